import PyProof.Rows.All
import PySem.PyData
import Wide.All
import OpenK.AllK
import Wide.FinOn
import HandS.ForMost
import HandS.Deep
import HandS.IsInst
import HandS.Defaults
import HandS.NoneIn
import KE.KStateDown
import Lean
import HandS.WordsExc
import HandS.Head0
import HandS.Head1
import HandS.Head2
import HandS.HeadEnd
import HandS.HeadHook1
import HandS.HeadHook2
import PySem.Challenge.RW_squaremates_k17_round_squares
set_option Elab.async false
set_option linter.all false
set_option maxRecDepth 100000

section
/-! Sq: what the program's text is worth: plain data, slots, and how expressions and statements act on them. -/
namespace Sq
open PySem

inductive Res (α : Type) where
  | ok (a : α)
  | exc (c : Nat) (p : PyData)
  | bad

namespace Res
def bind {α β : Type} (m : Res α) (f : α → Res β) : Res β := match m with
  | .ok a => f a
  | .exc c p => .exc c p
  | .bad => .bad
instance : Monad Res where
  pure := .ok
  bind := Res.bind
@[simp] theorem bind_ok {α β : Type} (a : α) (f : α → Res β) : ((Res.ok a) >>= f) = f a := rfl
@[simp] theorem bind_bad {α β : Type} (f : α → Res β) : ((Res.bad : Res α) >>= f) = .bad := rfl
@[simp] theorem bind_exc {α β : Type} (c : Nat) (p : PyData) (f : α → Res β) : ((Res.exc c p : Res α) >>= f) = .exc c p := rfl
@[simp] theorem pure_ok {α : Type} (a : α) : (pure a : Res α) = .ok a := rfl
theorem bind_eq_ok {α β : Type} {m : Res α} {f : α → Res β} {b : β} : (m >>= f) = .ok b ↔ ∃ a, m = .ok a ∧ f a = .ok b := by
  cases m with
  | ok a => exact ⟨fun h => ⟨a, rfl, h⟩, fun ⟨a', e, h⟩ => by cases e; exact h⟩
  | exc c p => exact ⟨fun h => (by cases h), fun ⟨a', e, h⟩ => by cases e⟩
  | bad => exact ⟨fun h => (by cases h), fun ⟨a', e, h⟩ => by cases e⟩
end Res

/-! hgt: how many levels of lists (and of tuples that hold lists) there are -/
mutual
def hgt : PyData → Nat
  | .none => 0
  | .bool _ => 0
  | .int _ => 0
  | .str _ => 0
  | .list ds => hgtAll ds + 1
  | .tuple ds => match hgtAll ds with
    | 0 => 0
    | n + 1 => n + 2
  | .dict kvs => hgtKv kvs + 1
def hgtAll : List PyData → Nat
  | [] => 0
  | d :: ds => max (hgt d) (hgtAll ds)
def hgtKv : List (PyData × PyData) → Nat
  | [] => 0
  | d :: ds => max (hgtP d) (hgtKv ds)
def hgtP : PyData × PyData → Nat
  | (_, d) => hgt d
end

/-- a value, and how deep it is one's own -/
abbrev DV := PyData × Nat
abbrev SD := List (Option DV)
def full (x : DV) : Bool := decide (hgt x.1 ≤ x.2)
/-- how deep, 9 for all of it -/
def dep (x : DV) : Nat := if full x then 9 else x.2
/-- how deep the items are one's own -/
def depI (x : DV) : Nat := if full x || decide (hgt x.1 ≤ 1) then 9 else x.2 - 1
def minAll : List Nat → Nat
  | [] => 9
  | n :: ns => min n (minAll ns)
def demote (is : List Nat) (s : SD) : SD := s.mapIdx fun i o => if i ∈ is then o.map fun x => (x.1, 0) else o

abbrev Ex := SD → Res (DV × SD)
abbrev Exs := SD → Res (List DV × SD)

def eC (d : PyData) : Ex := fun s => .ok ((d, 0), s)
def slot (s : SD) (i : Nat) : Res DV := match s[i]? with
  | some (some x) => .ok x
  | _ => .bad
def eVar (i : Nat) : Ex := fun s => do
  let x ← slot s i
  .ok ((x.1, 0), s)
def eMove (i : Nat) : Ex := fun s => do
  let x ← slot s i
  .ok (x, s.set i none)
def e1 (g : PyData → Res PyData) (a : Ex) : Ex := fun s => do
  let (x, s) ← a s
  let d ← g x.1
  .ok ((d, 0), s)
def e2 (g : PyData → PyData → Res PyData) (a b : Ex) : Ex := fun s => do
  let (x, s) ← a s
  let (y, s) ← b s
  let d ← g x.1 y.1
  .ok ((d, 0), s)
def eNil : Exs := fun s => .ok ([], s)
def eCons (a : Ex) (b : Exs) : Exs := fun s => do
  let (x, s) ← a s
  let (xs, s) ← b s
  .ok (x :: xs, s)
def eList (a : Exs) : Ex := fun s => do
  let (xs, s) ← a s
  .ok ((.list (xs.map (·.1)), minAll (xs.map dep) + 1), s)
def eTup (a : Exs) : Ex := fun s => do
  let (xs, s) ← a s
  .ok ((.tuple (xs.map (·.1)), minAll (xs.map dep) + 1), s)
end Sq
end

section
namespace Sq
open PySem PySem.Spec L2

/-- what can be changed -/
def Chg : HO → Prop
  | .lst _ => True
  | .dK _ => True
  | .dT _ => True
  | _ => False

mutual
/-- v is d; its first k levels are one's own, at F; what is shared lies in Z -/
def Own (K : PySem.W.Frag) (Z : Addr → Prop) (H : Hp) : Nat → V → PyData → List Addr → Prop
  | _, v, .none, F => v = .non ∧ F = []
  | _, v, .bool b, F => v = .bl b ∧ F = []
  | _, v, .int i, F => v = .int i ∧ F = []
  | _, v, .str x, F => v = .str x ∧ F = []
  | 0, v, .list ds, F => ∃ p vs, v = .ref p ∧ (Z p ∧ Rd H p (.lst vs)) ∧ OwnAll K Z H 0 vs ds F
  | k + 1, v, .list ds, F => ∃ p vs F', v = .ref p ∧ H p = some (.lst vs) ∧ OwnAll K Z H k vs ds F' ∧ F = p :: F'
  | k, v, .tuple ds, F => ∃ p vs, v = .ref p ∧ SqT K H p vs ∧ OwnAll K Z H (k - 1) vs ds F
  | _, _, .dict _, _ => False
def OwnAll (K : PySem.W.Frag) (Z : Addr → Prop) (H : Hp) : Nat → List V → List PyData → List Addr → Prop
  | _, vs, [], F => vs = [] ∧ F = []
  | k, vs, d :: ds, F => ∃ v vs' F1 F2, vs = v :: vs' ∧ Own K Z H k v d F1 ∧ OwnAll K Z H k vs' ds F2 ∧ F = F1 ++ F2
end

section
variable {K : PySem.W.Frag} {Z Z' : Addr → Prop} {H H' : Hp}

/-- what must stay so that Own stays -/
def Kp (S : Addr → Prop) (H H' : Hp) : Prop := ∀ a o, H a = some o → (S a ∨ ¬ Chg o) → H' a = some o

theorem Rd.kp {S : Addr → Prop} (h : Kp S H H') {p : Addr} {vs : List V} (z : S p) (r : Rd H p (.lst vs)) : Rd H' p (.lst vs) := by
  rcases r with r | ⟨o, r⟩
  · exact .inl (h _ _ r (.inl z))
  · exact .inr ⟨o, h _ _ r (.inl z)⟩
theorem SqT.kp {S : Addr → Prop} (h : Kp S H H') {p : Addr} {vs : List V} (r : SqT K H p vs) : SqT K H' p vs := by
  rcases r with (r | ⟨o, r⟩) | r
  · exact .inl (.inl (h _ _ r (.inr fun z => z)))
  · exact .inl (.inr ⟨o, h _ _ r (.inr fun z => z)⟩)
  · exact .inr r
mutual
theorem Own.keep : ∀ (d : PyData) {k : Nat} {v : V} {F : List Addr}, Own K Z H k v d F → Kp (fun a => a ∈ F ∨ Z a) H H' → Own K Z H' k v d F
  | .none, _, _, _, h, _ => by unfold Own at h ⊢; exact h
  | .bool _, _, _, _, h, _ => by unfold Own at h ⊢; exact h
  | .int _, _, _, _, h, _ => by unfold Own at h ⊢; exact h
  | .str _, _, _, _, h, _ => by unfold Own at h ⊢; exact h
  | .list ds, 0, _, _, h, kp => by
    unfold Own at h ⊢
    obtain ⟨p, vs, e, r, hs⟩ := h
    exact ⟨p, vs, e, ⟨r.1, Rd.kp kp (.inr r.1) r.2⟩, OwnAll.keep ds hs kp⟩
  | .list ds, k + 1, _, _, h, kp => by
    unfold Own at h ⊢
    obtain ⟨p, vs, F', e, r, hs, rfl⟩ := h
    exact ⟨p, vs, F', e, kp _ _ r (.inl (.inl (List.mem_cons_self ..))), OwnAll.keep ds hs (fun a o e z => kp a o e (z.imp (fun z => z.imp (fun z => List.mem_cons_of_mem _ z) id) id)), rfl⟩
  | .tuple ds, _, _, _, h, kp => by
    unfold Own at h ⊢
    obtain ⟨p, vs, e, r, hs⟩ := h
    exact ⟨p, vs, e, SqT.kp kp r, OwnAll.keep ds hs kp⟩
  | .dict _, _, _, _, h, _ => by unfold Own at h; exact h.elim
theorem OwnAll.keep : ∀ (ds : List PyData) {k : Nat} {vs : List V} {F : List Addr}, OwnAll K Z H k vs ds F → Kp (fun a => a ∈ F ∨ Z a) H H' → OwnAll K Z H' k vs ds F
  | [], _, _, _, h, _ => by unfold OwnAll at h ⊢; exact h
  | d :: ds, _, _, _, h, kp => by
    unfold OwnAll at h ⊢
    obtain ⟨v, vs', F1, F2, e, h1, h2, rfl⟩ := h
    exact ⟨v, vs', F1, F2, e, Own.keep d h1 (fun a o e z => kp a o e (z.imp (fun z => z.imp (fun z => List.mem_append_left _ z) id) id)), OwnAll.keep ds h2 (fun a o e z => kp a o e (z.imp (fun z => z.imp (fun z => List.mem_append_right _ z) id) id)), rfl⟩
end

mutual
theorem Own.zmono : ∀ (d : PyData) {k : Nat} {v : V} {F : List Addr}, Own K Z H k v d F → (∀ a, Z a → Z' a) → Own K Z' H k v d F
  | .none, _, _, _, h, _ => by unfold Own at h ⊢; exact h
  | .bool _, _, _, _, h, _ => by unfold Own at h ⊢; exact h
  | .int _, _, _, _, h, _ => by unfold Own at h ⊢; exact h
  | .str _, _, _, _, h, _ => by unfold Own at h ⊢; exact h
  | .list ds, 0, _, _, h, m => by
    unfold Own at h ⊢
    obtain ⟨p, vs, e, r, hs⟩ := h
    exact ⟨p, vs, e, ⟨m _ r.1, r.2⟩, OwnAll.zmono ds hs m⟩
  | .list ds, k + 1, _, _, h, m => by
    unfold Own at h ⊢
    obtain ⟨p, vs, F', e, r, hs, e2⟩ := h
    exact ⟨p, vs, F', e, r, OwnAll.zmono ds hs m, e2⟩
  | .tuple ds, _, _, _, h, m => by
    unfold Own at h ⊢
    obtain ⟨p, vs, e, r, hs⟩ := h
    exact ⟨p, vs, e, r, OwnAll.zmono ds hs m⟩
  | .dict _, _, _, _, h, _ => by unfold Own at h; exact h.elim
theorem OwnAll.zmono : ∀ (ds : List PyData) {k : Nat} {vs : List V} {F : List Addr}, OwnAll K Z H k vs ds F → (∀ a, Z a → Z' a) → OwnAll K Z' H k vs ds F
  | [], _, _, _, h, _ => by unfold OwnAll at h ⊢; exact h
  | d :: ds, _, _, _, h, m => by
    unfold OwnAll at h ⊢
    obtain ⟨v, vs', F1, F2, e, h1, h2, e2⟩ := h
    exact ⟨v, vs', F1, F2, e, Own.zmono d h1 m, OwnAll.zmono ds h2 m, e2⟩
end
mutual
/-- what is all one's own is so at every depth, whatever is shared -/
theorem Own.lift : ∀ (d : PyData) {k j : Nat} {v : V} {F : List Addr}, Own K Z H k v d F → hgt d ≤ k → hgt d ≤ j → Own K Z' H j v d F
  | .none, _, _, _, _, h, _, _ => by unfold Own at h ⊢; exact h
  | .bool _, _, _, _, _, h, _, _ => by unfold Own at h ⊢; exact h
  | .int _, _, _, _, _, h, _, _ => by unfold Own at h ⊢; exact h
  | .str _, _, _, _, _, h, _, _ => by unfold Own at h ⊢; exact h
  | .list ds, 0, _, _, _, h, l, _ => by unfold hgt at l; exact absurd l (by omega)
  | .list ds, k + 1, 0, _, _, h, _, l => by unfold hgt at l; exact absurd l (by omega)
  | .list ds, k + 1, j + 1, _, _, h, l, l' => by
    unfold Own at h ⊢
    unfold hgt at l l'
    obtain ⟨p, vs, F', e, r, hs, e2⟩ := h
    exact ⟨p, vs, F', e, r, OwnAll.lift ds hs (by omega) (by omega), e2⟩
  | .tuple ds, k, j, _, _, h, l, l' => by
    unfold Own at h ⊢
    unfold hgt at l l'
    obtain ⟨p, vs, e, r, hs⟩ := h
    refine ⟨p, vs, e, r, OwnAll.lift ds hs ?_ ?_⟩
    · split at l <;> omega
    · split at l' <;> omega
  | .dict _, _, _, _, _, h, _, _ => by unfold Own at h; exact h.elim
theorem OwnAll.lift : ∀ (ds : List PyData) {k j : Nat} {vs : List V} {F : List Addr}, OwnAll K Z H k vs ds F → hgtAll ds ≤ k → hgtAll ds ≤ j → OwnAll K Z' H j vs ds F
  | [], _, _, _, _, h, _, _ => by unfold OwnAll at h ⊢; exact h
  | d :: ds, _, _, _, _, h, l, l' => by
    unfold OwnAll at h ⊢
    unfold hgtAll at l l'
    obtain ⟨v, vs', F1, F2, e, h1, h2, e2⟩ := h
    exact ⟨v, vs', F1, F2, e, Own.lift d h1 (by omega) (by omega), OwnAll.lift ds h2 (by omega) (by omega), e2⟩
end
mutual
/-- less deep: the rest is shared from then on -/
theorem Own.lower : ∀ (d : PyData) {k j : Nat} {v : V} {F : List Addr}, Own K Z H k v d F → F.Nodup → j ≤ k → ∃ F' : List Addr, F'.Sublist F ∧ ∀ Z' : Addr → Prop, (∀ a, Z a → Z' a) → (∀ a ∈ F, a ∉ F' → Z' a) → Own K Z' H j v d F'
  | .none, _, _, _, _, h, _, _ => ⟨[], List.nil_sublist _, fun _ _ _ => by unfold Own at h ⊢; exact ⟨h.1, rfl⟩⟩
  | .bool _, _, _, _, _, h, _, _ => ⟨[], List.nil_sublist _, fun _ _ _ => by unfold Own at h ⊢; exact ⟨h.1, rfl⟩⟩
  | .int _, _, _, _, _, h, _, _ => ⟨[], List.nil_sublist _, fun _ _ _ => by unfold Own at h ⊢; exact ⟨h.1, rfl⟩⟩
  | .str _, _, _, _, _, h, _, _ => ⟨[], List.nil_sublist _, fun _ _ _ => by unfold Own at h ⊢; exact ⟨h.1, rfl⟩⟩
  | .list ds, 0, 0, _, F, h, _, _ => ⟨F, List.Sublist.refl _, fun Z' m _ => Own.zmono _ h m⟩
  | .list ds, 0, j + 1, _, F, h, _, l => absurd l (by omega)
  | .list ds, k + 1, 0, _, _, h, nd, _ => by
    unfold Own at h
    obtain ⟨p, vs, F', e, r, hs, rfl⟩ := h
    obtain ⟨G, sb, q⟩ := OwnAll.lower (j := 0) ds hs (List.nodup_cons.mp nd).2 (Nat.zero_le _)
    refine ⟨G, (sb.cons _), fun Z' m m2 => ?_⟩
    unfold Own
    refine ⟨p, vs, e, ⟨m2 p (List.mem_cons_self ..) (fun z => (List.nodup_cons.mp nd).1 (sb.subset z)), .inl r⟩, q Z' m fun a ha hn => m2 a (List.mem_cons_of_mem _ ha) hn⟩
  | .list ds, k + 1, j + 1, _, _, h, nd, l => by
    unfold Own at h
    obtain ⟨p, vs, F', e, r, hs, rfl⟩ := h
    obtain ⟨G, sb, q⟩ := OwnAll.lower (j := j) ds hs (List.nodup_cons.mp nd).2 (by omega)
    refine ⟨p :: G, sb.cons₂ _, fun Z' m m2 => ?_⟩
    unfold Own
    refine ⟨p, vs, G, e, r, q Z' m fun a ha hn => m2 a (List.mem_cons_of_mem _ ha) fun z => ?_, rfl⟩
    rcases List.mem_cons.mp z with rfl | z
    · exact (List.nodup_cons.mp nd).1 ha
    · exact hn z
  | .tuple ds, k, j, _, _, h, nd, l => by
    unfold Own at h
    obtain ⟨p, vs, e, r, hs⟩ := h
    obtain ⟨G, sb, q⟩ := OwnAll.lower (j := j - 1) ds hs nd (by omega)
    refine ⟨G, sb, fun Z' m m2 => ?_⟩
    unfold Own
    exact ⟨p, vs, e, r, q Z' m m2⟩
  | .dict _, _, _, _, _, h, _, _ => by unfold Own at h; exact h.elim
theorem OwnAll.lower : ∀ (ds : List PyData) {k j : Nat} {vs : List V} {F : List Addr}, OwnAll K Z H k vs ds F → F.Nodup → j ≤ k → ∃ F' : List Addr, F'.Sublist F ∧ ∀ Z' : Addr → Prop, (∀ a, Z a → Z' a) → (∀ a ∈ F, a ∉ F' → Z' a) → OwnAll K Z' H j vs ds F'
  | [], _, _, _, F, h, _, _ => ⟨[], List.nil_sublist _, fun _ _ _ => by unfold OwnAll at h ⊢; exact ⟨h.1, rfl⟩⟩
  | d :: ds, _, j, _, _, h, nd, l => by
    unfold OwnAll at h
    obtain ⟨v, vs', F1, F2, e, h1, h2, rfl⟩ := h
    obtain ⟨n1, n2, n3⟩ := List.nodup_append.mp nd
    obtain ⟨G1, s1, q1⟩ := Own.lower (j := j) d h1 n1 l
    obtain ⟨G2, s2, q2⟩ := OwnAll.lower (j := j) ds h2 n2 l
    refine ⟨G1 ++ G2, s1.append s2, fun Z' m m2 => ?_⟩
    unfold OwnAll
    refine ⟨v, vs', G1, G2, e, q1 Z' m fun a ha hn => m2 a (List.mem_append_left _ ha) fun z => ?_, q2 Z' m fun a ha hn => m2 a (List.mem_append_right _ ha) fun z => ?_, rfl⟩
    · rcases List.mem_append.mp z with z | z
      · exact hn z
      · exact n3 a ha a (s2.subset z) rfl
    · rcases List.mem_append.mp z with z | z
      · exact n3 a (s1.subset z) a ha rfl
      · exact hn z
end
mutual
theorem Own.nil0 : ∀ (d : PyData) {v : V} {F : List Addr}, Own K Z H 0 v d F → F = []
  | .none, _, _, h => by unfold Own at h; exact h.2
  | .bool _, _, _, h => by unfold Own at h; exact h.2
  | .int _, _, _, h => by unfold Own at h; exact h.2
  | .str _, _, _, h => by unfold Own at h; exact h.2
  | .list ds, _, _, h => by
    unfold Own at h
    obtain ⟨p, vs, e, r, hs⟩ := h
    exact OwnAll.nil0 ds hs
  | .tuple ds, _, _, h => by
    unfold Own at h
    obtain ⟨p, vs, e, r, hs⟩ := h
    exact OwnAll.nil0 ds hs
  | .dict _, _, _, h => by unfold Own at h; exact h.elim
theorem OwnAll.nil0 : ∀ (ds : List PyData) {vs : List V} {F : List Addr}, OwnAll K Z H 0 vs ds F → F = []
  | [], _, _, h => by unfold OwnAll at h; exact h.2
  | d :: ds, _, _, h => by
    unfold OwnAll at h
    obtain ⟨v, vs', F1, F2, e, h1, h2, rfl⟩ := h
    rw [Own.nil0 d h1, OwnAll.nil0 ds h2]
    rfl
end
mutual
theorem Own.isl : ∀ (d : PyData) {k : Nat} {v : V} {F : List Addr}, Own K Z H k v d F → ∀ a ∈ F, ∃ o, H a = some o ∧ Chg o
  | .none, _, _, _, h, a, m => by unfold Own at h; rw [h.2] at m; cases m
  | .bool _, _, _, _, h, a, m => by unfold Own at h; rw [h.2] at m; cases m
  | .int _, _, _, _, h, a, m => by unfold Own at h; rw [h.2] at m; cases m
  | .str _, _, _, _, h, a, m => by unfold Own at h; rw [h.2] at m; cases m
  | .list ds, 0, _, _, h, a, m => by
    unfold Own at h
    obtain ⟨p, vs, e, r, hs⟩ := h
    exact OwnAll.isl ds hs a m
  | .list ds, k + 1, _, _, h, a, m => by
    unfold Own at h
    obtain ⟨p, vs, F', e, r, hs, rfl⟩ := h
    rcases List.mem_cons.mp m with rfl | m
    · exact ⟨_, r, trivial⟩
    · exact OwnAll.isl ds hs a m
  | .tuple ds, _, _, _, h, a, m => by
    unfold Own at h
    obtain ⟨p, vs, e, r, hs⟩ := h
    exact OwnAll.isl ds hs a m
  | .dict _, _, _, _, h, a, m => by unfold Own at h; exact h.elim
theorem OwnAll.isl : ∀ (ds : List PyData) {k : Nat} {vs : List V} {F : List Addr}, OwnAll K Z H k vs ds F → ∀ a ∈ F, ∃ o, H a = some o ∧ Chg o
  | [], _, _, _, h, a, m => by unfold OwnAll at h; rw [h.2] at m; cases m
  | d :: ds, _, _, _, h, a, m => by
    unfold OwnAll at h
    obtain ⟨v, vs', F1, F2, e, h1, h2, rfl⟩ := h
    rcases List.mem_append.mp m with m | m
    · exact Own.isl d h1 a m
    · exact OwnAll.isl ds h2 a m
end
mutual
theorem Own.dp : ∀ (d : PyData) {k : Nat} {v : V} {F : List Addr}, Own K Z H k v d F → Dp K H v d
  | .none, _, _, _, h => by unfold Own at h; rw [h.1]; exact .non
  | .bool _, _, _, _, h => by unfold Own at h; rw [h.1]; exact .bl _
  | .int _, _, _, _, h => by unfold Own at h; rw [h.1]; exact .int _
  | .str _, _, _, _, h => by unfold Own at h; rw [h.1]; exact .str _
  | .list ds, 0, _, _, h => by
    unfold Own at h
    obtain ⟨p, vs, rfl, r, hs⟩ := h
    exact .lst (.inl r.2) (OwnAll.dp ds hs)
  | .list ds, k + 1, _, _, h => by
    unfold Own at h
    obtain ⟨p, vs, F', rfl, r, hs, rfl⟩ := h
    exact .lst (SqL.of r) (OwnAll.dp ds hs)
  | .tuple ds, _, _, _, h => by
    unfold Own at h
    obtain ⟨p, vs, rfl, r, hs⟩ := h
    exact .tup r (OwnAll.dp ds hs)
  | .dict _, _, _, _, h => by unfold Own at h; exact h.elim
theorem OwnAll.dp : ∀ (ds : List PyData) {k : Nat} {vs : List V} {F : List Addr}, OwnAll K Z H k vs ds F → DpAll K H vs ds
  | [], _, _, _, h => by unfold OwnAll at h; rw [h.1]; exact .nil
  | d :: ds, _, _, _, h => by
    unfold OwnAll at h
    obtain ⟨v, vs', F1, F2, rfl, h1, h2, rfl⟩ := h
    exact .cons (Own.dp d h1) (OwnAll.dp ds h2)
end
theorem OwnAll.len : ∀ (ds : List PyData) {k : Nat} {vs : List V} {F : List Addr}, OwnAll K Z H k vs ds F → vs.length = ds.length
  | [], _, _, _, h => by unfold OwnAll at h; rw [h.1]; rfl
  | d :: ds, _, _, _, h => by
    unfold OwnAll at h
    obtain ⟨v, vs', F1, F2, rfl, h1, h2, rfl⟩ := h
    exact congrArg Nat.succ (OwnAll.len ds h2)
/-- the list behind a value -/
theorem Own.rdL {k : Nat} {v : V} {ds : List PyData} {F : List Addr} (h : Own K Z H k v (.list ds) F) : ∃ p vs F', v = .ref p ∧ Rd H p (.lst vs) ∧ OwnAll K Z H (k - 1) vs ds F' ∧ ((k = 0 ∧ F' = F ∧ Z p) ∨ (k ≠ 0 ∧ F = p :: F' ∧ H p = some (.lst vs))) := by
  cases k with
  | zero =>
    unfold Own at h
    obtain ⟨p, vs, rfl, r, hs⟩ := h
    exact ⟨p, vs, F, rfl, r.2, hs, .inl ⟨rfl, rfl, r.1⟩⟩
  | succ k =>
    unfold Own at h
    obtain ⟨p, vs, F', rfl, r, hs, rfl⟩ := h
    exact ⟨p, vs, F', rfl, .inl r, hs, .inr ⟨by omega, rfl, r⟩⟩
theorem Own.sub {k : Nat} {v : V} {ds : List PyData} {F : List Addr} (h : Own K Z H k v (.list ds) F) : ∃ p vs F', v = .ref p ∧ Rd H p (.lst vs) ∧ OwnAll K Z H (k - 1) vs ds F' ∧ F'.Sublist F := by
  obtain ⟨p, vs, F', e, r, hs, q⟩ := h.rdL
  refine ⟨p, vs, F', e, r, hs, ?_⟩
  rcases q with ⟨_, rfl, _⟩ | ⟨_, rfl, _⟩
  · exact List.Sublist.refl _
  · exact List.sublist_cons_self _ _
/-- one item of several -/
theorem OwnAll.get : ∀ (ds : List PyData) {k : Nat} {vs : List V} {F : List Addr} (i : Nat) {d : PyData}, OwnAll K Z H k vs ds F → ds[i]? = some d → ∃ v F', vs[i]? = some v ∧ Own K Z H k v d F' ∧ F'.Sublist F
  | [], _, _, _, i, _, _, e => by simp at e
  | d :: ds, _, _, _, 0, _, h, e => by
    unfold OwnAll at h
    obtain ⟨v, vs', F1, F2, rfl, h1, h2, rfl⟩ := h
    simp only [List.getElem?_cons_zero, Option.some.injEq] at e
    subst e
    exact ⟨v, F1, rfl, h1, List.sublist_append_left _ _⟩
  | d :: ds, _, _, _, i + 1, _, h, e => by
    unfold OwnAll at h
    obtain ⟨v, vs', F1, F2, rfl, h1, h2, rfl⟩ := h
    simp only [List.getElem?_cons_succ] at e
    obtain ⟨w, F', e1, q, sb⟩ := OwnAll.get ds i h2 e
    exact ⟨w, F', by simpa using e1, q, sb.trans (List.sublist_append_right _ _)⟩
end
end Sq
end

section
namespace Sq
open PySem PySem.Spec L2

abbrev Zs := Addr → Prop
abbrev Fp := Nat → List Addr

/-- the slots are what they are told to be -/
structure Good (K : PySem.W.Frag) (Z : Zs) (H : Hp) (σ : St) (s : SD) (Fs : Fp) : Prop where
  len : s.length = σ.length
  own : ∀ (i : Nat) d k, s[i]? = some (some (d, k)) → ∃ v, σ[i]? = some (some v) ∧ Own K Z H k v d (Fs i)
  nd : ∀ i, (Fs i).Nodup
  dj : ∀ i j, i ≠ j → ∀ a ∈ Fs i, a ∉ Fs j
  nz : ∀ i, ∀ a ∈ Fs i, ¬ Z a
  isl : ∀ i, ∀ a ∈ Fs i, ∃ o, H a = some o ∧ Chg o
  zt : ∀ a, Z a → ∃ o, H a = some o

/-- from one moment to a later one: only what the slots mv own may be changed -/
structure Tr (mv : List Nat) (H : Hp) (Z : Zs) (Fs : Fp) (H' : Hp) (Z' : Zs) (Fs' : Fp) : Prop where
  ev : ∀ a o, H a = some o → (∀ i ∈ mv, a ∉ Fs i) → H' a = some o
  dom : ∀ a, H' a = none → H a = none
  zm : ∀ a, Z a → Z' a
  zb : ∀ a, Z' a → Z a ∨ H a = none ∨ ∃ i ∈ mv, a ∈ Fs i
  fo : ∀ i, i ∉ mv → Fs' i = Fs i
  fb : ∀ i ∈ mv, ∀ a ∈ Fs' i, H a = none ∨ ∃ j ∈ mv, a ∈ Fs j

theorem Tr.refl {H : Hp} {Z : Zs} {Fs : Fp} (mv : List Nat) : Tr mv H Z Fs H Z Fs :=
  ⟨fun _ _ e _ => e, fun _ e => e, fun _ z => z, fun _ z => .inl z, fun _ _ => rfl, fun i hi a ha => .inr ⟨i, hi, ha⟩⟩
theorem Tr.weak {mv mv' : List Nat} {H H' : Hp} {Z Z' : Zs} {Fs Fs' : Fp} (t : Tr mv H Z Fs H' Z' Fs') (h : ∀ i ∈ mv, i ∈ mv') : Tr mv' H Z Fs H' Z' Fs' where
  ev := fun a o e n => t.ev a o e fun i hi => n i (h i hi)
  dom := t.dom
  zm := t.zm
  zb := fun a z => (t.zb a z).imp id (fun z => z.imp id fun ⟨i, hi, ha⟩ => ⟨i, h i hi, ha⟩)
  fo := fun i hi => t.fo i fun z => hi (h i z)
  fb := fun i hi a ha => by
    by_cases m : i ∈ mv
    · exact (t.fb i m a ha).imp id fun ⟨j, hj, q⟩ => ⟨j, h j hj, q⟩
    · rw [t.fo i m] at ha
      exact .inr ⟨i, hi, ha⟩
theorem Tr.trans {m1 m2 mv : List Nat} {H H1 H2 : Hp} {Z Z1 Z2 : Zs} {Fs Fs1 Fs2 : Fp} (t : Tr m1 H Z Fs H1 Z1 Fs1) (u : Tr m2 H1 Z1 Fs1 H2 Z2 Fs2) (h1 : ∀ i ∈ m1, i ∈ mv) (h2 : ∀ i ∈ m2, i ∈ mv) : Tr mv H Z Fs H2 Z2 Fs2 := by
  have t' := t.weak h1
  have u' := u.weak h2
  have bk : ∀ a, (∃ i ∈ mv, a ∈ Fs1 i) → H a = none ∨ ∃ j ∈ mv, a ∈ Fs j := fun a ⟨i, hi, ha⟩ => t'.fb i hi a ha
  refine ⟨fun a o e n => u'.ev a o (t'.ev a o e n) fun i hi ha => ?_, fun a e => t'.dom a (u'.dom a e), fun a z => u'.zm a (t'.zm a z), fun a z => ?_, fun i hi => (u'.fo i hi).trans (t'.fo i hi), fun i hi a ha => ?_⟩
  · rcases t'.fb i hi a ha with q | ⟨j, hj, q⟩
    · rw [e] at q; cases q
    · exact n j hj q
  · rcases u'.zb a z with q | q | q
    · exact t'.zb a q
    · exact .inr (.inl (t'.dom a q))
    · exact .inr (bk a q)
  · rcases u'.fb i hi a ha with q | q
    · exact .inl (t'.dom a q)
    · exact bk a q

/-- what is held beside the slots: P of what may be shared, the heap, and what is owned -/
abbrev Pr := Zs → Hp → List Addr → Prop
structure Stb (P : Pr) : Prop where
  keep : ∀ {Z : Zs} {H H' : Hp} {F : List Addr}, P Z H F → Kp (fun a => a ∈ F ∨ Z a) H H' → P Z H' F
  zm : ∀ {Z Z' : Zs} {H : Hp} {F : List Addr}, P Z H F → (∀ a, Z a → Z' a) → P Z' H F
  isl : ∀ {Z : Zs} {H : Hp} {F : List Addr}, P Z H F → ∀ a ∈ F, ∃ o, H a = some o ∧ Chg o

/-- what may be shared with the slots fv -/
def Zf (Z : Zs) (Fs : Fp) (fv : List Nat) : Zs := fun a => Z a ∨ ∃ i ∈ fv, a ∈ Fs i

structure Held (P : Pr) (fv : List Nat) (H : Hp) (Z : Zs) (Fs : Fp) (F : List Addr) : Prop where
  pr : P (Zf Z Fs fv) H F
  nd : F.Nodup
  nf : ∀ a ∈ F, ∀ i, a ∉ Fs i
  nz : ∀ a ∈ F, ¬ Z a

/-- held things stay while slots are changed that they share nothing with -/
theorem Held.on {K : PySem.W.Frag} {P : Pr} {fv mv : List Nat} {H H' : Hp} {Z Z' : Zs} {Fs Fs' : Fp} {F : List Addr} {σ : St} {s : SD} (S : Stb P) (h : Held P fv H Z Fs F) (g : Good K Z H σ s Fs) (t : Tr mv H Z Fs H' Z' Fs') (d : ∀ i ∈ fv, i ∉ mv) : Held P fv H' Z' Fs' F := by
  have out : ∀ a ∈ F, ∃ o, H a = some o := fun a ha => let ⟨o, e, _⟩ := S.isl h.pr a ha; ⟨o, e⟩
  refine ⟨S.zm (S.keep h.pr fun a o e q => ?_) (fun a z => ?_), h.nd, fun a ha i z => ?_, fun a ha z => ?_⟩
  · refine t.ev a o e fun i hi ha => ?_
    rcases q with (q | q | ⟨j, hj, q⟩) | q
    · exact h.nf a q i ha
    · exact g.nz i a ha q
    · exact g.dj j i (fun e => d j hj (e ▸ hi)) a q ha
    · obtain ⟨o', e', c⟩ := g.isl i a ha
      rw [e] at e'; cases e'
      exact q c
  · rcases z with z | ⟨i, hi, z⟩
    · exact .inl (t.zm a z)
    · exact .inr ⟨i, hi, by rw [t.fo i (d i hi)]; exact z⟩
  · by_cases m : i ∈ mv
    · rcases t.fb i m a z with q | ⟨j, _, q⟩
      · obtain ⟨o, e⟩ := out a ha
        rw [e] at q; cases q
      · exact h.nf a ha j q
    · rw [t.fo i m] at z
      exact h.nf a ha i z
  · rcases t.zb a z with q | q | ⟨i, _, q⟩
    · exact h.nz a ha q
    · obtain ⟨o, e⟩ := out a ha
      rw [e] at q; cases q
    · exact h.nf a ha i q

def POne (K : PySem.W.Frag) (v : V) (x : DV) : Pr := fun Z H F => Own K Z H x.2 v x.1 F
def OwnL (K : PySem.W.Frag) (Z : Zs) (H : Hp) : List V → List DV → List Addr → Prop
  | vs, [], F => vs = [] ∧ F = []
  | vs, x :: xs, F => ∃ v vs' F1 F2, vs = v :: vs' ∧ Own K Z H x.2 v x.1 F1 ∧ OwnL K Z H vs' xs F2 ∧ F = F1 ++ F2
def PAll (K : PySem.W.Frag) (vs : List V) (xs : List DV) : Pr := fun Z H F => OwnL K Z H vs xs F
theorem stb_one (K : PySem.W.Frag) (v : V) (x : DV) : Stb (POne K v x) := ⟨fun h k => Own.keep _ h k, fun h m => Own.zmono _ h m, fun h => Own.isl _ h⟩
theorem OwnL.keep {K : PySem.W.Frag} {Z : Zs} {H H' : Hp} : ∀ {xs : List DV} {vs : List V} {F : List Addr}, OwnL K Z H vs xs F → Kp (fun a => a ∈ F ∨ Z a) H H' → OwnL K Z H' vs xs F
  | [], _, _, h, _ => h
  | x :: xs, _, _, ⟨v, vs', F1, F2, e, h1, h2, e2⟩, k => by
    subst e2
    exact ⟨v, vs', F1, F2, e, Own.keep _ h1 fun a o e z => k a o e (z.imp (fun z => z.imp (fun z => List.mem_append_left _ z) id) id), OwnL.keep h2 fun a o e z => k a o e (z.imp (fun z => z.imp (fun z => List.mem_append_right _ z) id) id), rfl⟩
theorem OwnL.zmono {K : PySem.W.Frag} {Z Z' : Zs} {H : Hp} (m : ∀ a, Z a → Z' a) : ∀ {xs : List DV} {vs : List V} {F : List Addr}, OwnL K Z H vs xs F → OwnL K Z' H vs xs F
  | [], _, _, h => h
  | x :: xs, _, _, ⟨v, vs', F1, F2, e, h1, h2, e2⟩ => ⟨v, vs', F1, F2, e, Own.zmono _ h1 m, OwnL.zmono m h2, e2⟩
theorem OwnL.isl {K : PySem.W.Frag} {Z : Zs} {H : Hp} : ∀ {xs : List DV} {vs : List V} {F : List Addr}, OwnL K Z H vs xs F → ∀ a ∈ F, ∃ o, H a = some o ∧ Chg o
  | [], _, _, h, a, m => by rw [h.2] at m; cases m
  | x :: xs, _, _, ⟨v, vs', F1, F2, e, h1, h2, e2⟩, a, m => by
    subst e2
    rcases List.mem_append.mp m with m | m
    · exact Own.isl _ h1 a m
    · exact OwnL.isl h2 a m
theorem OwnL.len {K : PySem.W.Frag} {Z : Zs} {H : Hp} : ∀ {xs : List DV} {vs : List V} {F : List Addr}, OwnL K Z H vs xs F → vs.length = xs.length
  | [], _, _, h => by rw [h.1]; rfl
  | x :: xs, _, _, ⟨v, vs', F1, F2, e, h1, h2, e2⟩ => by rw [e]; exact congrArg Nat.succ h2.len
theorem stb_all (K : PySem.W.Frag) (vs : List V) (xs : List DV) : Stb (PAll K vs xs) := ⟨fun h k => OwnL.keep h k, fun h m => OwnL.zmono m h, fun h => OwnL.isl h⟩

/-- behind a piece of code: from (H, Z, Fs) to (H', Z', Fs'), the slots s', and what is held -/
structure Post (K : PySem.W.Frag) (P : Pr) (fv mv : List Nat) (H : Hp) (Z : Zs) (Fs : Fp) (σ : St) (s' : SD) (H' : Hp) (Z' : Zs) (Fs' : Fp) (F : List Addr) : Prop where
  tr : Tr mv H Z Fs H' Z' Fs'
  good : Good K Z' H' σ s' Fs'
  held : Held P fv H' Z' Fs' F
  new : ∀ a ∈ F, H a = none ∨ ∃ i ∈ mv, a ∈ Fs i

def tE (K : PySem.W.Frag) (fv mv : List Nat) (f : Ex) : TE := fun σ H Q => ∃ Z s Fs x s', Good K Z H σ s Fs ∧ f s = .ok (x, s') ∧ ∀ v H' Z' Fs' F, Post K (POne K v x) fv mv H Z Fs σ s' H' Z' Fs' F → Q v H'
/-- io: which arguments are slots' own things -/
def IoOk (io : List (Nat × Nat)) (σ : L2.St) (vs : List V) : Prop := ∀ p ∈ io, ∃ v, vs[p.1]? = some v ∧ σ[p.2]? = some (some v)
def tA (K : PySem.W.Frag) (fv mv : List Nat) (io : List (Nat × Nat)) (f : Exs) : TA := fun σ H Q => ∃ Z s Fs xs s', Good K Z H σ s Fs ∧ f s = .ok (xs, s') ∧ ∀ vs H' Z' Fs' F, Post K (PAll K vs xs) fv mv H Z Fs σ s' H' Z' Fs' F → IoOk io σ vs → Q vs H'
abbrev Tst := SD → Res (Bool × SD)
def PNone : Pr := fun _ _ F => F = []
theorem stb_none : Stb PNone := ⟨fun h _ => h, fun h _ => h, fun h a m => by rw [h] at m; cases m⟩
def tT (K : PySem.W.Frag) (mv : List Nat) (f : Tst) : TT := fun σ H Q => ∃ Z s Fs b s', Good K Z H σ s Fs ∧ f s = .ok (b, s') ∧ ∀ H' Z' Fs', Post K PNone [] mv H Z Fs σ s' H' Z' Fs' [] → Q b H'

theorem PE.of {X : Cx} {e : Expr} {t t' : TE} (h : PE X e t) (i : ∀ σ H Q, t' σ H Q → t σ H Q) : PE X e t' := ⟨fun pins s σ H Q I q => h.run pins s σ H Q I (i σ H Q q)⟩
theorem PT.of {X : Cx} {e : Expr} {t t' : TT} (h : PT X e t) (i : ∀ σ H Q, t' σ H Q → t σ H Q) : PT X e t' := ⟨fun pins s σ H Q I q => h.run pins s σ H Q I (i σ H Q q)⟩
theorem PW.of {X : Cx} {e : Expr} {t t' : TT} (h : PW X e t) (i : ∀ σ H Q, t' σ H Q → t σ H Q) : PW X e t' := ⟨fun w pins s σ H Q I q => h.run w pins s σ H Q I (i σ H Q q)⟩
theorem PA.of {X : Cx} {es : List Expr} {t t' : TA} (h : PA X es t) (i : ∀ σ H Q, t' σ H Q → t σ H Q) : PA X es t' := ⟨fun p pins s σ H Q I q => h.run p pins s σ H Q I (i σ H Q q)⟩
theorem PS.of {X : Cx} {e : Stmt} {t t' : TS} (h : PS X e t) (i : ∀ D σ H, t' D σ H → t D σ H) : PS X e t' := ⟨fun pins s σ H D I q => h.run pins s σ H D I (i D σ H q)⟩
theorem PSs.of {X : Cx} {e : List Stmt} {t t' : TS} (h : PSs X e t) (i : ∀ D σ H, t' D σ H → t D σ H) : PSs X e t' := ⟨fun pins s σ H D I q => h.run pins s σ H D I (i D σ H q)⟩
end Sq
end

section
namespace Sq
open PySem PySem.Spec L2
section
variable {K : PySem.W.Frag} {Z Z' Z1 : Zs} {H H' H1 : Hp} {Fs Fs' Fs1 : Fp} {σ : St} {s s' : SD} {F F' : List Addr} {fv mv : List Nat} {P P' : Pr}

theorem Own.to {d : PyData} {k m : Nat} {v : V} (h : Own K Z H k v d F) (nd : F.Nodup) (l : hgt d ≤ k ∨ m ≤ k) : ∃ F' : List Addr, F'.Sublist F ∧ ∀ Z' : Zs, (∀ a, Z a → Z' a) → (∀ a ∈ F, a ∉ F' → Z' a) → Own K Z' H m v d F' := by
  by_cases q : m ≤ k
  · exact Own.lower d h nd q
  · have l' : hgt d ≤ k := by omega
    exact ⟨F, List.Sublist.refl _, fun Z' _ _ => Own.lift d h l' (by omega)⟩
theorem OwnAll.to {ds : List PyData} {k m : Nat} {vs : List V} (h : OwnAll K Z H k vs ds F) (nd : F.Nodup) (l : hgtAll ds ≤ k ∨ m ≤ k) : ∃ F' : List Addr, F'.Sublist F ∧ ∀ Z' : Zs, (∀ a, Z a → Z' a) → (∀ a ∈ F, a ∉ F' → Z' a) → OwnAll K Z' H m vs ds F' := by
  by_cases q : m ≤ k
  · exact OwnAll.lower ds h nd q
  · have l' : hgtAll ds ≤ k := by omega
    exact ⟨F, List.Sublist.refl _, fun Z' _ _ => OwnAll.lift ds h l' (by omega)⟩
theorem full_iff {x : DV} : full x = true ↔ hgt x.1 ≤ x.2 := by unfold full; exact decide_eq_true_iff
theorem OwnL.to : ∀ {xs : List DV} {vs : List V} {F : List Addr} {m : Nat}, OwnL K Z H vs xs F → F.Nodup → m ≤ minAll (xs.map dep) → ∃ F' : List Addr, F'.Sublist F ∧ ∀ Z' : Zs, (∀ a, Z a → Z' a) → (∀ a ∈ F, a ∉ F' → Z' a) → OwnAll K Z' H m vs (xs.map (·.1)) F'
  | [], _, F, _, h, _, _ => ⟨[], List.nil_sublist _, fun _ _ _ => by
      rw [List.map_nil]; unfold OwnAll; exact ⟨h.1, rfl⟩⟩
  | x :: xs, _, _, m, ⟨v, vs', F1, F2, e, h1, h2, e2⟩, nd, l => by
    subst e2
    obtain ⟨n1, n2, n3⟩ := List.nodup_append.mp nd
    rw [List.map_cons, minAll] at l
    have l1 : hgt x.1 ≤ x.2 ∨ m ≤ x.2 := by
      by_cases q : full x = true
      · exact .inl (full_iff.mp q)
      · have : dep x = x.2 := by unfold dep; rw [if_neg q]
        rw [this] at l
        exact .inr (by omega)
    obtain ⟨G1, s1, q1⟩ := Own.to (m := m) h1 n1 l1
    obtain ⟨G2, s2, q2⟩ := OwnL.to (m := m) h2 n2 (by omega)
    refine ⟨G1 ++ G2, s1.append s2, fun Z' mz m2 => ?_⟩
    rw [List.map_cons]
    unfold OwnAll
    refine ⟨v, vs', G1, G2, e, q1 Z' mz fun a ha hn => m2 a (List.mem_append_left _ ha) fun z => ?_, q2 Z' mz fun a ha hn => m2 a (List.mem_append_right _ ha) fun z => ?_, rfl⟩
    · rcases List.mem_append.mp z with z | z
      · exact hn z
      · exact n3 a ha a (s2.subset z) rfl
    · rcases List.mem_append.mp z with z | z
      · exact n3 a (s1.subset z) a ha rfl
      · exact hn z
/-- seen by others: all of it shared -/
theorem Own.share {d : PyData} {k : Nat} {v : V} (h : Own K Z H k v d F) (nd : F.Nodup) : Own K (fun a => Z a ∨ a ∈ F) H 0 v d [] := by
  obtain ⟨F', sb, q⟩ := Own.lower (j := 0) d h nd (Nat.zero_le _)
  have r := q (fun a => Z a ∨ a ∈ F) (fun a z => .inl z) (fun a ha _ => .inr ha)
  have e := Own.nil0 d r
  rw [e] at r
  exact r

theorem Good.kp (g : Good K Z H σ s Fs) {p : Addr} {o : HO} (hp : H p = none) (S : Addr → Prop) : Kp S H (upd H p o) := fun a u e _ => by
  rw [upd_ne (ne_of_none e hp)]
  exact e
/-- a new object beside the slots -/
theorem Good.laid (g : Good K Z H σ s Fs) {p : Addr} {o : HO} (hp : H p = none) : Good K Z (upd H p o) σ s Fs where
  len := g.len
  own := fun i d k e => by
    obtain ⟨v, e1, h⟩ := g.own i d k e
    exact ⟨v, e1, Own.keep d h (g.kp hp _)⟩
  nd := g.nd
  dj := g.dj
  nz := g.nz
  isl := fun i a ha => by
    obtain ⟨o', e, c⟩ := g.isl i a ha
    exact ⟨o', by rw [upd_ne (ne_of_none e hp)]; exact e, c⟩
  zt := fun a z => by
    obtain ⟨o', e⟩ := g.zt a z
    exact ⟨o', by rw [upd_ne (ne_of_none e hp)]; exact e⟩
/-- more is shared -/
theorem Good.more (g : Good K Z H σ s Fs) (m : ∀ a, Z a → Z' a) (n : ∀ a, Z' a → ∀ i, a ∉ Fs i) (t : ∀ a, Z' a → ∃ o, H a = some o) : Good K Z' H σ s Fs where
  len := g.len
  own := fun i d k e => by
    obtain ⟨v, e1, h⟩ := g.own i d k e
    exact ⟨v, e1, Own.zmono d h m⟩
  nd := g.nd
  dj := g.dj
  nz := fun i a ha z => n a z i ha
  isl := g.isl
  zt := t

/-- other things held -/
theorem Post.sub (h : Post K P fv mv H Z Fs σ s' H1 Z1 Fs1 F) (sb : F'.Sublist F) (pr : P' (Zf Z1 Fs1 fv) H1 F') : Post K P' fv mv H Z Fs σ s' H1 Z1 Fs1 F' :=
  ⟨h.tr, h.good, ⟨pr, h.held.nd.sublist sb, fun a ha => h.held.nf a (sb.subset ha), fun a ha => h.held.nz a (sb.subset ha)⟩, fun a ha => h.new a (sb.subset ha)⟩
theorem Post.sc (h : Post K P fv mv H Z Fs σ s' H1 Z1 Fs1 F) {v : V} {x : DV} (pr : Own K (Zf Z1 Fs1 fv) H1 x.2 v x.1 []) : Post K (POne K v x) fv mv H Z Fs σ s' H1 Z1 Fs1 [] := h.sub (List.nil_sublist _) pr
theorem Post.nothing (h : Post K P fv mv H Z Fs σ s' H1 Z1 Fs1 F) : Post K PNone fv mv H Z Fs σ s' H1 Z1 Fs1 [] := h.sub (List.nil_sublist _) rfl
/-- what is held is shared from now on, but for F' -/
def Zp (Z : Zs) (F F' : List Addr) : Zs := fun a => Z a ∨ (a ∈ F ∧ a ∉ F')
theorem Post.shared (S : Stb P) (h : Post K P fv mv H Z Fs σ s' H1 Z1 Fs1 F) (sb : F'.Sublist F) (pr : P' (Zf (Zp Z1 F F') Fs1 fv) H1 F') : Post K P' fv mv H Z Fs σ s' H1 (Zp Z1 F F') Fs1 F' where
  tr := ⟨h.tr.ev, h.tr.dom, fun a z => .inl (h.tr.zm a z), fun a z => by
    rcases z with z | ⟨z, _⟩
    · exact h.tr.zb a z
    · exact .inr (h.new a z), h.tr.fo, h.tr.fb⟩
  good := h.good.more (fun a z => .inl z) (fun a z i ha => by
    rcases z with z | ⟨z, _⟩
    · exact h.good.nz i a ha z
    · exact h.held.nf a z i ha) (fun a z => by
    rcases z with z | ⟨z, _⟩
    · exact h.good.zt a z
    · obtain ⟨o, e, _⟩ := S.isl h.held.pr a z
      exact ⟨o, e⟩)
  held := ⟨pr, h.held.nd.sublist sb, fun a ha => h.held.nf a (sb.subset ha), fun a ha z => by
    rcases z with z | ⟨_, z⟩
    · exact h.held.nz a (sb.subset ha) z
    · exact z ha⟩
  new := fun a ha => h.new a (sb.subset ha)
/-- a new object: p holds vs, which are held -/
theorem Post.newO (h : Post K P fv mv H Z Fs σ s' H1 Z1 Fs1 F) (S : Stb P) {p : Addr} {o : HO} (hp : H1 p = none) : Post K P fv mv H Z Fs σ s' (upd H1 p o) Z1 Fs1 F where
  tr := ⟨fun a u e n => by
      have e1 := h.tr.ev a u e n
      rw [upd_ne (ne_of_none e1 hp)]; exact e1, fun a e => by
      by_cases q : a = p
      · subst q; rw [upd_same] at e; cases e
      · rw [upd_ne q] at e; exact h.tr.dom a e, h.tr.zm, h.tr.zb, h.tr.fo, h.tr.fb⟩
  good := h.good.laid hp
  held := ⟨S.keep h.held.pr (h.good.kp hp _), h.held.nd, h.held.nf, h.held.nz⟩
  new := h.new
theorem Post.newL (h : Post K P fv mv H Z Fs σ s' H1 Z1 Fs1 F) (S : Stb P) {p : Addr} {vs : List V} {ds : List PyData} {k : Nat} (hp : H1 p = none) (sb : F'.Sublist F)
    (own : ∀ Z2 : Zs, (∀ a, Zf Z1 Fs1 fv a → Z2 a) → (∀ a ∈ F, a ∉ F' → Z2 a) → OwnAll K Z2 H1 k vs ds F') : Post K (POne K (.ref p) (.list ds, k + 1)) fv mv H Z Fs σ s' (upd H1 p (.lst vs)) (Zp Z1 F F') Fs1 (p :: F') := by
  have q0 : Post K (fun Z H F => OwnAll K Z H k vs ds F) fv mv H Z Fs σ s' H1 (Zp Z1 F F') Fs1 F' := h.shared S sb (own _ (fun a z => z.imp (fun z => .inl z) id) fun a ha hn => .inl (.inr ⟨ha, hn⟩))
  have S1 : Stb (fun Z H F => OwnAll K Z H k vs ds F) := ⟨fun h k => OwnAll.keep _ h k, fun h m => OwnAll.zmono _ h m, fun h => OwnAll.isl _ h⟩
  have q1 := q0.newO S1 (o := .lst vs) hp
  have np : ∀ a ∈ F', a ≠ p := fun a ha e => by
    obtain ⟨o, e1, _⟩ := S1.isl q0.held.pr a ha
    rw [e, hp] at e1; cases e1
  refine ⟨q1.tr, q1.good, ⟨?_, List.nodup_cons.mpr ⟨fun z => np p z rfl, q1.held.nd⟩, fun a ha i z => ?_, fun a ha z => ?_⟩, fun a ha => ?_⟩
  · show Own K _ _ (k + 1) _ (.list ds) _
    unfold Own
    exact ⟨p, vs, F', rfl, upd_same, q1.held.pr, rfl⟩
  · rcases List.mem_cons.mp ha with rfl | ha
    · obtain ⟨o, e1, _⟩ := h.good.isl i a z
      rw [hp] at e1; cases e1
    · exact q1.held.nf a ha i z
  · rcases List.mem_cons.mp ha with rfl | ha
    · obtain ⟨o, e1⟩ := q0.good.zt a z
      rw [hp] at e1; cases e1
    · exact q1.held.nz a ha z
  · rcases List.mem_cons.mp ha with rfl | ha
    · exact .inl (h.tr.dom a hp)
    · exact q1.new a ha
theorem Post.newT (h : Post K P fv mv H Z Fs σ s' H1 Z1 Fs1 F) (S : Stb P) {p : Addr} {vs : List V} {ds : List PyData} {k : Nat} (hp : H1 p = none) (sb : F'.Sublist F)
    (own : ∀ Z2 : Zs, (∀ a, Zf Z1 Fs1 fv a → Z2 a) → (∀ a ∈ F, a ∉ F' → Z2 a) → OwnAll K Z2 H1 k vs ds F') : Post K (POne K (.ref p) (.tuple ds, k + 1)) fv mv H Z Fs σ s' (upd H1 p (.tup vs)) (Zp Z1 F F') Fs1 F' := by
  have q0 : Post K (fun Z H F => OwnAll K Z H k vs ds F) fv mv H Z Fs σ s' H1 (Zp Z1 F F') Fs1 F' := h.shared S sb (own _ (fun a z => z.imp (fun z => .inl z) id) fun a ha hn => .inl (.inr ⟨ha, hn⟩))
  have S1 : Stb (fun Z H F => OwnAll K Z H k vs ds F) := ⟨fun h k => OwnAll.keep _ h k, fun h m => OwnAll.zmono _ h m, fun h => OwnAll.isl _ h⟩
  have q1 := q0.newO S1 (o := .tup vs) hp
  refine q1.sub (List.Sublist.refl _) ?_
  show Own K _ _ (k + 1) _ (.tuple ds) _
  unfold Own
  exact ⟨p, vs, rfl, SqT.of upd_same, q1.held.pr⟩

/-- one thing, then more: both held -/
theorem Post.cons {H2 : Hp} {Z2 : Zs} {Fs2 : Fp} {s2 : SD} {fv2 mv2 : List Nat} {F2 : List Addr} {v : V} {vs : List V} {x : DV} {xs : List DV} (h : Post K (POne K v x) fv mv H Z Fs σ s' H1 Z1 Fs1 F) (h2 : Post K (PAll K vs xs) fv2 mv2 H1 Z1 Fs1 σ s2 H2 Z2 Fs2 F2)
    (d : ∀ i ∈ fv, i ∉ mv2) : Post K (PAll K (v :: vs) (x :: xs)) (fv ++ fv2) (mv ++ mv2) H Z Fs σ s2 H2 Z2 Fs2 (F ++ F2) := by
  have hx := h.held.on (stb_one K v x) h.good h2.tr d
  have dis : ∀ a ∈ F, a ∉ F2 := fun a ha ha2 => by
    rcases h2.new a ha2 with q | ⟨i, _, q⟩
    · obtain ⟨o, e, _⟩ := (stb_one K v x).isl h.held.pr a ha
      rw [q] at e; cases e
    · exact h.held.nf a ha i q
  refine ⟨h.tr.trans h2.tr (fun i hi => List.mem_append_left _ hi) (fun i hi => List.mem_append_right _ hi), h2.good, ⟨?_, List.nodup_append.mpr ⟨hx.nd, h2.held.nd, fun a ha b hb e => dis a ha (e ▸ hb)⟩, fun a ha => ?_, fun a ha => ?_⟩, fun a ha => ?_⟩
  · refine ⟨v, vs, F, F2, rfl, Own.zmono _ hx.pr fun a z => z.imp id fun ⟨i, hi, z⟩ => ⟨i, List.mem_append_left _ hi, z⟩, OwnL.zmono (fun a z => z.imp id fun ⟨i, hi, z⟩ => ⟨i, List.mem_append_right _ hi, z⟩) h2.held.pr, rfl⟩
  · rcases List.mem_append.mp ha with ha | ha
    · exact hx.nf a ha
    · exact h2.held.nf a ha
  · rcases List.mem_append.mp ha with ha | ha
    · exact hx.nz a ha
    · exact h2.held.nz a ha
  · rcases List.mem_append.mp ha with ha | ha
    · exact (h.new a ha).imp id fun ⟨i, hi, q⟩ => ⟨i, List.mem_append_left _ hi, q⟩
    · rcases h2.new a ha with q | ⟨i, hi, q⟩
      · exact .inl (h.tr.dom a q)
      · by_cases m : i ∈ mv
        · exact (h.tr.fb i m a q).imp id fun ⟨j, hj, q⟩ => ⟨j, List.mem_append_left _ hj, q⟩
        · rw [h.tr.fo i m] at q
          exact .inr ⟨i, List.mem_append_right _ hi, q⟩
theorem Post.start (g : Good K Z H σ s Fs) : Post K PNone [] [] H Z Fs σ s H Z Fs [] := ⟨Tr.refl _, g, ⟨rfl, List.nodup_nil, fun a ha => (by cases ha), fun a ha => (by cases ha)⟩, fun a ha => (by cases ha)⟩
theorem Post.nilA (g : Good K Z H σ s Fs) : Post K (PAll K [] []) [] [] H Z Fs σ s H Z Fs [] := (Post.start g).sub (List.nil_sublist _) ⟨rfl, rfl⟩
theorem Post.one {v : V} {x : DV} (h : Post K (POne K v x) fv mv H Z Fs σ s' H1 Z1 Fs1 F) : Post K (PAll K [v] [x]) fv mv H Z Fs σ s' H1 Z1 Fs1 F :=
  h.sub (List.Sublist.refl _) ⟨v, [], F, [], rfl, h.held.pr, ⟨rfl, rfl⟩, (List.append_nil _).symm⟩
theorem Post.fvmono {fv' : List Nat} (S : Stb P) (h : Post K P fv mv H Z Fs σ s' H1 Z1 Fs1 F) (m : ∀ i ∈ fv, i ∈ fv') : Post K P fv' mv H Z Fs σ s' H1 Z1 Fs1 F :=
  ⟨h.tr, h.good, ⟨S.zm h.held.pr fun a z => z.imp id fun ⟨i, hi, z⟩ => ⟨i, m i hi, z⟩, h.held.nd, h.held.nf, h.held.nz⟩, h.new⟩
end
end Sq
end

section
namespace Sq
open PySem PySem.Spec L2

/-! ### what expressions are worth -/
def ev2 (g : DV → DV → Res DV) (a b : Ex) : Ex := fun s => do
  let (x, s) ← a s
  let (y, s) ← b s
  let z ← g x y
  .ok (z, s)
def ev1 (g : DV → Res DV) (a : Ex) : Ex := fun s => do
  let (x, s) ← a s
  let z ← g x
  .ok (z, s)
def evN (g : List DV → Res DV) (a : Exs) : Ex := fun s => do
  let (xs, s) ← a s
  let z ← g xs
  .ok (z, s)
def small (n : Nat) : Bool := decide (n ≤ 1000000)
def gI (f : Int → Int → Int) (x y : DV) : Res DV := match x.1, y.1 with
  | .int i, .int j => .ok (.int (f i j), 0)
  | _, _ => .bad
def gB (f : Int → Int → Bool) (x y : DV) : Res DV := match x.1, y.1 with
  | .int i, .int j => .ok (.bool (f i j), 0)
  | _, _ => .bad
def gAdd (x y : DV) : Res DV := match x.1, y.1 with
  | .int i, .int j => .ok (.int (i + j), 0)
  | .str a, .str b => if small (a.length + b.length) then .ok (.str (a ++ b), 0) else .bad
  | .list as, .list bs => if small (as.length + bs.length) then .ok (.list (as ++ bs), min (depI x) (depI y) + 1) else .bad
  | _, _ => .bad
def lo64 (i : Int) : Bool := decide (-(2 ^ 64) < i) && decide (i < 2 ^ 64)
def gMul (x y : DV) : Res DV := match x.1, y.1 with
  | .int i, .int j => if lo64 i || lo64 j then .ok (.int (i * j), 0) else .bad
  | .list as, .int k => if small (as.length * k.toNat) && decide (k < 1000000) && decide (-1000000 < k) && decide (hgt (.list as) ≤ 1) && decide (0 < x.2) then .ok (.list (List.replicate k.toNat as).flatten, 10) else .bad
  | _, _ => .bad
def gFdiv (x y : DV) : Res DV := match x.1, y.1 with
  | .int i, .int j => if decide (0 < j) && decide (j < 1073741824) then .ok (.int (i / j), 0) else .bad
  | _, _ => .bad
def gMod (x y : DV) : Res DV := match x.1, y.1 with
  | .int i, .int j => if decide (0 < j) then .ok (.int (i % j), 0) else .bad
  | _, _ => .bad
def gPow (x y : DV) : Res DV := match x.1, y.1 with
  | .int i, .int j => if decide (0 ≤ j) && decide (j ≤ 1000) && lo64 i then .ok (.int (i ^ j.toNat), 0) else .bad
  | _, _ => .bad
def gEq (x y : DV) : Res DV := if SeqAt.shaped x.1 && SeqAt.shaped y.1 then .ok (.bool (PyData.eqv x.1 y.1), 0) else .bad
def gNe (x y : DV) : Res DV := if SeqAt.shaped x.1 && SeqAt.shaped y.1 then .ok (.bool (!PyData.eqv x.1 y.1), 0) else .bad
def gIn (x y : DV) : Res DV := match y.1 with
  | .list ds => if SeqAt.shaped x.1 && SeqAt.shaped y.1 then .ok (.bool (ds.any fun z => PyData.eqv z x.1), 0) else .bad
  | _ => .bad
def gNotIn (x y : DV) : Res DV := match y.1 with
  | .list ds => if SeqAt.shaped x.1 && SeqAt.shaped y.1 then .ok (.bool (!ds.any fun z => PyData.eqv z x.1), 0) else .bad
  | _ => .bad
def isNon : PyData → Bool
  | .none => true
  | _ => false
def gIsN (x : DV) : Res DV := .ok (.bool (isNon x.1), 0)
def gNotN (x : DV) : Res DV := .ok (.bool (!isNon x.1), 0)
def gNeg (x : DV) : Res DV := match x.1 with
  | .int i => .ok (.int (-i), 0)
  | _ => .bad
def gNot (x : DV) : Res DV := match x.1 with
  | .bool b => .ok (.bool (!b), 0)
  | _ => .bad
def gIx (x y : DV) : Res DV := match x.1, y.1 with
  | .list ds, .int i => match atI ds i with
    | some d => .ok (d, x.2 - 1)
    | none => .bad
  | .tuple ds, .int i => match atI ds i with
    | some d => .ok (d, x.2 - 1)
    | none => .bad
  | .str z, .int i => match atI z.cps.toList i with
    | some c => if small z.length then .ok (.str ⟨#[c]⟩, 0) else .bad
    | none => .bad
  | _, _ => .bad
def gLen (xs : List DV) : Res DV := match xs with
  | [x] => match x.1 with
    | .list ds => .ok (.int ds.length, 0)
    | .tuple ds => .ok (.int ds.length, 0)
    | .str z => if small z.length then .ok (.int z.length, 0) else .bad
    | _ => .bad
  | _ => .bad
def gAbs (xs : List DV) : Res DV := match xs with
  | [x] => match x.1 with
    | .int i => .ok (.int (if i < 0 then -i else i), 0)
    | _ => .bad
  | _ => .bad
def gInt (xs : List DV) : Res DV := match xs with
  | [x] => match x.1 with
    | .int i => .ok (.int i, 0)
    | .bool b => .ok (.int (if b then 1 else 0), 0)
    | _ => .bad
  | _ => .bad
def gList (xs : List DV) : Res DV := if small xs.length then .ok (.list (xs.map (·.1)), minAll (xs.map dep) + 1) else .bad
def gTup (xs : List DV) : Res DV := if small xs.length then .ok (.tuple (xs.map (·.1)), minAll (xs.map dep) + 1) else .bad
def evAnd (a b : Ex) : Ex := fun s => do
  let (x, s) ← a s
  match x.1 with
  | .bool true => b s
  | .bool false => .ok ((.bool false, 0), s)
  | _ => .bad
def evOr (a b : Ex) : Ex := fun s => do
  let (x, s) ← a s
  match x.1 with
  | .bool true => .ok ((.bool true, 0), s)
  | .bool false => b s
  | _ => .bad
def tst (a : Ex) : Tst := fun s => do
  let (x, s) ← a s
  match x.1 with
  | .bool b => .ok (b, s)
  | _ => .bad
def tAnd2 (a b : Tst) : Tst := fun s => do
  let (x, s) ← a s
  if x then b s else .ok (false, s)
def tOr2 (a b : Tst) : Tst := fun s => do
  let (x, s) ← a s
  if x then .ok (true, s) else b s
def tNot2 (a : Tst) : Tst := fun s => do
  let (x, s) ← a s
  .ok (!x, s)
abbrev Opt := SD → Res (Option Int × SD)
def oNone : Opt := fun s => .ok (none, s)
def oSome (a : Ex) : Opt := fun s => do
  let (x, s) ← a s
  match x.1 with
  | .int i => .ok (some i, s)
  | _ => .bad
def cutD {α : Type} (xs : List α) (lo hi : Option Int) : List α := (xs.drop (HT.sIx xs.length 0 lo)).take (HT.sIx xs.length xs.length hi - HT.sIx xs.length 0 lo)
def evSl (a : Ex) (lo hi : Opt) : Ex := fun s => do
  let (x, s) ← a s
  let (l, s) ← lo s
  let (h, s) ← hi s
  match x.1 with
  | .list ds => .ok ((.list (cutD ds l h), depI x + 1), s)
  | _ => .bad

/-! ### rules -/
def djn (a b : List Nat) : Bool := a.all fun i => !b.contains i
theorem djn_ok {a b : List Nat} (h : djn a b = true) : ∀ i ∈ a, i ∉ b := fun i hi hb => by
  unfold djn at h
  rw [List.all_eq_true] at h
  have q := h i hi
  simp at q
  exact q hb
section
variable {K : PySem.W.Frag} {Z Z1 : Zs} {H H1 : Hp} {Fs Fs1 : Fp} {σ : L2.St} {s s' s1 s2 : SD} {F : List Addr} {fv mv fva mva fvb mvb : List Nat} {fa fb : Ex} {x y : DV}

theorem two {R : V → V → Hp → Prop} (g : Good K Z H σ s Fs) (ea : fa s = .ok (x, s1)) (eb : fb s1 = .ok (y, s2)) (d : djn fva mvb = true)
    (k : ∀ v w H' Z' Fs' F, Post K (PAll K [v, w] [x, y]) (fva ++ fvb) (mva ++ mvb) H Z Fs σ s2 H' Z' Fs' F → R v w H') : tE K fva mva fa σ H (fun v H1 => tE K fvb mvb fb σ H1 (fun w H2 => R v w H2)) :=
  ⟨Z, s, Fs, x, s1, g, ea, fun v H1 Z1 Fs1 F1 p1 => ⟨Z1, s1, Fs1, y, s2, p1.good, eb, fun w H2 Z2 Fs2 F2 p2 => k v w H2 Z2 Fs2 (F1 ++ F2) (p1.cons p2.one (djn_ok d))⟩⟩
/-- a rule by values serves g -/
def OpOk (K : PySem.W.Frag) (r : R2) (g : DV → DV → Res DV) : Prop := ∀ {fv mv : List Nat} {H : Hp} {Z : Zs} {Fs : Fp} {σ : L2.St} {s' : SD} {H1 : Hp} {Z1 : Zs} {Fs1 : Fp} {F : List Addr} {v w : V} {x y z : DV} {Q : VK},
  g x y = .ok z → Post K (PAll K [v, w] [x, y]) fv mv H Z Fs σ s' H1 Z1 Fs1 F → (∀ u H2 Z2 F2, Post K (POne K u z) fv mv H Z Fs σ s' H2 Z2 Fs1 F2 → Q u H2) → r v w H1 Q
def UnOk (K : PySem.W.Frag) (r : V → Hp → VK → Prop) (g : DV → Res DV) : Prop := ∀ {fv mv : List Nat} {H : Hp} {Z : Zs} {Fs : Fp} {σ : L2.St} {s' : SD} {H1 : Hp} {Z1 : Zs} {Fs1 : Fp} {F : List Addr} {v : V} {x z : DV} {Q : VK},
  g x = .ok z → Post K (POne K v x) fv mv H Z Fs σ s' H1 Z1 Fs1 F → (∀ u H2 Z2 F2, Post K (POne K u z) fv mv H Z Fs σ s' H2 Z2 Fs1 F2 → Q u H2) → r v H1 Q
def CallOk (K : PySem.W.Frag) (r : List V → Hp → VK → Prop) (g : List DV → Res DV) : Prop := ∀ {fv mv : List Nat} {H : Hp} {Z : Zs} {Fs : Fp} {σ : L2.St} {s' : SD} {H1 : Hp} {Z1 : Zs} {Fs1 : Fp} {F : List Addr} {vs : List V} {xs : List DV} {z : DV} {Q : VK},
  g xs = .ok z → Post K (PAll K vs xs) fv mv H Z Fs σ s' H1 Z1 Fs1 F → (∀ u H2 Z2 F2, Post K (POne K u z) fv mv H Z Fs σ s' H2 Z2 Fs1 F2 → Q u H2) → r vs H1 Q
theorem imp2 {r : R2} {g : DV → DV → Res DV} (hg : OpOk K r g) (d : djn fva mvb = true) {Q : VK} (h : tE K (fva ++ fvb) (mva ++ mvb) (ev2 g fa fb) σ H Q) : tOp r (tE K fva mva fa) (tE K fvb mvb fb) σ H Q := by
  obtain ⟨Z, s, Fs, z, s', gd, e, q⟩ := h
  unfold ev2 at e
  obtain ⟨⟨x, s1⟩, ea, e⟩ := Res.bind_eq_ok.mp e
  obtain ⟨⟨y, s2⟩, eb, e⟩ := Res.bind_eq_ok.mp e
  obtain ⟨z', eg, e⟩ := Res.bind_eq_ok.mp e
  cases e
  exact two gd ea eb d fun v w H1 Z1 Fs1 F p => hg eg p fun u H2 Z2 F2 p2 => q u H2 Z2 Fs1 F2 p2
theorem imp1 {r : V → Hp → VK → Prop} {g : DV → Res DV} (hg : UnOk K r g) {Q : VK} (h : tE K fva mva (ev1 g fa) σ H Q) : tUn r (tE K fva mva fa) σ H Q := by
  obtain ⟨Z, s, Fs, z, s', gd, e, q⟩ := h
  unfold ev1 at e
  obtain ⟨⟨x, s1⟩, ea, e⟩ := Res.bind_eq_ok.mp e
  obtain ⟨z', eg, e⟩ := Res.bind_eq_ok.mp e
  cases e
  exact ⟨Z, s, Fs, x, _, gd, ea, fun v H1 Z1 Fs1 F p => hg eg p fun u H2 Z2 F2 p2 => q u H2 Z2 Fs1 F2 p2⟩
theorem impN {r : List V → Hp → VK → Prop} {g : List DV → Res DV} {fs : Exs} {io : List (Nat × Nat)} (hg : CallOk K r g) {Q : VK} (h : tE K fva mva (evN g fs) σ H Q) : tCB r (tA K fva mva io fs) σ H Q := by
  obtain ⟨Z, s, Fs, z, s', gd, e, q⟩ := h
  unfold evN at e
  obtain ⟨⟨x, s1⟩, ea, e⟩ := Res.bind_eq_ok.mp e
  obtain ⟨z', eg, e⟩ := Res.bind_eq_ok.mp e
  cases e
  exact ⟨Z, s, Fs, x, _, gd, ea, fun v H1 Z1 Fs1 F p _ => hg eg p fun u H2 Z2 F2 p2 => q u H2 Z2 Fs1 F2 p2⟩
theorem Good.slotAt (g : Good K Z H σ s Fs) {i : Nat} (e : slot s i = .ok x) : s[i]? = some (some x) ∧ ∃ v, σ[i]? = some (some v) ∧ Own K Z H x.2 v x.1 (Fs i) := by
  unfold slot at e
  split at e
  · next y q =>
    cases e
    exact ⟨q, g.own i x.1 x.2 q⟩
  · cases e
end
section
variable {X : Cx} {e a b : Expr} {es : List Expr} {pos : Pos} {fv mv fva mva fvb mvb : List Nat} {f fa fb : Ex}
theorem re_var {i : Nat} {x : Str} (hN : X.N[i]? = some x) (hv : Vis X.env.scope x) (hd : (x == ("__debug__" : Str)) = false := by decide) (hcd : (x == ("__classdict__" : Str)) = false := by decide) : PE X (.Name x pos) (tE X.K [i] [] (eVar i)) := by
  refine PE.of (pe_var hN hv hd hcd) fun σ H Q h => ?_
  obtain ⟨Z, s, Fs, x, s', gd, e, q⟩ := h
  unfold eVar at e
  obtain ⟨y, ey, e⟩ := Res.bind_eq_ok.mp e
  cases e
  obtain ⟨_, v, ev, ow⟩ := gd.slotAt ey
  refine ⟨v, ev, q v H Z Fs [] ⟨Tr.refl _, gd, ⟨?_, List.nodup_nil, fun a ha => (by cases ha), fun a ha => (by cases ha)⟩, fun a ha => (by cases ha)⟩⟩
  exact Own.zmono _ (ow.share (gd.nd i)) fun a z => z.imp id fun z => ⟨i, List.mem_singleton.mpr rfl, z⟩
theorem re_c {d : PyData} {v : V} (h : PE X e (tC v)) (hd : ∀ Z H, Own X.K Z H 0 v d []) : PE X e (tE X.K [] [] (eC d)) := by
  refine PE.of h fun σ H Q h => ?_
  obtain ⟨Z, s, Fs, x, s', gd, e, q⟩ := h
  cases e
  exact q v H Z Fs [] ((Post.start gd).sub (List.nil_sublist _) (hd _ _))
theorem re_int {i j pos} : PE X (.Constant (.int i) j pos) (tE X.K [] [] (eC (.int i))) := re_c pe_int fun _ _ => by unfold Own; exact ⟨rfl, rfl⟩
theorem re_bl {i j pos} : PE X (.Constant (.bool i) j pos) (tE X.K [] [] (eC (.bool i))) := re_c pe_bl fun _ _ => by unfold Own; exact ⟨rfl, rfl⟩
theorem re_non {j pos} : PE X (.Constant .none j pos) (tE X.K [] [] (eC .none)) := re_c pe_non fun _ _ => by unfold Own; exact ⟨rfl, rfl⟩
theorem re_str {i j pos} : PE X (.Constant (.str i) j pos) (tE X.K [] [] (eC (.str i))) := re_c pe_str fun _ _ => by unfold Own; exact ⟨rfl, rfl⟩
theorem ra_nil : PA X [] (tA X.K [] [] [] eNil) := by
  refine PA.of pa_nil fun σ H Q h => ?_
  obtain ⟨Z, s, Fs, x, s', gd, e, q⟩ := h
  cases e
  exact q [] H Z Fs [] (Post.nilA gd) fun p hp => (by cases hp)
def ioUp (io : List (Nat × Nat)) : List (Nat × Nat) := io.map fun p => (p.1 + 1, p.2)
theorem IoOk.up {io : List (Nat × Nat)} {σ : L2.St} {v : V} {vs : List V} (h : IoOk io σ vs) : IoOk (ioUp io) σ (v :: vs) := fun p hp => by
  obtain ⟨q, hq, rfl⟩ := List.mem_map.mp hp
  obtain ⟨w, e1, e2⟩ := h q hq
  exact ⟨w, by simpa using e1, e2⟩
theorem ra_cons {fs : Exs} {io : List (Nat × Nat)} (ha : PE X e (tE X.K fva mva fa)) (hr : PA X es (tA X.K fvb mvb io fs)) (d : djn fva mvb = true := by rfl) (hs : starEach (e :: es) X.env = (false, eval e X.env) :: starEach es X.env := by rfl) : PA X (e :: es) (tA X.K (fva ++ fvb) (mva ++ mvb) (ioUp io) (eCons fa fs)) := by
  refine PA.of (pa_cons ha hr hs) fun σ H Q h => ?_
  obtain ⟨Z, s, Fs, z, s', gd, e, q⟩ := h
  unfold eCons at e
  obtain ⟨⟨x, s1⟩, ea, e⟩ := Res.bind_eq_ok.mp e
  obtain ⟨⟨xs, s2⟩, eb, e⟩ := Res.bind_eq_ok.mp e
  cases e
  exact ⟨Z, s, Fs, x, s1, gd, ea, fun v H1 Z1 Fs1 F1 p1 => ⟨Z1, s1, Fs1, xs, _, p1.good, eb, fun vs H2 Z2 Fs2 F2 p2 io => q (v :: vs) H2 Z2 Fs2 (F1 ++ F2) (p1.cons p2 (djn_ok d)) io.up⟩⟩
/-- a slot's thing taken out of it -/
theorem Good.take {K : PySem.W.Frag} {Z : Zs} {H : Hp} {σ : L2.St} {s : SD} {Fs : Fp} {x : DV} (gd : Good K Z H σ s Fs) {i : Nat} {v : V} (ev : σ[i]? = some (some v)) (ow : Own K Z H x.2 v x.1 (Fs i)) : Post K (POne K v x) [] [i] H Z Fs σ (s.set i none) H Z (fun j => if j = i then [] else Fs j) (Fs i) where
  tr := ⟨fun _ _ e _ => e, fun _ e => e, fun _ z => z, fun _ z => .inl z, fun j hj => by rw [if_neg (by simpa using hj)], fun j hj a ha => by
    rw [if_pos (by simpa using hj)] at ha
    cases ha⟩
  good := ⟨by rw [List.length_set]; exact gd.len, fun j d k e => by
      by_cases q : j = i
      · subst q
        by_cases l : j < s.length
        · rw [List.getElem?_set_self l] at e; cases e
        · rw [List.getElem?_eq_none (by simpa using l)] at e; cases e
      · rw [List.getElem?_set_ne (Ne.symm q)] at e
        rw [if_neg q]
        exact gd.own j d k e, fun j => by
      by_cases q : j = i
      · rw [if_pos q]; exact List.nodup_nil
      · rw [if_neg q]; exact gd.nd j, fun j l n a ha z => by
      by_cases q : j = i
      · rw [if_pos q] at ha; cases ha
      · rw [if_neg q] at ha
        by_cases q2 : l = i
        · rw [if_pos q2] at z; cases z
        · rw [if_neg q2] at z
          exact gd.dj j l n a ha z, fun j a ha => by
      by_cases q : j = i
      · rw [if_pos q] at ha; cases ha
      · rw [if_neg q] at ha; exact gd.nz j a ha, fun j a ha => by
      by_cases q : j = i
      · rw [if_pos q] at ha; cases ha
      · rw [if_neg q] at ha; exact gd.isl j a ha, gd.zt⟩
  held := ⟨Own.zmono _ ow fun a z => .inl z, gd.nd i, fun a ha j z => by
      by_cases q : j = i
      · rw [if_pos q] at z; cases z
      · rw [if_neg q] at z; exact gd.dj i j (Ne.symm q) a ha z, fun a ha => gd.nz i a ha⟩
  new := fun a ha => .inr ⟨i, List.mem_singleton.mpr rfl, ha⟩
theorem re_move {i : Nat} {x : Str} (hN : X.N[i]? = some x) (hv : Vis X.env.scope x) (hd : (x == ("__debug__" : Str)) = false := by decide) (hcd : (x == ("__classdict__" : Str)) = false := by decide) : PE X (.Name x pos) (tE X.K [] [i] (eMove i)) := by
  refine PE.of (pe_var hN hv hd hcd) fun σ H Q h => ?_
  obtain ⟨Z, s, Fs, x, s', gd, e, q⟩ := h
  unfold eMove at e
  obtain ⟨y, ey, e⟩ := Res.bind_eq_ok.mp e
  cases e
  obtain ⟨_, v, ev, ow⟩ := gd.slotAt ey
  exact ⟨v, ev, q v H Z _ _ (gd.take ev ow)⟩
/-- a slot's own thing as an argument, to be given back -/
theorem ra_io {i : Nat} {x : Str} {fs : Exs} {io : List (Nat × Nat)} (hN : X.N[i]? = some x) (hv : Vis X.env.scope x) (hr : PA X es (tA X.K fvb mvb io fs)) (hs : starEach (.Name x pos :: es) X.env = (false, eval (.Name x pos) X.env) :: starEach es X.env := by rfl) (hd : (x == ("__debug__" : Str)) = false := by decide) (hcd : (x == ("__classdict__" : Str)) = false := by decide) : PA X (.Name x pos :: es) (tA X.K fvb (i :: mvb) ((0, i) :: ioUp io) (eCons (eMove i) fs)) := by
  refine PA.of (pa_cons (pe_var hN hv hd hcd) hr hs) fun σ H Q h => ?_
  obtain ⟨Z, s, Fs, z, s', gd, e, q⟩ := h
  unfold eCons at e
  obtain ⟨⟨x, s1⟩, ea, e⟩ := Res.bind_eq_ok.mp e
  obtain ⟨⟨xs, s2⟩, eb, e⟩ := Res.bind_eq_ok.mp e
  cases e
  unfold eMove at ea
  obtain ⟨y, ey, ea⟩ := Res.bind_eq_ok.mp ea
  cases ea
  obtain ⟨_, v, ev, ow⟩ := gd.slotAt ey
  have p1 := gd.take ev ow
  refine ⟨v, ev, _, _, _, xs, _, p1.good, eb, fun vs H2 Z2 Fs2 F2 p2 io => q (v :: vs) H2 Z2 Fs2 _ (p1.cons p2 fun i hi => (by cases hi)) fun p hp => ?_⟩
  rcases List.mem_cons.mp hp with rfl | hp
  · exact ⟨v, rfl, ev⟩
  · exact io.up p hp
theorem re_op {op : Operator} {r : R2} {g : DV → DV → Res DV} (ho : OpR X (binaryOp op) r) (hg : OpOk X.K r g) (ha : PE X a (tE X.K fva mva fa)) (hb : PE X b (tE X.K fvb mvb fb)) (d : djn fva mvb = true := by rfl) : PE X (.BinOp a op b pos) (tE X.K (fva ++ fvb) (mva ++ mvb) (ev2 g fa fb)) :=
  PE.of (pe_op ho ha hb) fun σ H Q h => imp2 hg d h
theorem re_cmp {op : CmpOp} {r : R2} {g : DV → DV → Res DV} (ho : OpR X (compareOp op) r) (hg : OpOk X.K r g) (ha : PE X a (tE X.K fva mva fa)) (hb : PE X b (tE X.K fvb mvb fb)) (d : djn fva mvb = true := by rfl) (hm : behindInMarks op b = false := by rfl) : PE X (.Compare a [op] [b] pos) (tE X.K (fva ++ fvb) (mva ++ mvb) (ev2 g fa fb)) :=
  PE.of (pe_cmpR ho ha hb hm) fun σ H Q h => imp2 hg d h
theorem re_un {op : UnaryOp} {r : V → Hp → VK → Prop} {g : DV → Res DV} (ho : UnR X (unaryOp op) r) (hg : UnOk X.K r g) (ha : PE X a (tE X.K fva mva fa)) : PE X (.UnaryOp op a pos) (tE X.K fva mva (ev1 g fa)) :=
  PE.of (pe_un ho ha) fun σ H Q h => imp1 hg h
end
end Sq
end

section
namespace Sq
open PySem PySem.Spec L2
section
variable {K : PySem.W.Frag} {Z Z1 : Zs} {H H1 : Hp} {Fs Fs1 : Fp} {σ : L2.St} {s s' s1 s2 : SD} {F : List Addr} {fv mv : List Nat} {x y z : DV} {k : Nat} {v w : V}

theorem own_int {i : Int} (h : Own K Z H k v (.int i) F) : v = .int i := by unfold Own at h; exact h.1
theorem own_str {i : Str} (h : Own K Z H k v (.str i) F) : v = .str i := by unfold Own at h; exact h.1
theorem own_bl {i : Bool} (h : Own K Z H k v (.bool i) F) : v = .bl i := by unfold Own at h; exact h.1
theorem int_own {i : Int} : Own K Z H k (.int i) (.int i) [] := by unfold Own; exact ⟨rfl, rfl⟩
theorem str_own {i : Str} : Own K Z H k (.str i) (.str i) [] := by unfold Own; exact ⟨rfl, rfl⟩
theorem bl_own {i : Bool} : Own K Z H k (.bl i) (.bool i) [] := by unfold Own; exact ⟨rfl, rfl⟩
theorem non_own : Own K Z H k .non .none [] := by unfold Own; exact ⟨rfl, rfl⟩
theorem two_own (h : OwnL K Z H [v, w] [x, y] F) : ∃ F1 F2, Own K Z H x.2 v x.1 F1 ∧ Own K Z H y.2 w y.1 F2 ∧ F = F1 ++ F2 := by
  obtain ⟨v', vs', F1, F2, e, h1, h2, rfl⟩ := h
  obtain ⟨w', ws', G1, G2, e', h3, h4, rfl⟩ := h2
  cases e
  cases e'
  obtain ⟨_, rfl⟩ := h4
  exact ⟨F1, G1, h1, h3, by rw [List.append_nil]⟩
theorem one_own {vs : List V} (h : OwnL K Z H vs [x] F) : ∃ v, vs = [v] ∧ Own K Z H x.2 v x.1 F := by
  obtain ⟨v', vs', F1, F2, e, h1, h2, rfl⟩ := h
  obtain ⟨rfl, rfl⟩ := h2
  exact ⟨v', e, by rw [List.append_nil]; exact h1⟩

theorem ok_gI {C : Int → Int → Prop} {f : Int → Int → Int} {g : DV → DV → Res DV} (hg : ∀ x y z, g x y = .ok z → ∃ i j, x.1 = .int i ∧ y.1 = .int j ∧ C i j ∧ z = (.int (f i j), 0)) : OpOk K (rI C fun i j => .int (f i j)) g := by
  intro fv mv H Z Fs σ s' H1 Z1 Fs1 F v w x y z Q e p q
  obtain ⟨i, j, ex, ey, c, rfl⟩ := hg x y z e
  obtain ⟨F1, F2, h1, h2, _⟩ := two_own p.held.pr
  rw [ex] at h1
  rw [ey] at h2
  exact ⟨i, j, own_int h1, own_int h2, c, q _ _ _ _ (p.sc int_own)⟩
theorem ok_gI0 {f : Int → Int → Int} : OpOk K (rI0 fun i j => .int (f i j)) (gI f) := by
  intro fv mv H Z Fs σ s' H1 Z1 Fs1 F v w x y z Q e p q
  unfold gI at e
  split at e
  · next i j ex ey =>
    cases e
    obtain ⟨F1, F2, h1, h2, _⟩ := two_own p.held.pr
    rw [ex] at h1
    rw [ey] at h2
    exact ⟨i, j, own_int h1, own_int h2, q _ _ _ _ (p.sc int_own)⟩
  · cases e
theorem ok_gB0 {f : Int → Int → Bool} : OpOk K (rI0 fun i j => .bl (f i j)) (gB f) := by
  intro fv mv H Z Fs σ s' H1 Z1 Fs1 F v w x y z Q e p q
  unfold gB at e
  split at e
  · next i j ex ey =>
    cases e
    obtain ⟨F1, F2, h1, h2, _⟩ := two_own p.held.pr
    rw [ex] at h1
    rw [ey] at h2
    exact ⟨i, j, own_int h1, own_int h2, q _ _ _ _ (p.sc bl_own)⟩
  · cases e
theorem ok_mod : OpOk K (rI (fun _ j => 0 < j) fun i j => .int (i % j)) gMod := ok_gI fun x y z e => by
  unfold gMod at e
  split at e
  · next i j ex ey =>
    split at e
    · next c => cases e; exact ⟨i, j, ex, ey, of_decide_eq_true c, rfl⟩
    · cases e
  · cases e
theorem ok_fdiv : OpOk K (rI CDiv fun i j => .int (i / j)) gFdiv := ok_gI fun x y z e => by
  unfold gFdiv at e
  split at e
  · next i j ex ey =>
    split at e
    · next c =>
      cases e
      rw [Bool.and_eq_true] at c
      exact ⟨i, j, ex, ey, ⟨of_decide_eq_true c.1, of_decide_eq_true c.2⟩, rfl⟩
    · cases e
  · cases e
theorem lo64_ok {i : Int} (h : lo64 i = true) : -(2 ^ 64) < i ∧ i < 2 ^ 64 := by
  unfold lo64 at h
  rw [Bool.and_eq_true] at h
  exact ⟨of_decide_eq_true h.1, of_decide_eq_true h.2⟩
theorem ok_pow : OpOk K (rI CPow fun i j => .int (i ^ j.toNat)) gPow := ok_gI fun x y z e => by
  unfold gPow at e
  split at e
  · next i j ex ey =>
    split at e
    · next c =>
      cases e
      rw [Bool.and_eq_true, Bool.and_eq_true] at c
      obtain ⟨⟨c1, c2⟩, c3⟩ := c
      have c1 := of_decide_eq_true c1
      have c2 := of_decide_eq_true c2
      have c3 := lo64_ok c3
      exact ⟨i, j, ex, ey, ⟨c1, by omega, by omega⟩, rfl⟩
    · cases e
  · cases e
theorem small_ok {n : Nat} (h : small n = true) : n ≤ sizeLine := by
  unfold small at h
  have := of_decide_eq_true h
  have e : sizeLine = 16777216 := by decide
  omega
theorem OwnAll.app : ∀ {as bs : List PyData} {vs ws : List V} {F1 F2 : List Addr}, OwnAll K Z H k vs as F1 → OwnAll K Z H k ws bs F2 → OwnAll K Z H k (vs ++ ws) (as ++ bs) (F1 ++ F2)
  | [], bs, vs, ws, F1, F2, h, h2 => by
    unfold OwnAll at h
    obtain ⟨rfl, rfl⟩ := h
    exact h2
  | a :: as, bs, vs, ws, F1, F2, h, h2 => by
    unfold OwnAll at h
    obtain ⟨v, vs', G1, G2, rfl, h3, h4, rfl⟩ := h
    rw [List.cons_append, List.cons_append, List.append_assoc]
    unfold OwnAll
    exact ⟨v, vs' ++ ws, G1, G2 ++ F2, rfl, h3, OwnAll.app h4 h2, rfl⟩
theorem depI_ok {ds : List PyData} {k m : Nat} (h : m ≤ depI (.list ds, k)) : hgtAll ds ≤ k - 1 ∨ m ≤ k - 1 := by
  unfold depI at h
  split at h
  · next c =>
    rw [Bool.or_eq_true] at c
    rcases c with c | c
    · have := full_iff.mp c
      have e : hgt (PyData.list ds) = hgtAll ds + 1 := by rw [hgt]
      simp only [e] at this
      exact .inl (by omega)
    · have := of_decide_eq_true c
      have e : hgt (PyData.list ds) = hgtAll ds + 1 := by rw [hgt]
      rw [e] at this
      exact .inl (by omega)
  · exact .inr h
/-- list + list by what may be read -/
def rCatR : R2 := fun x y H Q => ∃ l b xs zs, x = .ref l ∧ y = .ref b ∧ Rd H l (.lst xs) ∧ Rd H b (.lst zs) ∧ xs.length + zs.length ≤ sizeLine ∧ ∀ p, H p = none → Q (.ref p) (upd H p (.lst (xs ++ zs)))
theorem Inv.lstR {X : Cx} {pins : List (Addr × Obj)} {sh : Shared} {l : Addr} {xs : List V} (I : Inv X pins σ H sh) (hH : Rd H l (.lst xs)) : xs.length ≤ sizeLine ∧ ∃ (its : List Value) (n : Nat), Vals xs its ∧ xs.length = its.length ∧ sh.heap.get? l = some { cls := .type "list", data := .seq its.toArray n } := by
  obtain ⟨z, its, n, r, e⟩ := hH.ok I.hok
  exact ⟨z, its, n, r, r.length, e⟩
theorem op_catR {X : Cx} : OpR X (binaryOp .Add) rCatR := by
  intro pins s σ H x y v u Q I rx ry h
  obtain ⟨l, b, xs, zs, rfl, rfl, hH, hB, hz, q⟩ := h
  cases rx
  cases ry
  obtain ⟨z, its, n, r, hl, e⟩ := Inv.lstR I hH
  obtain ⟨z2, its2, n2, r2, hl2, e2⟩ := Inv.lstR I hB
  refine PySem.P.add_list e e2 ?_ (by rw [List.size_toArray, List.size_toArray]; omega)
  have ea : its.toArray ++ its2.toArray = (its ++ its2).toArray := by simp
  rw [ea]
  exact ⟨.ref _, _, I.lnew (t' := s.toks) (r.append r2) (by rw [List.length_append]; omega), rfl, q _ I.fresh⟩
abbrev rAddX : R2 := fun x y H Q => (rI0 (fun i j => .int (i + j)) x y H Q ∨ (∃ i j, x = .str i ∧ y = .str j ∧ i.length + j.length ≤ sizeLine ∧ Q (.str (i ++ j)) H)) ∨ rCatR x y H Q
theorem op_addX {X : Cx} : OpR X (binaryOp .Add) rAddX := OpR.or (OpR.or op_add op_add_str) op_catR
theorem ok_add : OpOk K rAddX gAdd := by
  intro fv mv H Z Fs σ s' H1 Z1 Fs1 F v w x y z Q e p q
  obtain ⟨F1, F2, h1, h2, eF⟩ := two_own p.held.pr
  unfold gAdd at e
  split at e
  · next i j ex ey =>
    cases e
    rw [ex] at h1
    rw [ey] at h2
    exact .inl (.inl ⟨i, j, own_int h1, own_int h2, q _ _ _ _ (p.sc int_own)⟩)
  · next i j ex ey =>
    split at e
    · next c =>
      cases e
      rw [ex] at h1
      rw [ey] at h2
      exact .inl (.inr ⟨i, j, own_str h1, own_str h2, small_ok c, q _ _ _ _ (p.sc str_own)⟩)
    · cases e
  · next as bs ex ey =>
    split at e
    · next c =>
      cases e
      obtain ⟨xd, xk⟩ := x
      obtain ⟨yd, yk⟩ := y
      simp only at ex ey h1 h2
      subst ex ey
      obtain ⟨l, vs, G1, rfl, r1, o1, sb1⟩ := h1.sub
      obtain ⟨l2, ws, G2, rfl, r2, o2, sb2⟩ := h2.sub
      have nd : (F1 ++ F2).Nodup := eF ▸ p.held.nd
      obtain ⟨n1, n2, n3⟩ := List.nodup_append.mp nd
      obtain ⟨E1, t1, q1⟩ := OwnAll.to (m := min (depI (PyData.list as, xk)) (depI (PyData.list bs, yk))) o1 (n1.sublist sb1) (depI_ok (Nat.min_le_left _ _))
      obtain ⟨E2, t2, q2⟩ := OwnAll.to (m := min (depI (PyData.list as, xk)) (depI (PyData.list bs, yk))) o2 (n2.sublist sb2) (depI_ok (Nat.min_le_right _ _))
      have la := OwnAll.len _ o1
      have lb := OwnAll.len _ o2
      refine .inr ⟨l, l2, vs, ws, rfl, rfl, r1, r2, by rw [la, lb]; exact small_ok c, fun pn hp => q _ _ _ _ (p.newL (stb_all K _ _) (F' := E1 ++ E2) hp (by rw [eF]; exact (t1.trans sb1).append (t2.trans sb2)) fun Z2 mz m2 => ?_)⟩
      refine OwnAll.app (q1 Z2 mz fun a ha hn => m2 a (by rw [eF]; exact List.mem_append_left _ (sb1.subset ha)) fun z => ?_) (q2 Z2 mz fun a ha hn => m2 a (by rw [eF]; exact List.mem_append_right _ (sb2.subset ha)) fun z => ?_)
      · rcases List.mem_append.mp z with z | z
        · exact hn z
        · exact n3 a (sb1.subset ha) a (sb2.subset (t2.subset z)) rfl
      · rcases List.mem_append.mp z with z | z
        · exact n3 a (sb1.subset (t1.subset z)) a (sb2.subset ha) rfl
        · exact hn z
    · cases e
  · cases e
theorem ok_eq : OpOk K (rEqD K) gEq := by
  intro fv mv H Z Fs σ s' H1 Z1 Fs1 F v w x y z Q e p q
  obtain ⟨F1, F2, h1, h2, eF⟩ := two_own p.held.pr
  unfold gEq at e
  split at e
  · next c =>
    cases e
    rw [Bool.and_eq_true] at c
    exact ⟨x.1, y.1, Own.dp _ h1, Own.dp _ h2, c.1, c.2, q _ _ _ _ (p.sc bl_own)⟩
  · cases e
theorem ok_ne : OpOk K (rNeD K) gNe := by
  intro fv mv H Z Fs σ s' H1 Z1 Fs1 F v w x y z Q e p q
  obtain ⟨F1, F2, h1, h2, eF⟩ := two_own p.held.pr
  unfold gNe at e
  split at e
  · next c =>
    cases e
    rw [Bool.and_eq_true] at c
    exact ⟨x.1, y.1, Own.dp _ h1, Own.dp _ h2, c.1, c.2, q _ _ _ _ (p.sc bl_own)⟩
  · cases e
theorem ok_in : OpOk K (rInD K) gIn := by
  intro fv mv H Z Fs σ s' H1 Z1 Fs1 F v w x y z Q e p q
  obtain ⟨F1, F2, h1, h2, eF⟩ := two_own p.held.pr
  unfold gIn at e
  split at e
  · next ds ey =>
    split at e
    · next c =>
      cases e
      rw [Bool.and_eq_true] at c
      rw [ey] at h2 c
      exact ⟨x.1, ds, Own.dp _ h1, Own.dp _ h2, c.1, c.2, q _ _ _ _ (p.sc bl_own)⟩
    · cases e
  · cases e
theorem ok_notIn : OpOk K (rNotInD K) gNotIn := by
  intro fv mv H Z Fs σ s' H1 Z1 Fs1 F v w x y z Q e p q
  obtain ⟨F1, F2, h1, h2, eF⟩ := two_own p.held.pr
  unfold gNotIn at e
  split at e
  · next ds ey =>
    split at e
    · next c =>
      cases e
      rw [Bool.and_eq_true] at c
      rw [ey] at h2 c
      exact ⟨x.1, ds, Own.dp _ h1, Own.dp _ h2, c.1, c.2, q _ _ _ _ (p.sc bl_own)⟩
    · cases e
  · cases e
theorem atI_get {α β : Type} {xs : List α} {ys : List β} (l : xs.length = ys.length) {i : Int} {d : α} (h : atI xs i = some d) : ∃ j : Nat, xs[j]? = some d ∧ atI ys i = ys[j]? := by
  unfold atI at h ⊢
  rw [l] at h
  cases e : ixN ys.length i with
  | none => rw [e] at h; cases h
  | some j =>
    rw [e] at h
    exact ⟨j, h, rfl⟩
theorem ok_ix : OpOk K (rIx K) gIx := by
  intro fv mv H Z Fs σ s' H1 Z1 Fs1 F v w x y z Q e p q
  obtain ⟨F1, F2, h1, h2, eF⟩ := two_own p.held.pr
  obtain ⟨xd, xk⟩ := x
  obtain ⟨yd, yk⟩ := y
  unfold gIx at e
  simp only at e h1 h2
  split at e
  · next ds i =>
    split at e
    · next d ed =>
      cases e
      obtain ⟨l, vs, G1, rfl, r1, o1, sb1⟩ := h1.sub
      obtain ⟨j, ej, ea⟩ := atI_get (OwnAll.len _ o1).symm ed
      obtain ⟨u, E, eu, ou, se⟩ := OwnAll.get ds j o1 ej
      exact .inl ⟨l, vs, i, u, rfl, own_int h2, .inl r1, ea.trans eu, q _ _ _ _ (p.sub (F' := E) (by rw [eF]; exact (se.trans sb1).trans (List.sublist_append_left _ _)) ou)⟩
    · cases e
  · next ds i =>
    split at e
    · next d ed =>
      cases e
      unfold Own at h1
      obtain ⟨l, vs, rfl, r1, o1⟩ := h1
      obtain ⟨j, ej, ea⟩ := atI_get (OwnAll.len _ o1).symm ed
      obtain ⟨u, E, eu, ou, se⟩ := OwnAll.get ds j o1 ej
      exact .inr (.inl ⟨l, vs, i, u, rfl, own_int h2, r1, ea.trans eu, q _ _ _ _ (p.sub (F' := E) (by rw [eF]; exact se.trans (List.sublist_append_left _ _)) ou)⟩)
    · cases e
  · next zz i =>
    split at e
    · next c ec =>
      split at e
      · next cs =>
        cases e
        exact .inr (.inr ⟨zz, i, c, own_str h1, own_int h2, small_ok cs, ec, q _ _ _ _ (p.sc str_own)⟩)
      · cases e
    · cases e
  · cases e
theorem ok_neg : UnOk K (rU fun i => .int (-i)) gNeg := by
  intro fv mv H Z Fs σ s' H1 Z1 Fs1 F v x z Q e p q
  obtain ⟨xd, xk⟩ := x
  unfold gNeg at e
  have h1 : Own K _ _ xk v xd F := p.held.pr
  simp only at e
  split at e
  · next i => cases e; exact ⟨i, own_int h1, q _ _ _ _ (p.sc int_own)⟩
  · cases e

theorem OwnAll.rep {as : List PyData} {vs : List V} (h : OwnAll K Z H k vs as []) : ∀ n : Nat, OwnAll K Z H k (List.replicate n vs).flatten (List.replicate n as).flatten []
  | 0 => by
    show OwnAll K Z H k [] [] []
    unfold OwnAll
    exact ⟨rfl, rfl⟩
  | n + 1 => by
    rw [List.replicate_succ, List.replicate_succ, List.flatten_cons, List.flatten_cons]
    exact OwnAll.app h (OwnAll.rep h n)
abbrev rMulX : R2 := fun x y H Q => rI CMul (fun i j => .int (i * j)) x y H Q ∨ rRep x y H Q
theorem op_mulX {X : Cx} : OpR X (binaryOp .Mult) rMulX := OpR.or op_mul op_rep
theorem ok_mul : OpOk K rMulX gMul := by
  intro fv mv H Z Fs σ s' H1 Z1 Fs1 F v w x y z Q e p q
  obtain ⟨F1, F2, h1, h2, eF⟩ := two_own p.held.pr
  obtain ⟨xd, xk⟩ := x
  obtain ⟨yd, yk⟩ := y
  unfold gMul at e
  simp only at e h1 h2
  split at e
  · next i j =>
    split at e
    · next c =>
      cases e
      rw [Bool.or_eq_true] at c
      exact .inl ⟨i, j, own_int h1, own_int h2, c.imp lo64_ok lo64_ok, q _ _ _ _ (p.sc int_own)⟩
    · cases e
  · next as i =>
    split at e
    · next c =>
      cases e
      simp only [Bool.and_eq_true] at c
      obtain ⟨⟨⟨⟨c1, c2⟩, c3⟩, c4⟩, c5⟩ := c
      have c2 := of_decide_eq_true c2
      have c3 := of_decide_eq_true c3
      have c4 := of_decide_eq_true c4
      obtain ⟨l, vs, G, rfl, r1, o1, sb⟩ := h1.rdL
      rcases sb with ⟨z0, _, _⟩ | ⟨_, eG, hl⟩
      · exact absurd z0 (by have := of_decide_eq_true c5; omega)
      · have nd : (F1 ++ F2).Nodup := eF ▸ p.held.nd
        obtain ⟨n1, n2, n3⟩ := List.nodup_append.mp nd
        have nG : G.Nodup := by rw [eG] at n1; exact (List.nodup_cons.mp n1).2
        obtain ⟨E, t, q0⟩ := OwnAll.lower (j := 0) as o1 nG (Nat.zero_le _)
        have e0 : hgtAll as = 0 := by
          have e : hgt (PyData.list as) = hgtAll as + 1 := by rw [hgt]
          omega
        have eE : E = [] := OwnAll.nil0 as (q0 (fun _ => True) (fun _ _ => trivial) (fun _ _ _ => trivial))
        subst eE
        have la := OwnAll.len _ o1
        refine .inr ⟨l, i, vs, rfl, own_int h2, hl, by omega, by omega, by rw [la]; exact small_ok c1, fun pn hp => q _ _ _ _ (p.newL (stb_all K _ _) (F' := []) hp (List.nil_sublist _) fun Z2 mz m2 => ?_)⟩
        exact OwnAll.rep (OwnAll.lift as (q0 Z2 mz fun a ha _ => m2 a (by rw [eF, eG]; exact List.mem_append_left _ (List.mem_cons_of_mem _ ha)) (by simp)) (by omega) (by omega)) _
    · cases e
  · cases e
end
section
variable {K : PySem.W.Frag}
theorem ok_len : CallOk K (fun xs H Q => (∃ p ys, xs = [.ref p] ∧ (SqL K H p ys ∨ SqT K H p ys) ∧ Q (.int ys.length) H) ∨ (∃ z, xs = [.str z] ∧ z.length ≤ sizeLine ∧ Q (.int z.length) H)) gLen := by
  intro fv mv H Z Fs σ s' H1 Z1 Fs1 F vs xs z Q e p q
  unfold gLen at e
  split at e
  · next x =>
    obtain ⟨xd, xk⟩ := x
    obtain ⟨v, rfl, h1⟩ := one_own p.held.pr
    simp only at e h1
    split at e
    · next ds =>
      cases e
      obtain ⟨l, vs, G, rfl, r1, o1, sb⟩ := h1.sub
      rw [← OwnAll.len _ o1] at q
      exact .inl ⟨l, vs, rfl, .inl (.inl r1), q _ _ _ _ (p.sc int_own)⟩
    · next ds =>
      cases e
      unfold Own at h1
      obtain ⟨l, vs, rfl, r1, o1⟩ := h1
      rw [← OwnAll.len _ o1] at q
      exact .inl ⟨l, vs, rfl, .inr r1, q _ _ _ _ (p.sc int_own)⟩
    · next zz =>
      split at e
      · next c =>
        cases e
        rw [own_str h1]
        exact .inr ⟨zz, rfl, small_ok c, q _ _ _ _ (p.sc int_own)⟩
      · cases e
    · cases e
  · cases e
theorem ok_abs : CallOk K (fun xs H Q => ∃ i, xs = [.int i] ∧ Q (.int (if i < 0 then -i else i)) H) gAbs := by
  intro fv mv H Z Fs σ s' H1 Z1 Fs1 F vs xs z Q e p q
  unfold gAbs at e
  split at e
  · next x =>
    obtain ⟨xd, xk⟩ := x
    obtain ⟨v, rfl, h1⟩ := one_own p.held.pr
    simp only at e h1
    split at e
    · next i =>
      cases e
      rw [own_int h1]
      exact ⟨i, rfl, q _ _ _ _ (p.sc int_own)⟩
    · cases e
  · cases e
theorem ok_int : CallOk K (fun xs H Q => (∃ i, xs = [.int i] ∧ Q (.int i) H) ∨ ∃ k, xs = [.bl k] ∧ Q (.int (if k then 1 else 0)) H) gInt := by
  intro fv mv H Z Fs σ s' H1 Z1 Fs1 F vs xs z Q e p q
  unfold gInt at e
  split at e
  · next x =>
    obtain ⟨xd, xk⟩ := x
    obtain ⟨v, rfl, h1⟩ := one_own p.held.pr
    simp only at e h1
    split at e
    · next i =>
      cases e
      rw [own_int h1]
      exact .inl ⟨i, rfl, q _ _ _ _ (p.sc int_own)⟩
    · next i =>
      cases e
      rw [own_bl h1]
      exact .inr ⟨i, rfl, q _ _ _ _ (p.sc int_own)⟩
    · cases e
  · cases e
end
section
variable {X : Cx} {e a b : Expr} {es : List Expr} {pos : Pos} {fv mv fva mva fvb mvb : List Nat} {f fa fb : Ex} {fs : Exs} {io : List (Nat × Nat)}
theorem re_list (h : PA X es (tA X.K fv mv io fs)) : PE X (.List es pos) (tE X.K fv mv (evN gList fs)) := by
  refine PE.of (pe_lst h) fun σ H Q h => ?_
  refine impN (r := fun xs H1 Q => xs.length ≤ sizeLine ∧ ∀ p, H1 p = none → Q (.ref p) (upd H1 p (.lst xs))) ?_ h
  intro fv mv H Z Fs σ s' H1 Z1 Fs1 F vs xs z Q e p q
  unfold gList at e
  split at e
  · next c =>
    cases e
    refine ⟨by rw [OwnL.len p.held.pr]; exact small_ok c, fun pn hp => ?_⟩
    obtain ⟨F', sb, qq⟩ := OwnL.to (m := minAll (xs.map dep)) p.held.pr p.held.nd (Nat.le_refl _)
    exact q _ _ _ _ (p.newL (stb_all _ _ _) hp sb qq)
  · cases e
theorem re_tup {x1} (h : PA X es (tA X.K fv mv io fs)) : PE X (.Tuple es x1 pos) (tE X.K fv mv (evN gTup fs)) := by
  refine PE.of (pe_tup h) fun σ H Q h => ?_
  refine impN (r := fun xs H1 Q => xs.length ≤ sizeLine ∧ ∀ p, H1 p = none → Q (.ref p) (upd H1 p (.tup xs))) ?_ h
  intro fv mv H Z Fs σ s' H1 Z1 Fs1 F vs xs z Q e p q
  unfold gTup at e
  split at e
  · next c =>
    cases e
    refine ⟨by rw [OwnL.len p.held.pr]; exact small_ok c, fun pn hp => ?_⟩
    obtain ⟨F', sb, qq⟩ := OwnL.to (m := minAll (xs.map dep)) p.held.pr p.held.nd (Nat.le_refl _)
    exact q _ _ _ _ (p.newT (stb_all _ _ _) hp sb qq)
  · cases e
theorem re_callB {x : Str} {p : Pos} {id : String} {r : List V → Hp → VK → Prop} {g : List DV → Res DV} (hc : CallR X (.builtin id) r) (hk : CallOk X.K r g) (hg : Gl X x) (hm : X.mg x = none) (hv : bootBuiltins x = some (.builtin id)) (ha : PA X (e :: es) (tA X.K fv mv io fs)) (hn : x ≠ "__name__" := by decide) (hdb : (x == ("__debug__" : Str)) = false := by decide)
    (he : starEach (e :: es) X.env = (false, eval e X.env) :: starEach es X.env := by rfl) (hpl : (backTo pos (starEach es X.env)).any (·.1) = false := by rfl) : PE X (.Call (.Name x p) (e :: es) [] pos) (tE X.K fv mv (evN g fs)) :=
  PE.of (pe_callB hc hg hm hv ha hn hdb he hpl) fun σ H Q h => impN hk h
theorem re_callT {x : Str} {p : Pos} {T : String} {r : List V → Hp → VK → Prop} {g : List DV → Res DV} (hc : CallR X (.type T) r) (hk : CallOk X.K r g) (hg : Gl X x) (hm : X.mg x = none) (hv : bootBuiltins x = some (.type T)) (ha : PA X (e :: es) (tA X.K fv mv io fs)) (hn : x ≠ "__name__" := by decide) (hdb : (x == ("__debug__" : Str)) = false := by decide)
    (he : starEach (e :: es) X.env = (false, eval e X.env) :: starEach es X.env := by rfl) (hpl : (backTo pos (starEach es X.env)).any (·.1) = false := by rfl) : PE X (.Call (.Name x p) (e :: es) [] pos) (tE X.K fv mv (evN g fs)) :=
  PE.of (pe_callTy hc hg hm hv ha hn hdb he hpl) fun σ H Q h => impN hk h
theorem re_ix (ha : PE X a (tE X.K fva mva fa)) (hb : PE X b (tE X.K fvb mvb fb)) (hs : PlainIx b) (d : djn fva mvb = true := by rfl) : PE X (.Subscript a b pos) (tE X.K (fva ++ fvb) (mva ++ mvb) (ev2 gIx fa fb)) :=
  PE.of (pe_ix ix_seq ha hb hs) fun σ H Q h => imp2 ok_ix d h
end
end Sq
end

section
namespace Sq
open PySem PySem.Spec L2
section
variable {K : PySem.W.Frag} {Z Z1 Z2 : Zs} {H H1 H2 : Hp} {Fs Fs1 Fs2 : Fp} {σ : L2.St} {s s' s1 s2 : SD} {F F2 : List Addr} {fv mv fva mva fvb mvb : List Nat} {x y z : DV} {k : Nat} {v w : V} {P P' : Pr}
/-- first one piece, whose thing is dropped, then another -/
theorem Post.seq (h : Post K P fva mva H Z Fs σ s1 H1 Z1 Fs1 F) (h2 : Post K P' fvb mvb H1 Z1 Fs1 σ s2 H2 Z2 Fs2 F2) : Post K P' fvb (mva ++ mvb) H Z Fs σ s2 H2 Z2 Fs2 F2 where
  tr := h.tr.trans h2.tr (fun i hi => List.mem_append_left _ hi) (fun i hi => List.mem_append_right _ hi)
  good := h2.good
  held := h2.held
  new := fun a ha => by
    rcases h2.new a ha with q | ⟨i, hi, q⟩
    · exact .inl (h.tr.dom a q)
    · by_cases m : i ∈ mva
      · exact (h.tr.fb i m a q).imp id fun ⟨j, hj, q⟩ => ⟨j, List.mem_append_left _ hj, q⟩
      · rw [h.tr.fo i m] at q
        exact .inr ⟨i, List.mem_append_right _ hi, q⟩
theorem Post.weak {mv' : List Nat} (h : Post K P fva mva H Z Fs σ s1 H1 Z1 Fs1 F) (m : ∀ i ∈ mva, i ∈ mv') : Post K P fva mv' H Z Fs σ s1 H1 Z1 Fs1 F :=
  ⟨h.tr.weak m, h.good, h.held, fun a ha => (h.new a ha).imp id fun ⟨i, hi, q⟩ => ⟨i, m i hi, q⟩⟩
theorem Post.fv0 (h : Post K PNone fva mva H Z Fs σ s1 H1 Z1 Fs1 F) : Post K PNone [] mva H Z Fs σ s1 H1 Z1 Fs1 [] :=
  ⟨h.tr, h.good, ⟨rfl, List.nodup_nil, fun a ha => (by cases ha), fun a ha => (by cases ha)⟩, fun a ha => (by cases ha)⟩
theorem tst_imp {f : Ex} {Q : Bool → Hp → Prop} (h : tT K mv (tst f) σ H Q) : tE K fv mv f σ H fun x H' => ∃ k, x = .bl k ∧ Q k H' := by
  obtain ⟨Z, s, Fs, b, s', gd, e, q⟩ := h
  unfold tst at e
  obtain ⟨⟨x, s1⟩, ea, e⟩ := Res.bind_eq_ok.mp e
  obtain ⟨xd, xk⟩ := x
  simp only at e
  split at e
  · next b' =>
    cases e
    exact ⟨Z, s, Fs, _, _, gd, ea, fun v H1 Z1 Fs1 F p => ⟨_, own_bl p.held.pr, q H1 Z1 Fs1 p.nothing.fv0⟩⟩
  · cases e
end
section
variable {X : Cx} {e a b : Expr} {es rest : List Expr} {pos : Pos} {fv mv fva mva fvb mvb : List Nat} {f fa fb : Ex} {fs : Exs} {ta tb : Tst}
theorem rt_val (h : PE X e (tE X.K fv mv f)) (he : ∀ whole, isTrue e X.env whole = (do let v ← whole; standAt e.pos; holding [v] (truthy v)) := by intro _; rfl) : PT X e (tT X.K mv (tst f)) :=
  PT.of (pt_val h he) fun σ H Q h => tst_imp h
theorem rt_cmp {op : CmpOp} {r : R2} {g : DV → DV → Res DV} (ho : OpR X (compareOp op) r) (hg : OpOk X.K r g) (ha : PE X a (tE X.K fva mva fa)) (hb : PE X b (tE X.K fvb mvb fb)) (d : djn fva mvb = true := by rfl) (hm : behindInMarks op b = false := by rfl) : PT X (.Compare a [op] [b] pos) (tT X.K (mva ++ mvb) (tst (ev2 g fa fb))) :=
  PT.of (pt_cmpR ho ha hb hm) fun σ H Q h => imp2 hg d (tst_imp h)
theorem rt_not (h : PT X a (tT X.K mva ta)) : PT X (.UnaryOp .Not a pos) (tT X.K mva (tNot2 ta)) := by
  refine PT.of (pt_not h) fun σ H Q h => ?_
  obtain ⟨Z, s, Fs, b, s', gd, e, q⟩ := h
  unfold tNot2 at e
  obtain ⟨⟨x, s1⟩, ea, e⟩ := Res.bind_eq_ok.mp e
  cases e
  exact ⟨Z, s, Fs, _, _, gd, ea, fun H1 Z1 Fs1 p => q H1 Z1 Fs1 p⟩
theorem rw_and1 (h : PT X a (tT X.K mva ta)) : PW X (.BoolOp .And [a] pos) (tT X.K mva ta) := pw_and1 h
theorem rw_or1 (h : PT X a (tT X.K mva ta)) : PW X (.BoolOp .Or [a] pos) (tT X.K mva ta) := pw_or1 h
theorem rw_and (ha : PT X a (tT X.K mva ta)) (hb : PW X (.BoolOp .And (b :: rest) pos) (tT X.K mvb tb)) : PW X (.BoolOp .And (a :: b :: rest) pos) (tT X.K (mva ++ mvb) (tAnd2 ta tb)) := by
  refine PW.of (pw_and ha hb) fun σ H Q h => ?_
  obtain ⟨Z, s, Fs, b, s', gd, e, q⟩ := h
  unfold tAnd2 at e
  obtain ⟨⟨x, s1⟩, ea, e⟩ := Res.bind_eq_ok.mp e
  refine ⟨Z, s, Fs, _, _, gd, ea, fun H1 Z1 Fs1 p => ?_⟩
  cases x with
  | true =>
    rw [if_pos rfl]
    exact ⟨Z1, s1, Fs1, b, s', p.good, e, fun H2 Z2 Fs2 p2 => q H2 Z2 Fs2 (p.seq p2)⟩
  | false =>
    rw [if_neg Bool.false_ne_true]
    cases e
    exact q H1 Z1 Fs1 (p.weak fun i hi => List.mem_append_left _ hi)
theorem rw_or (ha : PT X a (tT X.K mva ta)) (hb : PW X (.BoolOp .Or (b :: rest) pos) (tT X.K mvb tb)) : PW X (.BoolOp .Or (a :: b :: rest) pos) (tT X.K (mva ++ mvb) (tOr2 ta tb)) := by
  refine PW.of (pw_or ha hb) fun σ H Q h => ?_
  obtain ⟨Z, s, Fs, b, s', gd, e, q⟩ := h
  unfold tOr2 at e
  obtain ⟨⟨x, s1⟩, ea, e⟩ := Res.bind_eq_ok.mp e
  refine ⟨Z, s, Fs, _, _, gd, ea, fun H1 Z1 Fs1 p => ?_⟩
  cases x with
  | true =>
    rw [if_pos rfl]
    cases e
    exact q H1 Z1 Fs1 (p.weak fun i hi => List.mem_append_left _ hi)
  | false =>
    rw [if_neg Bool.false_ne_true]
    exact ⟨Z1, s1, Fs1, b, s', p.good, e, fun H2 Z2 Fs2 p2 => q H2 Z2 Fs2 (p.seq p2)⟩
theorem rt_w (h : PW X e (tT X.K mva ta)) : PT X e (tT X.K mva ta) := h.pt
theorem re_one {op} (h : PE X a (tE X.K fva mva fa)) : PE X (.BoolOp op [a] pos) (tE X.K fva mva fa) := pe_one h
theorem re_and (ha : PE X a (tE X.K fva mva fa)) (hb : PE X (.BoolOp .And (b :: rest) pos) (tE X.K fvb mvb fb)) : PE X (.BoolOp .And (a :: b :: rest) pos) (tE X.K fvb (mva ++ mvb) (evAnd fa fb)) := by
  refine PE.of (pe_and ha hb) fun σ H Q h => ?_
  obtain ⟨Z, s, Fs, z, s', gd, e, q⟩ := h
  unfold evAnd at e
  obtain ⟨⟨x, s1⟩, ea, e⟩ := Res.bind_eq_ok.mp e
  obtain ⟨xd, xk⟩ := x
  refine ⟨Z, s, Fs, _, _, gd, ea, fun v H1 Z1 Fs1 F p => ?_⟩
  simp only at e
  split at e
  · refine ⟨true, own_bl p.held.pr, ?_⟩
    rw [if_pos rfl]
    exact ⟨Z1, s1, Fs1, z, s', p.good, e, fun v H2 Z2 Fs2 F2 p2 => q v H2 Z2 Fs2 F2 (p.seq p2)⟩
  · refine ⟨false, own_bl p.held.pr, ?_⟩
    rw [if_neg Bool.false_ne_true]
    cases e
    refine q (.bl false) H1 Z1 Fs1 [] ((p.seq (Post.start p.good |>.sub (List.nil_sublist _) (P' := POne X.K (.bl false) (.bool false, 0)) bl_own)).weak ?_ |> fun p => ⟨p.tr, p.good, ⟨bl_own, List.nodup_nil, fun a ha => (by cases ha), fun a ha => (by cases ha)⟩, fun a ha => (by cases ha)⟩)
    intro i hi
    rw [List.append_nil] at hi
    exact List.mem_append_left _ hi
  · cases e
theorem re_or (ha : PE X a (tE X.K fva mva fa)) (hb : PE X (.BoolOp .Or (b :: rest) pos) (tE X.K fvb mvb fb)) : PE X (.BoolOp .Or (a :: b :: rest) pos) (tE X.K fvb (mva ++ mvb) (evOr fa fb)) := by
  refine PE.of (pe_or ha hb) fun σ H Q h => ?_
  obtain ⟨Z, s, Fs, z, s', gd, e, q⟩ := h
  unfold evOr at e
  obtain ⟨⟨x, s1⟩, ea, e⟩ := Res.bind_eq_ok.mp e
  obtain ⟨xd, xk⟩ := x
  refine ⟨Z, s, Fs, _, _, gd, ea, fun v H1 Z1 Fs1 F p => ?_⟩
  simp only at e
  split at e
  · refine ⟨true, own_bl p.held.pr, ?_⟩
    rw [if_pos rfl]
    cases e
    refine q (.bl true) H1 Z1 Fs1 [] ((p.seq (Post.start p.good |>.sub (List.nil_sublist _) (P' := POne X.K (.bl true) (.bool true, 0)) bl_own)).weak ?_ |> fun p => ⟨p.tr, p.good, ⟨bl_own, List.nodup_nil, fun a ha => (by cases ha), fun a ha => (by cases ha)⟩, fun a ha => (by cases ha)⟩)
    intro i hi
    rw [List.append_nil] at hi
    exact List.mem_append_left _ hi
  · refine ⟨false, own_bl p.held.pr, ?_⟩
    rw [if_neg Bool.false_ne_true]
    exact ⟨Z1, s1, Fs1, z, s', p.good, e, fun v H2 Z2 Fs2 F2 p2 => q v H2 Z2 Fs2 F2 (p.seq p2)⟩
  · cases e
theorem re_not (ha : PE X a (tE X.K fva mva fa)) : PE X (.UnaryOp .Not a pos) (tE X.K fva mva (ev1 gNot fa)) := by
  refine PE.of (pe_not ha) fun σ H Q h => imp1 (r := fun x H1 Q => ∃ c, x = .bl c ∧ Q (.bl (!c)) H1) ?_ h
  intro fv mv H Z Fs σ s' H1 Z1 Fs1 F v x z Q e p q
  obtain ⟨xd, xk⟩ := x
  unfold gNot at e
  have h1 : Own X.K _ _ xk v xd F := p.held.pr
  simp only at e
  split at e
  · next i => cases e; exact ⟨i, own_bl h1, q _ _ _ _ (p.sc bl_own)⟩
  · cases e
theorem isnon_iff {K : PySem.W.Frag} {Z : Zs} {H : Hp} {k : Nat} {v : V} {d : PyData} {F : List Addr} (h : Own K Z H k v d F) : decide (v = .non) = isNon d := by
  cases d with
  | none => unfold Own at h; rw [h.1]; rfl
  | bool b => unfold Own at h; rw [h.1]; rfl
  | int i => unfold Own at h; rw [h.1]; rfl
  | str x => unfold Own at h; rw [h.1]; rfl
  | list ds => obtain ⟨p, vs, F', rfl, _⟩ := h.rdL; rfl
  | tuple ds => unfold Own at h; obtain ⟨p, vs, rfl, _⟩ := h; rfl
  | dict kvs => unfold Own at h; exact h.elim
theorem re_isN {j pos'} (ha : PE X a (tE X.K fva mva fa)) : PE X (.Compare a [.Is] [.Constant .none j pos'] pos) (tE X.K fva mva (ev1 gIsN fa)) := by
  refine PE.of (pe_cmp (pc_isN ha)) fun σ H Q h => imp1 (r := fun x H1 Q => Q (.bl (decide (x = .non))) H1) ?_ h
  intro fv mv H Z Fs σ s' H1 Z1 Fs1 F v x z Q e p q
  cases e
  rw [isnon_iff p.held.pr]
  exact q _ _ _ _ (p.sc bl_own)
theorem re_notN {j pos'} (ha : PE X a (tE X.K fva mva fa)) : PE X (.Compare a [.IsNot] [.Constant .none j pos'] pos) (tE X.K fva mva (ev1 gNotN fa)) := by
  refine PE.of (pe_cmp (pc_notN ha)) fun σ H Q h => imp1 (r := fun x H1 Q => Q (.bl (!decide (x = .non))) H1) ?_ h
  intro fv mv H Z Fs σ s' H1 Z1 Fs1 F v x z Q e p q
  cases e
  rw [isnon_iff p.held.pr]
  exact q _ _ _ _ (p.sc bl_own)
theorem rt_isN {j pos'} (ha : PE X a (tE X.K fva mva fa)) : PT X (.Compare a [.Is] [.Constant .none j pos'] pos) (tT X.K mva (tst (ev1 gIsN fa))) := by
  refine PT.of (pt_cmp (pc_isN ha)) fun σ H Q h => imp1 (r := fun x H1 Q => Q (.bl (decide (x = .non))) H1) ?_ (tst_imp h)
  intro fv mv H Z Fs σ s' H1 Z1 Fs1 F v x z Q e p q
  cases e
  rw [isnon_iff p.held.pr]
  exact q _ _ _ _ (p.sc bl_own)
theorem rt_notN {j pos'} (ha : PE X a (tE X.K fva mva fa)) : PT X (.Compare a [.IsNot] [.Constant .none j pos'] pos) (tT X.K mva (tst (ev1 gNotN fa))) := by
  refine PT.of (pt_cmp (pc_notN ha)) fun σ H Q h => imp1 (r := fun x H1 Q => Q (.bl (!decide (x = .non))) H1) ?_ (tst_imp h)
  intro fv mv H Z Fs σ s' H1 Z1 Fs1 F v x z Q e p q
  cases e
  rw [isnon_iff p.held.pr]
  exact q _ _ _ _ (p.sc bl_own)

/-! ### slices -/
def tO (K : PySem.W.Frag) (mv : List Nat) (f : Opt) : TO := fun σ H Q => ∃ Z s Fs o s', Good K Z H σ s Fs ∧ f s = .ok (o, s') ∧ ∀ H' Z' Fs', Post K PNone [] mv H Z Fs σ s' H' Z' Fs' [] → Q o H'
theorem PO.of {e : Option Expr} {t t' : TO} (h : PO X e t) (i : ∀ σ H Q, t' σ H Q → t σ H Q) : PO X e t' := ⟨fun pins s σ H Q I q => h.run pins s σ H Q I (i σ H Q q)⟩
theorem ro_none : PO X none (tO X.K [] oNone) := by
  refine PO.of po_none fun σ H Q h => ?_
  obtain ⟨Z, s, Fs, b, s', gd, e, q⟩ := h
  cases e
  exact q H Z Fs (Post.start gd)
theorem ro_some (h : PE X e (tE X.K fv mv f)) : PO X (some e) (tO X.K mv (oSome f)) := by
  refine PO.of (po_some h) fun σ H Q h => ?_
  obtain ⟨Z, s, Fs, b, s', gd, e, q⟩ := h
  unfold oSome at e
  obtain ⟨⟨x, s1⟩, ea, e⟩ := Res.bind_eq_ok.mp e
  obtain ⟨xd, xk⟩ := x
  simp only at e
  split at e
  · next i =>
    cases e
    exact ⟨Z, s, Fs, _, _, gd, ea, fun v H1 Z1 Fs1 F p => ⟨i, own_int p.held.pr, q H1 Z1 Fs1 p.nothing.fv0⟩⟩
  · cases e
theorem Post.keepOn {K : PySem.W.Frag} {Z Z1 Z2 : Zs} {H H1 H2 : Hp} {Fs Fs1 Fs2 : Fp} {σ : L2.St} {s1 s2 : SD} {F : List Addr} {P : Pr} (S : Stb P) (h : Post K P fva mva H Z Fs σ s1 H1 Z1 Fs1 F) (h2 : Post K PNone [] mvb H1 Z1 Fs1 σ s2 H2 Z2 Fs2 []) (d : ∀ i ∈ fva, i ∉ mvb) : Post K P fva (mva ++ mvb) H Z Fs σ s2 H2 Z2 Fs2 F :=
  ⟨h.tr.trans h2.tr (fun i hi => List.mem_append_left _ hi) (fun i hi => List.mem_append_right _ hi), h2.good, h.held.on S h.good h2.tr d, fun a ha => (h.new a ha).imp id fun ⟨i, hi, q⟩ => ⟨i, List.mem_append_left _ hi, q⟩⟩
theorem OwnAll.cut {K : PySem.W.Frag} {Z : Zs} {H : Hp} {k : Nat} : ∀ (ds : List PyData) {vs : List V} {F : List Addr} (n m : Nat), OwnAll K Z H k vs ds F → ∃ F', F'.Sublist F ∧ OwnAll K Z H k ((vs.drop n).take m) ((ds.drop n).take m) F'
  | [], vs, F, n, m, h => by
    unfold OwnAll at h
    obtain ⟨rfl, rfl⟩ := h
    refine ⟨[], List.nil_sublist _, ?_⟩
    simp only [List.drop_nil, List.take_nil]
    unfold OwnAll
    exact ⟨rfl, rfl⟩
  | d :: ds, vs, F, 0, 0, h => by
    refine ⟨[], List.nil_sublist _, ?_⟩
    simp only [List.take_zero]
    unfold OwnAll
    exact ⟨rfl, rfl⟩
  | d :: ds, vs, F, 0, m + 1, h => by
    unfold OwnAll at h
    obtain ⟨v, vs', F1, F2, rfl, h1, h2, rfl⟩ := h
    obtain ⟨F', sb, q⟩ := OwnAll.cut ds 0 m h2
    refine ⟨F1 ++ F', (List.Sublist.refl _).append sb, ?_⟩
    simp only [List.drop_zero, List.take_succ_cons] at q ⊢
    unfold OwnAll
    exact ⟨v, _, F1, F', rfl, h1, q, rfl⟩
  | d :: ds, vs, F, n + 1, m, h => by
    unfold OwnAll at h
    obtain ⟨v, vs', F1, F2, rfl, h1, h2, rfl⟩ := h
    obtain ⟨F', sb, q⟩ := OwnAll.cut ds n m h2
    refine ⟨F', sb.trans (List.sublist_append_right _ _), ?_⟩
    simp only [List.drop_succ_cons]
    exact q
theorem re_slice {lo hi : Option Expr} {p2 : Pos} {fl fh : Opt} {mvl mvh : List Nat} (he : PE X e (tE X.K fva mva fa)) (hl : PO X lo (tO X.K mvl fl)) (hu : PO X hi (tO X.K mvh fh)) (d : djn fva (mvl ++ mvh) = true := by rfl) : PE X (.Subscript e (.Slice lo hi none p2) pos) (tE X.K fva (mva ++ mvl ++ mvh) (evSl fa fl fh)) := by
  refine PE.of (pe_slice sl_list he hl hu) fun σ H Q h => ?_
  obtain ⟨Z, s, Fs, z, s', gd, e, q⟩ := h
  unfold evSl at e
  obtain ⟨⟨x, s1⟩, ea, e⟩ := Res.bind_eq_ok.mp e
  obtain ⟨⟨l, s2⟩, el, e⟩ := Res.bind_eq_ok.mp e
  obtain ⟨⟨u, s3⟩, eu, e⟩ := Res.bind_eq_ok.mp e
  obtain ⟨xd, xk⟩ := x
  have dd := djn_ok d
  refine ⟨Z, s, Fs, _, _, gd, ea, fun v H1 Z1 Fs1 F p1 => ⟨Z1, s1, Fs1, l, s2, p1.good, el, fun H2 Z2 Fs2 p2 => ⟨Z2, s2, Fs2, u, s3, p2.good, eu, fun H3 Z3 Fs3 p3 => ?_⟩⟩⟩
  have pp := (p1.keepOn (stb_one _ _ _) p2 fun i hi z => dd i hi (List.mem_append_left _ z)).keepOn (stb_one _ _ _) p3 fun i hi z => dd i hi (List.mem_append_right _ z)
  cases xd with
  | list ds =>
    cases e
    have ow : Own X.K _ _ xk v (.list ds) F := pp.held.pr
    obtain ⟨pa, vs, G, rfl, r1, o1, sb⟩ := ow.sub
    obtain ⟨E, se, oe⟩ := OwnAll.cut ds (HT.sIx ds.length 0 l) (HT.sIx ds.length ds.length u - HT.sIx ds.length 0 l) o1
    have la := OwnAll.len _ o1
    refine ⟨pa, vs, rfl, .inl r1, fun pn hp => ?_⟩
    have ec : cutV vs l u = (vs.drop (HT.sIx ds.length 0 l)).take (HT.sIx ds.length ds.length u - HT.sIx ds.length 0 l) := by
      unfold cutV
      rw [la]
    have hc : hgtAll (cutD ds l u) ≤ xk - 1 ∨ depI (PyData.list ds, xk) ≤ xk - 1 := by
      rcases depI_ok (Nat.le_refl (depI (PyData.list ds, xk))) with q | q
      · left
        refine Nat.le_trans ?_ q
        have : ∀ (ds : List PyData) (d : PyData), d ∈ ds → hgt d ≤ hgtAll ds := fun ds => by
          induction ds with
          | nil => intro d hd; cases hd
          | cons c cs ih =>
            intro d hd
            rw [hgtAll]
            rcases List.mem_cons.mp hd with rfl | hd
            · exact Nat.le_max_left _ _
            · exact Nat.le_trans (ih d hd) (Nat.le_max_right _ _)
        have back : ∀ (cs : List PyData) (n : Nat), (∀ d ∈ cs, hgt d ≤ n) → hgtAll cs ≤ n := fun cs n => by
          induction cs with
          | nil => intro _; rw [hgtAll]; exact Nat.zero_le _
          | cons c cs ih =>
            intro hd
            rw [hgtAll]
            exact Nat.max_le.mpr ⟨hd c (List.mem_cons_self ..), ih fun d h => hd d (List.mem_cons_of_mem _ h)⟩
        exact back _ _ fun d hd => this ds d (List.mem_of_mem_drop (List.mem_of_mem_take hd))
      · exact .inr q
    obtain ⟨E', t, qq⟩ := OwnAll.to (m := depI (PyData.list ds, xk)) oe (pp.held.nd.sublist (se.trans sb)) hc
    have R := pp.newL (stb_one _ _ _) (p := pn) (vs := cutV vs l u) (ds := cutD ds l u) (F' := E') (k := depI (PyData.list ds, xk)) hp (t.trans (se.trans sb)) fun Z2 mz m2 => by
      rw [ec]
      exact qq Z2 mz fun a ha hn => m2 a ((se.trans sb).subset ha) hn
    exact q _ _ _ _ _ R
  | _ => cases e
end
end Sq
end

section
namespace Sq
open PySem PySem.Spec L2
/-- what a def is worth: of its arguments, its value and what its parameters are in the end -/
abbrev Fn := List DV → Res (DV × SD)
def keepFull (o : Option DV) : Option DV := match o with
  | some x => if full x then some x else none
  | none => none
def putBack (fin : SD) : List (Nat × Nat) → SD → SD
  | [], s => s
  | (j, i) :: r, s => putBack fin r (s.set i (keepFull ((fin[j]?).getD none)))
def evCall (g : Fn) (back : List (Nat × Nat)) (a : Exs) : Ex := fun s => do
  let (xs, s) ← a s
  let (z, fin) ← g xs
  .ok (z, putBack fin back s)
/-- the promise of a def -/
def spF (K : PySem.W.Frag) (n : Nat) (g : Fn) : Sp := fun vs H Q _ => vs.length = n ∧ ∃ Z ds Fa z fin, Good K Z H (vs.map some) (ds.map some) Fa ∧ g ds = .ok (z, fin) ∧
  ∀ v H' Z' Fa' F, Post K (POne K v z) [] (List.range n) H Z Fa (vs.map some) fin H' Z' Fa' F → Q v H'

section
variable {K : PySem.W.Frag} {Z Z1 Z2 : Zs} {H H1 H2 : Hp} {Fs Fs1 Fs2 : Fp} {σ : L2.St} {s s' s1 s2 : SD} {F F2 : List Addr} {fv mv : List Nat}
/-- each argument's own things -/
theorem OwnL.each : ∀ {xs : List DV} {vs : List V} {F : List Addr}, OwnL K Z H vs xs F → F.Nodup → ∃ Fa : Fp, (∀ (j : Nat) d k, xs[j]? = some (d, k) → ∃ v, vs[j]? = some v ∧ Own K Z H k v d (Fa j)) ∧ (∀ j, (Fa j).Sublist F) ∧ (∀ i j, i ≠ j → ∀ a ∈ Fa i, a ∉ Fa j) ∧ (∀ j, xs.length ≤ j → Fa j = [])
  | [], vs, F, h, nd => ⟨fun _ => [], fun j d k e => by simp at e, fun j => List.nil_sublist _, fun i j _ a ha => (by cases ha), fun j _ => rfl⟩
  | x :: xs, _, _, ⟨v, vs', F1, F2, e, h1, h2, e2⟩, nd => by
    subst e2 e
    obtain ⟨n1, n2, n3⟩ := List.nodup_append.mp nd
    obtain ⟨Fa, a1, a2, a3, a4⟩ := OwnL.each h2 n2
    refine ⟨fun j => match j with | 0 => F1 | j + 1 => Fa j, fun j d k e => ?_, fun j => ?_, fun i j n a ha hb => ?_, fun j l => ?_⟩
    · cases j with
      | zero =>
        simp only [List.getElem?_cons_zero, Option.some.injEq] at e
        subst e
        exact ⟨v, rfl, h1⟩
      | succ j =>
        simp only [List.getElem?_cons_succ] at e
        obtain ⟨w, e1, q⟩ := a1 j d k e
        exact ⟨w, by simpa using e1, q⟩
    · cases j with
      | zero => exact List.sublist_append_left _ _
      | succ j => exact (a2 j).trans (List.sublist_append_right _ _)
    · cases i with
      | zero =>
        cases j with
        | zero => exact n rfl
        | succ j => exact n3 a ha a ((a2 j).subset hb) rfl
      | succ i =>
        cases j with
        | zero => exact n3 a hb a ((a2 i).subset ha) rfl
        | succ j => exact a3 i j (fun e => n (congrArg Nat.succ e)) a ha hb
    · cases j with
      | zero => simp at l
      | succ j => exact a4 j (by simpa using l)
def backAt (back : List (Nat × Nat)) (i : Nat) : Option Nat := (back.reverse.find? fun p => p.2 == i).map (·.1)
theorem putBack_len (fin : SD) : ∀ (back : List (Nat × Nat)) (s : SD), (putBack fin back s).length = s.length
  | [], s => rfl
  | (j, i) :: r, s => by rw [putBack, putBack_len fin r, List.length_set]
theorem putBack_at (fin : SD) : ∀ (back : List (Nat × Nat)) (s : SD) (i : Nat) {x : DV}, (putBack fin back s)[i]? = some (some x) → (∃ j, (j, i) ∈ back ∧ fin[j]? = some (some x) ∧ full x = true) ∨ ((∀ j, (j, i) ∉ back) ∧ s[i]? = some (some x))
  | [], s, i, x, h => .inr ⟨fun j hj => (by cases hj), h⟩
  | (j, i') :: r, s, i, x, h => by
    rw [putBack] at h
    rcases putBack_at fin r _ i h with ⟨j', hj, e, f⟩ | ⟨hn, e⟩
    · exact .inl ⟨j', List.mem_cons_of_mem _ hj, e, f⟩
    · by_cases q : i' = i
      · subst q
        by_cases l : i' < s.length
        · rw [List.getElem?_set_self l] at e
          have e' := Option.some.inj e
          unfold keepFull at e'
          split at e'
          · next y ey =>
            split at e'
            · next f =>
              cases e'
              refine .inl ⟨j, List.mem_cons_self .., ?_, f⟩
              cases q : fin[j]? with
              | none => rw [q] at ey; cases ey
              | some o => rw [q] at ey; exact congrArg some ey
            · cases e'
          · cases e'
        · rw [List.getElem?_eq_none (by simpa using l)] at e; cases e
      · rw [List.getElem?_set_ne q] at e
        refine .inr ⟨fun j' hj => ?_, e⟩
        rcases List.mem_cons.mp hj with e' | hj
        · cases e'; exact q rfl
        · exact hn j' hj
def ndup : List Nat → Bool
  | [] => true
  | x :: r => !r.contains x && ndup r
theorem ndup_ok : ∀ {l : List Nat}, ndup l = true → l.Nodup
  | [], _ => List.nodup_nil
  | x :: r, h => by
    unfold ndup at h
    rw [Bool.and_eq_true] at h
    exact List.nodup_cons.mpr ⟨fun m => by simp at h; exact h.1 m, ndup_ok h.2⟩
/-- the ways back: other slots than those shared, no argument and no slot twice, all among the changed -/
def backOk (fv mv : List Nat) (io back : List (Nat × Nat)) : Bool :=
  back.all (fun p => !fv.contains p.2 && mv.contains p.2 && io.contains p) && ndup (back.map (·.1)) && ndup (back.map (·.2))
theorem inj2 : ∀ {back : List (Nat × Nat)}, (back.map (·.2)).Nodup → ∀ {i j j' : Nat}, (j, i) ∈ back → (j', i) ∈ back → j = j'
  | [], _, _, _, _, h, _ => by cases h
  | p :: r, nd, i, j, j', h, h' => by
    rw [List.map_cons, List.nodup_cons] at nd
    have no : ∀ {j : Nat}, (j, i) ∈ r → i = p.2 → False := fun {j} m e => nd.1 (List.mem_map.mpr ⟨(j, i), m, e⟩)
    rcases List.mem_cons.mp h with e | m
    · rcases List.mem_cons.mp h' with e' | m'
      · rw [← e] at e'; exact (Prod.mk.inj e').1.symm
      · exact (no m' (by rw [← e])).elim
    · rcases List.mem_cons.mp h' with e' | m'
      · exact (no m (by rw [← e'])).elim
      · exact inj2 nd.2 m m'
theorem inj1 : ∀ {back : List (Nat × Nat)}, (back.map (·.1)).Nodup → ∀ {i i' j : Nat}, (j, i) ∈ back → (j, i') ∈ back → i = i'
  | [], _, _, _, _, h, _ => by cases h
  | p :: r, nd, i, i', j, h, h' => by
    rw [List.map_cons, List.nodup_cons] at nd
    have no : ∀ {i : Nat}, (j, i) ∈ r → j = p.1 → False := fun {i} m e => nd.1 (List.mem_map.mpr ⟨(j, i), m, e⟩)
    rcases List.mem_cons.mp h with e | m
    · rcases List.mem_cons.mp h' with e' | m'
      · rw [← e] at e'; exact (Prod.mk.inj e').2.symm
      · exact (no m' (by rw [← e])).elim
    · rcases List.mem_cons.mp h' with e' | m'
      · exact (no m (by rw [← e'])).elim
      · exact inj1 nd.2 m m'
theorem call_post {vs : List V} {xs : List DV} {io back : List (Nat × Nat)} {g : Fn} {z : DV} {fin : SD} {Q : VK} {E : XK} {n : Nat} (p : Post K (PAll K vs xs) fv mv H Z Fs σ s1 H1 Z1 Fs1 F) (ok : IoOk io σ vs) (hb : backOk fv mv io back = true) (hn : xs.length = n) (eg : g xs = .ok (z, fin))
    (q : ∀ v H' Z' Fs' F', Post K (POne K v z) fv mv H Z Fs σ (putBack fin back s1) H' Z' Fs' F' → Q v H') : spF K n g vs H1 Q E := by
  unfold backOk at hb
  rw [Bool.and_eq_true, Bool.and_eq_true, List.all_eq_true] at hb
  obtain ⟨⟨hb, hb1⟩, hb2⟩ := hb
  have nd1 := ndup_ok hb1
  have nd2 := ndup_ok hb2
  have bk : ∀ {j i : Nat}, (j, i) ∈ back → i ∉ fv ∧ i ∈ mv ∧ (j, i) ∈ io := fun {j i} h => by
    have := hb _ h
    simp at this
    exact ⟨this.1.1, this.1.2, this.2⟩
  have hlen : vs.length = xs.length := OwnL.len p.held.pr
  obtain ⟨Fa, a1, a2, a3, a4⟩ := OwnL.each p.held.pr p.held.nd
  have aF : ∀ {j : Nat} {a : Addr}, a ∈ Fa j → a ∈ F := fun h => (a2 _).subset h
  have trF : ∀ a ∈ F, ∃ o, H1 a = some o ∧ Chg o := fun a ha => OwnL.isl p.held.pr a ha
  refine ⟨hlen.trans hn, Zf Z1 Fs1 fv, xs, Fa, z, fin, ⟨by simp [hlen], fun i d k e => ?_, fun i => p.held.nd.sublist (a2 i), a3, fun i a ha z => ?_, fun i a ha => trF a (aF ha), fun a z => ?_⟩, eg, fun v H2 Zc Fb F2 c => ?_⟩
  · rw [List.getElem?_map] at e
    cases q : xs[i]? with
    | none => rw [q] at e; cases e
    | some y =>
      rw [q] at e
      have e' : y = (d, k) := Option.some.inj (Option.some.inj e)
      rw [e'] at q
      obtain ⟨w, e1, ow⟩ := a1 i d k q
      exact ⟨w, by rw [List.getElem?_map, e1]; rfl, ow⟩
  · rcases z with z | ⟨j, _, z⟩
    · exact p.held.nz a (aF ha) z
    · exact p.held.nf a (aF ha) j z
  · rcases z with z | ⟨j, _, z⟩
    · exact p.good.zt a z
    · obtain ⟨o, e, _⟩ := p.good.isl j a z; exact ⟨o, e⟩
  · -- behind the call
    have cev : ∀ a o, H1 a = some o → (a ∉ F) → H2 a = some o := fun a o e n => c.tr.ev a o e fun i _ ha => n (aF ha)
    have cb : ∀ a, (H1 a = none ∨ ∃ i ∈ List.range n, a ∈ Fa i) → H1 a = none ∨ a ∈ F := fun a h => h.imp id fun ⟨i, _, h⟩ => aF h
    have cF : ∀ j, ∀ a ∈ Fb j, H1 a = none ∨ a ∈ F := fun j a ha => by
      by_cases m : j ∈ List.range n
      · exact cb a (c.tr.fb j m a ha)
      · rw [c.tr.fo j m] at ha
        exact .inr (aF ha)
    have cz : ∀ a, Zc a → Zf Z1 Fs1 fv a ∨ H1 a = none ∨ a ∈ F := fun a z => by
      rcases c.tr.zb a z with q | q | q
      · exact .inl q
      · exact .inr (.inl q)
      · exact .inr (cb a (.inr q))
    have off : ∀ a, (H1 a = none ∨ a ∈ F) → ∀ i, a ∉ Fs1 i := fun a h i z => by
      rcases h with h | h
      · obtain ⟨o, e, _⟩ := p.good.isl i a z; rw [h] at e; cases e
      · exact p.held.nf a h i z
    have nw : ∀ a, (H1 a = none ∨ a ∈ F) → H a = none ∨ ∃ i ∈ mv, a ∈ Fs i := fun a h => by
      rcases h with h | h
      · exact .inl (p.tr.dom a h)
      · exact p.new a h
    let F2s : Fp := fun i => match (back.find? fun q => q.2 == i) with | some q => Fb q.1 | none => Fs1 i
    let Z2 : Zs := fun a => Z1 a ∨ (Zc a ∧ ∀ i ∈ fv, a ∉ Fs1 i)
    have fAt : ∀ {j i : Nat}, (j, i) ∈ back → F2s i = Fb j := fun {j i} h => by
      show (match (back.find? fun q => q.2 == i) with | some q => Fb q.1 | none => Fs1 i) = Fb j
      cases e : back.find? fun q => q.2 == i with
      | none =>
        have := List.find?_eq_none.mp e (j, i) h
        simp at this
      | some q =>
        have m := List.mem_of_find?_eq_some e
        have t := List.find?_some e
        obtain ⟨q1, q2⟩ := q
        simp at t
        subst t
        rw [inj2 nd2 m h]
    have fNo : ∀ {i : Nat}, (∀ j, (j, i) ∉ back) → F2s i = Fs1 i := fun {i} h => by
      show (match (back.find? fun q => q.2 == i) with | some q => Fb q.1 | none => Fs1 i) = Fs1 i
      cases e : back.find? fun q => q.2 == i with
      | none => rfl
      | some q =>
        have m := List.mem_of_find?_eq_some e
        have t := List.find?_some e
        obtain ⟨q1, q2⟩ := q
        simp at t
        subst t
        exact absurd m (h q1)
    have fOr : ∀ i, (∃ j, (j, i) ∈ back) ∨ ∀ j, (j, i) ∉ back := fun i => by
      by_cases h : ∃ j, (j, i) ∈ back
      · exact .inl h
      · exact .inr fun j hj => h ⟨j, hj⟩
    have zBad : ∀ a, Z2 a → ∀ i, a ∉ Fs1 i := fun a z i ha => by
      rcases z with z | ⟨z, zn⟩
      · exact p.good.nz i a ha z
      · rcases cz a z with (q | ⟨j, hj, q⟩) | q
        · exact p.good.nz i a ha q
        · exact zn j hj q
        · exact off a q i ha
    have zc : ∀ a, Z2 a → Zc a := fun a z => by
      rcases z with z | z
      · exact c.tr.zm a (.inl z)
      · exact z.1
    have trk : ∀ a, (∃ o, H1 a = some o) → ∃ o, H2 a = some o := fun a ⟨o, e⟩ => by
      cases q : H2 a with
      | some u => exact ⟨u, rfl⟩
      | none => rw [c.tr.dom a q] at e; cases e
    have kpr : ∀ i, Kp (fun a => a ∈ Fs1 i ∨ Z1 a) H1 H2 := fun i a o e q => cev a o e fun ha => by
      rcases q with (q | q) | q
      · exact p.held.nf a ha i q
      · exact p.held.nz a ha q
      · obtain ⟨o', e', ch⟩ := trF a ha
        rw [e] at e'; cases e'
        exact q ch
    refine q v H2 Z2 F2s F2 ⟨⟨fun a o e nm => ?_, fun a e => p.tr.dom a (c.tr.dom a e), fun a z => .inl (p.tr.zm a z), fun a z => ?_, fun i hi => ?_, fun i hi a ha => ?_⟩, ⟨?_, fun i d k e => ?_, fun i => ?_, fun i j ne a ha hb => ?_, fun i a ha z => ?_, fun i a ha => ?_, fun a z => ?_⟩, ⟨?_, c.held.nd, fun a ha i z => ?_, fun a ha z => c.held.nz a ha (zc a z)⟩, fun a ha => nw a (cb a (c.new a ha))⟩
    · exact cev a o (p.tr.ev a o e nm) fun ha => by
        rcases p.new a ha with q | ⟨i, hi, q⟩
        · rw [e] at q; cases q
        · exact nm i hi q
    · rcases z with z | ⟨z, zn⟩
      · exact p.tr.zb a z
      · rcases cz a z with (q | ⟨j, hj, q⟩) | q
        · exact p.tr.zb a q
        · exact absurd q (zn j hj)
        · exact .inr (nw a q)
    · rw [fNo fun j hj => hi (bk hj).2.1]
      exact p.tr.fo i hi
    · rcases fOr i with ⟨j, hj⟩ | hj
      · rw [fAt hj] at ha
        exact nw a (cF j a ha)
      · rw [fNo hj] at ha
        exact p.tr.fb i hi a ha
    · rw [putBack_len]; exact p.good.len
    · rcases putBack_at fin back s1 i e with ⟨j, hj, ej, fl⟩ | ⟨hj, es⟩
      · obtain ⟨w, ew, ow⟩ := c.good.own j d k ej
        obtain ⟨w', e1, e2⟩ := ok _ (bk hj).2.2
        have ee : w' = w := by
          rw [List.getElem?_map, e1] at ew
          exact Option.some.inj (Option.some.inj ew)
        subst ee
        rw [fAt hj]
        exact ⟨w', e2, Own.lift d ow (full_iff.mp fl) (full_iff.mp fl)⟩
      · obtain ⟨w, ew, ow⟩ := p.good.own i d k es
        rw [fNo hj]
        exact ⟨w, ew, Own.zmono d (Own.keep d ow (kpr i)) fun a z => .inl z⟩
    · rcases fOr i with ⟨j, hj⟩ | hj
      · rw [fAt hj]; exact c.good.nd j
      · rw [fNo hj]; exact p.good.nd i
    · rcases fOr i with ⟨i', hi⟩ | hi
      · rw [fAt hi] at ha
        rcases fOr j with ⟨j', hj⟩ | hj
        · rw [fAt hj] at hb
          exact c.good.dj i' j' (fun e => ne (by subst e; exact inj1 nd1 hi hj)) a ha hb
        · rw [fNo hj] at hb
          exact off a (cF i' a ha) j hb
      · rw [fNo hi] at ha
        rcases fOr j with ⟨j', hj⟩ | hj
        · rw [fAt hj] at hb
          exact off a (cF j' a hb) i ha
        · rw [fNo hj] at hb
          exact p.good.dj i j ne a ha hb
    · rcases fOr i with ⟨j, hj⟩ | hj
      · rw [fAt hj] at ha
        exact c.good.nz j a ha (zc a z)
      · rw [fNo hj] at ha
        exact zBad a z i ha
    · rcases fOr i with ⟨j, hj⟩ | hj
      · rw [fAt hj] at ha; exact c.good.isl j a ha
      · rw [fNo hj] at ha
        obtain ⟨o, e, ch⟩ := p.good.isl i a ha
        exact ⟨o, kpr i a o e (.inl (.inl ha)), ch⟩
    · exact c.good.zt a (zc a z)
    · refine Own.zmono _ c.held.pr fun a z => ?_
      rcases z with z | ⟨i, hi, _⟩
      · by_cases m : ∃ i ∈ fv, a ∈ Fs1 i
        · obtain ⟨i, hi, m⟩ := m
          refine .inr ⟨i, hi, ?_⟩
          rw [fNo fun j hj => (bk hj).1 hi]
          exact m
        · exact .inl (.inr ⟨z, fun i hi z => m ⟨i, hi, z⟩⟩)
      · cases hi
    · rcases fOr i with ⟨j, hj⟩ | hj
      · rw [fAt hj] at z
        exact c.held.nf a ha j z
      · rw [fNo hj] at z
        exact off a (cb a (c.new a ha)) i z
end
section
variable {X : Cx} {e : Expr} {es : List Expr} {p pos : Pos} {fv mv : List Nat} {fs : Exs} {io : List (Nat × Nat)}
theorem evCall_imp {K : PySem.W.Frag} {g : Fn} {back : List (Nat × Nat)} {n : Nat} {σ : L2.St} {H : Hp} {Q : VK} {E : XK} (hn : ∀ xs r, g xs = .ok r → xs.length = n) (hb : backOk fv mv io back = true) (h : tE K fv mv (evCall g back fs) σ H Q) : tCall (spF K n g) [] E (tA K fv mv io fs) σ H Q := by
  obtain ⟨Z, s, Fs, z, s', gd, e, q⟩ := h
  unfold evCall at e
  obtain ⟨⟨xs, s1⟩, ea, e⟩ := Res.bind_eq_ok.mp e
  obtain ⟨⟨z', fin⟩, eg, e⟩ := Res.bind_eq_ok.mp e
  cases e
  refine ⟨Z, s, Fs, xs, s1, gd, ea, fun vs H1 Z1 Fs1 F p ok => ?_⟩
  show spF K n g (vs ++ []) H1 Q E
  rw [List.append_nil]
  exact call_post p ok hb (hn xs _ eg) eg q
theorem re_call {CX : CXT} {k n : Nat} {f : Addr} {fd : FuncData} {ps : List Str} {x : Str} {E : XK} {g : Fn} (F : FnOk X.prog X.w X.K X.mg X.base CX k f fd ps (spF X.K n g)) (hr : Room k X.A) (hg : Gl X x) (hm : X.mg x = some (.ref f)) (hk : PySem.W.keepIn X.K (.ref f) = true) (hb : Binds X.K fd ps []) (hx : Passes CX X E)
    (hn : ∀ xs r, g xs = .ok r → xs.length = n) (back : List (Nat × Nat)) (ha : PA X (e :: es) (tA X.K fv mv io fs)) (hbk : backOk fv mv io back = true := by rfl) (hdb : (x == ("__debug__" : Str)) = false := by decide) (he : starEach (e :: es) X.env = (false, eval e X.env) :: starEach es X.env := by rfl) (hpl : (backTo pos (starEach es X.env)).any (·.1) = false := by rfl) :
    PE X (.Call (.Name x p) (e :: es) [] pos) (tE X.K fv mv (evCall g back fs)) :=
  PE.of (pe_call F hr hg hm hk hb .nil hx ha hdb he hpl) fun σ H Q h => evCall_imp hn hbk h
end
end Sq
end

section
namespace Sq
open PySem PySem.Spec L2
inductive Fl where
  | next
  | ret (x : DV)
  | brk
  | cont
abbrev Sx := SD → Res (Fl × SD)
def settle (fv : List Nat) (x : DV) (s : SD) : SD := if full x then s else demote fv s
def sAsg (i : Nat) (fv : List Nat) (a : Ex) : Sx := fun s => do
  let (x, s) ← a s
  .ok (.next, (settle fv x s).set i (some x))
def sExpr (a : Ex) : Sx := fun s => do
  let (_, s) ← a s
  .ok (.next, s)
def sRet (fv : List Nat) (a : Ex) : Sx := fun s => do
  let (x, s) ← a s
  .ok (.ret x, settle fv x s)
def sRetN : Sx := fun s => .ok (.ret (.none, 0), s)
def sBrk : Sx := fun s => .ok (.brk, s)
def sBad : Sx := fun _ => .bad
def sSkip : Sx := fun s => .ok (.next, s)
def sSeq (a b : Sx) : Sx := fun s => do
  let (fl, s) ← a s
  match fl with
  | .next => b s
  | fl => .ok (fl, s)
def sIf (c : Tst) (a b : Sx) : Sx := fun s => do
  let (t, s) ← c s
  if t then a s else b s
/-- a def: its slots at the start, its parameters in the end (pk: those that are never bound anew) -/
def start1 (n : Nat) (xs : List DV) : SD := xs.map some ++ List.replicate (n - xs.length) none
def finP (np : Nat) (asg : List Nat) (s : SD) : SD := (List.range np).map fun i => if i ∈ asg then none else (s[i]?).getD none
def defn (n np : Nat) (asg : List Nat) (body : Sx) : Fn := fun xs => if xs.length = np then (do
  let (fl, s) ← body (start1 n xs)
  match fl with
  | .ret x => .ok (x, finP np asg s)
  | .next => .ok ((.none, 0), finP np asg s)
  | _ => .bad) else .bad

structure PostS (K : PySem.W.Frag) (asg mv : List Nat) (σ : L2.St) (H : Hp) (Z : Zs) (Fs : Fp) (σ' : L2.St) (s' : SD) (H' : Hp) (Z' : Zs) (Fs' : Fp) : Prop where
  tr : Tr mv H Z Fs H' Z' Fs'
  good : Good K Z' H' σ' s' Fs'
  st : ∀ i, i ∉ asg → σ'[i]? = σ[i]?
  ln : σ'.length = σ.length
def EndS (K : PySem.W.Frag) (asg mv : List Nat) (σ : L2.St) (H : Hp) (Z : Zs) (Fs : Fp) (s' : SD) (D : Ends) : Fl → Prop
  | .next => ∀ σ' H' Z' Fs', PostS K asg mv σ H Z Fs σ' s' H' Z' Fs' → D.nx σ' H'
  | .brk => ∀ σ' H' Z' Fs', PostS K asg mv σ H Z Fs σ' s' H' Z' Fs' → D.bk σ' H'
  | .cont => ∀ σ' H' Z' Fs', PostS K asg mv σ H Z Fs σ' s' H' Z' Fs' → D.ct σ' H'
  | .ret x => ∀ v σ' H' Z' Fs' F, PostS K asg mv σ H Z Fs σ' s' H' Z' Fs' → Held (POne K v x) [] H' Z' Fs' F → (∀ a ∈ F, H a = none ∨ ∃ i ∈ mv, a ∈ Fs i) → D.rt v H'
def tS (K : PySem.W.Frag) (asg mv : List Nat) (f : Sx) : TS := fun D σ H => ∃ Z s Fs fl s', Good K Z H σ s Fs ∧ f s = .ok (fl, s') ∧ EndS K asg mv σ H Z Fs s' D fl

section
variable {K : PySem.W.Frag} {Z Z1 Z2 : Zs} {H H1 H2 : Hp} {Fs Fs1 Fs2 : Fp} {σ σ1 σ2 : L2.St} {s s' s1 s2 : SD} {F F2 : List Addr} {fv mv asg a1 a2 m1 m2 : List Nat} {x : DV} {v : V} {P : Pr}
theorem PostS.trans (p : PostS K a1 m1 σ H Z Fs σ1 s1 H1 Z1 Fs1) (q : PostS K a2 m2 σ1 H1 Z1 Fs1 σ2 s2 H2 Z2 Fs2) : PostS K (a1 ++ a2) (m1 ++ m2) σ H Z Fs σ2 s2 H2 Z2 Fs2 where
  tr := p.tr.trans q.tr (fun i hi => List.mem_append_left _ hi) (fun i hi => List.mem_append_right _ hi)
  good := q.good
  st := fun i hi => (q.st i fun z => hi (List.mem_append_right _ z)).trans (p.st i fun z => hi (List.mem_append_left _ z))
  ln := q.ln.trans p.ln
theorem PostS.weak (p : PostS K a1 m1 σ H Z Fs σ1 s1 H1 Z1 Fs1) (ha : ∀ i ∈ a1, i ∈ a2) (hm : ∀ i ∈ m1, i ∈ m2) : PostS K a2 m2 σ H Z Fs σ1 s1 H1 Z1 Fs1 := ⟨p.tr.weak hm, p.good, fun i hi => p.st i fun z => hi (ha i z), p.ln⟩
theorem newBack (p : Tr m1 H Z Fs H1 Z1 Fs1) {a : Addr} (h : H1 a = none ∨ ∃ i ∈ m2, a ∈ Fs1 i) : H a = none ∨ ∃ i ∈ m1 ++ m2, a ∈ Fs i := by
  rcases h with q | ⟨i, hi, q⟩
  · exact .inl (p.dom a q)
  · by_cases m : i ∈ m1
    · exact (p.fb i m a q).imp id fun ⟨j, hj, q⟩ => ⟨j, List.mem_append_left _ hj, q⟩
    · rw [p.fo i m] at q
      exact .inr ⟨i, List.mem_append_right _ hi, q⟩
theorem EndS.trans (p : PostS K a1 m1 σ H Z Fs σ1 s1 H1 Z1 Fs1) {D : Ends} {fl : Fl} (e : EndS K (a1 ++ a2) (m1 ++ m2) σ H Z Fs s2 D fl) : EndS K a2 m2 σ1 H1 Z1 Fs1 s2 D fl := by
  cases fl with
  | next => exact fun σ' H' Z' Fs' q => e σ' H' Z' Fs' (p.trans q)
  | brk => exact fun σ' H' Z' Fs' q => e σ' H' Z' Fs' (p.trans q)
  | cont => exact fun σ' H' Z' Fs' q => e σ' H' Z' Fs' (p.trans q)
  | ret x => exact fun v σ' H' Z' Fs' F q h n => e v σ' H' Z' Fs' F (p.trans q) h fun a ha => newBack p.tr (n a ha)
theorem EndS.weak {D : Ends} {fl : Fl} (e : EndS K a2 m2 σ H Z Fs s2 D fl) (ha : ∀ i ∈ a1, i ∈ a2) (hm : ∀ i ∈ m1, i ∈ m2) : EndS K a1 m1 σ H Z Fs s2 D fl := by
  cases fl with
  | next => exact fun σ' H' Z' Fs' q => e σ' H' Z' Fs' (q.weak ha hm)
  | brk => exact fun σ' H' Z' Fs' q => e σ' H' Z' Fs' (q.weak ha hm)
  | cont => exact fun σ' H' Z' Fs' q => e σ' H' Z' Fs' (q.weak ha hm)
  | ret x => exact fun v σ' H' Z' Fs' F q h n => e v σ' H' Z' Fs' F (q.weak ha hm) h fun a h => (n a h).imp id fun ⟨i, hi, q⟩ => ⟨i, hm i hi, q⟩
theorem Post.stm (p : Post K P fv mv H Z Fs σ s1 H1 Z1 Fs1 F) : PostS K [] mv σ H Z Fs σ s1 H1 Z1 Fs1 := ⟨p.tr, p.good, fun _ _ => rfl, rfl⟩
/-- slots whose things are shared from now on -/
theorem Good.demote (g : Good K Z H σ s Fs) (is : List Nat) : Good K (Zf Z Fs is) H σ (demote is s) (fun i => if i ∈ is then [] else Fs i) where
  len := by unfold Sq.demote; rw [List.length_mapIdx]; exact g.len
  own := fun i d k e => by
    unfold Sq.demote at e
    rw [List.getElem?_mapIdx] at e
    cases q : s[i]? with
    | none => rw [q] at e; cases e
    | some o =>
      rw [q] at e
      have e' : (if i ∈ is then o.map fun x => (x.1, 0) else o) = some (d, k) := Option.some.inj e
      by_cases m : i ∈ is
      · rw [if_pos m] at e' ⊢
        cases o with
        | none => cases e'
        | some y =>
          have e2 := Option.some.inj e'
          obtain ⟨v, ev, ow⟩ := g.own i y.1 y.2 q
          cases e2
          exact ⟨v, ev, Own.zmono _ (ow.share (g.nd i)) fun a z => z.imp id fun z => ⟨i, m, z⟩⟩
      · rw [if_neg m] at e' ⊢
        subst e'
        obtain ⟨v, ev, ow⟩ := g.own i d k q
        exact ⟨v, ev, Own.zmono _ ow fun a z => .inl z⟩
  nd := fun i => by
    by_cases m : i ∈ is
    · rw [if_pos m]; exact List.nodup_nil
    · rw [if_neg m]; exact g.nd i
  dj := fun i j n a ha hb => by
    by_cases m : i ∈ is
    · rw [if_pos m] at ha; cases ha
    · rw [if_neg m] at ha
      by_cases m2 : j ∈ is
      · rw [if_pos m2] at hb; cases hb
      · rw [if_neg m2] at hb; exact g.dj i j n a ha hb
  nz := fun i a ha z => by
    by_cases m : i ∈ is
    · rw [if_pos m] at ha; cases ha
    · rw [if_neg m] at ha
      rcases z with z | ⟨j, hj, z⟩
      · exact g.nz i a ha z
      · exact g.dj i j (fun e => m (e ▸ hj)) a ha z
  isl := fun i a ha => by
    by_cases m : i ∈ is
    · rw [if_pos m] at ha; cases ha
    · rw [if_neg m] at ha; exact g.isl i a ha
  zt := fun a z => by
    rcases z with z | ⟨j, _, z⟩
    · exact g.zt a z
    · obtain ⟨o, e, _⟩ := g.isl j a z; exact ⟨o, e⟩
theorem Tr.demote (is : List Nat) : Tr is H Z Fs H (Zf Z Fs is) (fun i => if i ∈ is then [] else Fs i) :=
  ⟨fun _ _ e _ => e, fun _ e => e, fun _ z => .inl z, fun a z => z.imp id fun z => .inr z, fun i hi => if_neg hi, fun i hi a ha => by rw [if_pos hi] at ha; cases ha⟩
/-- what is kept is shared with no slot -/
theorem Post.settle (p : Post K (POne K v x) fv mv H Z Fs σ s1 H1 Z1 Fs1 F) : ∃ Z2 Fs2, Post K (POne K v x) [] (mv ++ fv) H Z Fs σ (settle fv x s1) H1 Z2 Fs2 F ∧ ∀ i, Fs2 i = Fs1 i ∨ ∀ d k, (settle fv x s1)[i]? = some (some (d, k)) → k = 0 := by
  by_cases f : full x = true
  · refine ⟨Z1, Fs1, ?_, fun i => .inl rfl⟩
    have e : Sq.settle fv x s1 = s1 := by unfold Sq.settle; rw [if_pos f]
    rw [e]
    exact ⟨p.tr.weak fun i hi => List.mem_append_left _ hi, p.good, ⟨Own.lift _ p.held.pr (full_iff.mp f) (full_iff.mp f), p.held.nd, p.held.nf, p.held.nz⟩, fun a ha => (p.new a ha).imp id fun ⟨i, hi, q⟩ => ⟨i, List.mem_append_left _ hi, q⟩⟩
  · refine ⟨Zf Z1 Fs1 fv, _, ⟨p.tr.trans (Tr.demote fv) (fun i hi => List.mem_append_left _ hi) (fun i hi => List.mem_append_right _ hi), ?_, ⟨Own.zmono _ p.held.pr fun a z => .inl z, p.held.nd, fun a ha i z => ?_, fun a ha z => ?_⟩, fun a ha => (p.new a ha).imp id fun ⟨i, hi, q⟩ => ⟨i, List.mem_append_left _ hi, q⟩⟩, fun i => ?_⟩
    · unfold Sq.settle
      rw [if_neg f]
      exact p.good.demote fv
    · by_cases m : i ∈ fv
      · rw [if_pos m] at z; cases z
      · rw [if_neg m] at z; exact p.held.nf a ha i z
    · rcases z with z | ⟨i, _, z⟩
      · exact p.held.nz a ha z
      · exact p.held.nf a ha i z
    · by_cases m : i ∈ fv
      · refine .inr fun d k e => ?_
        unfold Sq.settle at e
        rw [if_neg f] at e
        unfold Sq.demote at e
        rw [List.getElem?_mapIdx] at e
        cases q : s1[i]? with
        | none => rw [q] at e; cases e
        | some o =>
          rw [q] at e
          have e' : (if i ∈ fv then o.map fun x => (x.1, 0) else o) = some (d, k) := Option.some.inj e
          rw [if_pos m] at e'
          cases o with
          | none => cases e'
          | some y => cases e'; rfl
      · exact .inl (if_neg m)
/-- a held thing is put into a slot -/
theorem Post.put (p : Post K (POne K v x) [] mv H Z Fs σ s1 H1 Z1 Fs1 F) (i : Nat) : PostS K [i] (mv ++ [i]) σ H Z Fs (σ.set i (some v)) (s1.set i (some x)) H1 Z1 (fun j => if j = i then F else Fs1 j) := by
  have hz : ∀ {a : Addr}, Zf Z1 Fs1 [] a → Z1 a := fun {a} z => by
    rcases z with z | ⟨_, h, _⟩
    · exact z
    · cases h
  have ow : Own K Z1 H1 x.2 v x.1 F := Own.zmono _ p.held.pr fun a z => hz z
  have il : ∀ a ∈ F, ∃ o, H1 a = some o ∧ Chg o := fun a ha => Own.isl _ ow a ha
  refine ⟨⟨fun a o e n => p.tr.ev a o e fun j hj => n j (List.mem_append_left _ hj), p.tr.dom, p.tr.zm, fun a z => (p.tr.zb a z).imp id fun z => z.imp id fun ⟨j, hj, q⟩ => ⟨j, List.mem_append_left _ hj, q⟩, fun j hj => ?_, fun j hj a ha => ?_⟩, ⟨by rw [List.length_set, List.length_set]; exact p.good.len, fun j d k e => ?_, fun j => ?_, fun j l n a ha hb => ?_, fun j a ha z => ?_, fun j a ha => ?_, p.good.zt⟩, fun j hj => ?_, by rw [List.length_set]⟩
  · have n1 : j ≠ i := fun e => hj (List.mem_append_right _ (by rw [e]; exact List.mem_singleton.mpr rfl))
    rw [if_neg n1]
    exact p.tr.fo j fun z => hj (List.mem_append_left _ z)
  · by_cases q : j = i
    · rw [if_pos q] at ha
      exact (p.new a ha).imp id fun ⟨l, hl, z⟩ => ⟨l, List.mem_append_left _ hl, z⟩
    · rw [if_neg q] at ha
      by_cases m : j ∈ mv
      · exact (p.tr.fb j m a ha).imp id fun ⟨l, hl, z⟩ => ⟨l, List.mem_append_left _ hl, z⟩
      · rw [p.tr.fo j m] at ha
        exact .inr ⟨j, hj, ha⟩
  · by_cases q : j = i
    · subst q
      by_cases l : j < s1.length
      · rw [List.getElem?_set_self l] at e
        have e' := Option.some.inj (Option.some.inj e)
        subst e'
        rw [if_pos rfl]
        exact ⟨v, List.getElem?_set_self (by rw [← p.good.len]; exact l), ow⟩
      · rw [List.getElem?_eq_none (by simpa using l)] at e; cases e
    · rw [List.getElem?_set_ne (Ne.symm q)] at e
      rw [if_neg q, List.getElem?_set_ne (Ne.symm q)]
      exact p.good.own j d k e
  · by_cases q : j = i
    · rw [if_pos q]; exact p.held.nd
    · rw [if_neg q]; exact p.good.nd j
  · by_cases q : j = i
    · rw [if_pos q] at ha
      rw [if_neg (fun e => n (q.trans e.symm))] at hb
      exact p.held.nf a ha l hb
    · rw [if_neg q] at ha
      by_cases q2 : l = i
      · rw [if_pos q2] at hb
        exact p.held.nf a hb j ha
      · rw [if_neg q2] at hb
        exact p.good.dj j l n a ha hb
  · by_cases q : j = i
    · rw [if_pos q] at ha; exact p.held.nz a ha z
    · rw [if_neg q] at ha; exact p.good.nz j a ha z
  · by_cases q : j = i
    · rw [if_pos q] at ha; exact il a ha
    · rw [if_neg q] at ha; exact p.good.isl j a ha
  · exact List.getElem?_set_ne fun e => hj (by rw [← e]; exact List.mem_singleton.mpr rfl)
end
section
variable {X : Cx} {e : Expr} {pos : Pos} {fv mv asg a1 a2 m1 m2 : List Nat} {f : Ex} {st : Stmt} {sts : List Stmt} {f1 f2 : Sx} {c : Tst}
theorem rs_nil : PSs X [] (tS X.K [] [] sSkip) := by
  refine PSs.of pss_nil fun D σ H h => ?_
  obtain ⟨Z, s, Fs, fl, s', gd, e, q⟩ := h
  cases e
  exact q σ H Z Fs ⟨Tr.refl _, gd, fun _ _ => rfl, rfl⟩
theorem rs_cons (h1 : PS X st (tS X.K a1 m1 f1)) (h2 : PSs X sts (tS X.K a2 m2 f2)) : PSs X (st :: sts) (tS X.K (a1 ++ a2) (m1 ++ m2) (sSeq f1 f2)) := by
  refine PSs.of (pss_cons h1 h2) fun D σ H h => ?_
  obtain ⟨Z, s, Fs, fl, s', gd, e, q⟩ := h
  unfold sSeq at e
  obtain ⟨⟨fl1, s1⟩, ea, e⟩ := Res.bind_eq_ok.mp e
  refine ⟨Z, s, Fs, fl1, s1, gd, ea, ?_⟩
  cases fl1 with
  | next => exact fun σ1 H1 Z1 Fs1 p => ⟨Z1, s1, Fs1, fl, s', p.good, e, EndS.trans p q⟩
  | brk => cases e; exact EndS.weak (fl := .brk) q (fun i hi => List.mem_append_left _ hi) (fun i hi => List.mem_append_left _ hi)
  | cont => cases e; exact EndS.weak (fl := .cont) q (fun i hi => List.mem_append_left _ hi) (fun i hi => List.mem_append_left _ hi)
  | ret x => cases e; exact EndS.weak (fl := .ret x) q (fun i hi => List.mem_append_left _ hi) (fun i hi => List.mem_append_left _ hi)
theorem rs_one (h1 : PS X st (tS X.K a1 m1 f1)) : PSs X [st] (tS X.K a1 m1 f1) := pss_one h1
theorem rs_if {ce : Expr} {a b : List Stmt} {mc : List Nat} (hc : PT X ce (tT X.K mc c)) (ha : PSs X a (tS X.K a1 m1 f1)) (hb : PSs X b (tS X.K a2 m2 f2)) : PS X (.If ce a b pos) (tS X.K (a1 ++ a2) (mc ++ (m1 ++ m2)) (sIf c f1 f2)) := by
  refine PS.of (ps_if hc ha hb) fun D σ H h => ?_
  obtain ⟨Z, s, Fs, fl, s', gd, e, q⟩ := h
  unfold sIf at e
  obtain ⟨⟨t, s1⟩, ea, e⟩ := Res.bind_eq_ok.mp e
  refine ⟨Z, s, Fs, t, s1, gd, ea, fun H1 Z1 Fs1 p => ?_⟩
  have q' := EndS.trans (a1 := []) (a2 := a1 ++ a2) p.stm q
  cases t with
  | true =>
    show if true = true then _ else _
    rw [if_pos rfl]
    exact ⟨Z1, s1, Fs1, fl, s', p.good, e, q'.weak (fun i hi => List.mem_append_left _ hi) (fun i hi => List.mem_append_left _ hi)⟩
  | false =>
    show if false = true then _ else _
    rw [if_neg Bool.false_ne_true]
    exact ⟨Z1, s1, Fs1, fl, s', p.good, e, q'.weak (fun i hi => List.mem_append_right _ hi) (fun i hi => List.mem_append_right _ hi)⟩
theorem asg_imp {K : PySem.W.Frag} {i : Nat} {D : Ends} {σ : L2.St} {H : Hp} (h : tS K [i] (mv ++ fv ++ [i]) (sAsg i fv f) D σ H) : tE K fv mv f σ H fun x H1 => D.nx (σ.set i (some x)) H1 := by
  obtain ⟨Z, s, Fs, fl, s', gd, e, q⟩ := h
  unfold sAsg at e
  obtain ⟨⟨x, s1⟩, ea, e⟩ := Res.bind_eq_ok.mp e
  cases e
  refine ⟨Z, s, Fs, x, s1, gd, ea, fun v H1 Z1 Fs1 F p => ?_⟩
  obtain ⟨Z2, Fs2, p2, _⟩ := p.settle
  exact q _ H1 Z2 _ (p2.put i)
theorem rs_asg {i : Nat} {x : Str} {pos' : Pos} (hN : X.N.Nodup) (hi : X.N[i]? = some x) (hx : Loc X.env.scope x) (he : PE X e (tE X.K fv mv f)) (hs : swapsWith e (some (.Name x pos')) pos.line X.env = pure false := by rfl) (hf : X.fn x = true ∨ X.env.scope.names.lookup x = some .local := by first | exact .inl rfl | exact .inr rfl | assumption) :
    PS X (.Assign [.Name x pos'] e pos) (tS X.K [i] (mv ++ fv ++ [i]) (sAsg i fv f)) :=
  PS.of (ps_set hN hi hx he hs hf) fun D σ H h => asg_imp h
theorem rs_expr (he : PE X e (tE X.K fv mv f)) (hs : swapsWith e none pos.line X.env = pure false := by rfl) : PS X (.Expr e pos) (tS X.K [] mv (sExpr f)) := by
  refine PS.of (ps_expr he hs) fun D σ H h => ?_
  obtain ⟨Z, s, Fs, fl, s', gd, e, q⟩ := h
  unfold sExpr at e
  obtain ⟨⟨x, s1⟩, ea, e⟩ := Res.bind_eq_ok.mp e
  cases e
  exact ⟨Z, s, Fs, x, _, gd, ea, fun v H1 Z1 Fs1 F p => q σ H1 Z1 Fs1 p.stm⟩
theorem rs_ret (he : PE X e (tE X.K fv mv f)) : PS X (.Return (some e) pos) (tS X.K [] (mv ++ fv) (sRet fv f)) := by
  refine PS.of (ps_ret he) fun D σ H h => ?_
  obtain ⟨Z, s, Fs, fl, s', gd, e, q⟩ := h
  unfold sRet at e
  obtain ⟨⟨x, s1⟩, ea, e⟩ := Res.bind_eq_ok.mp e
  cases e
  refine ⟨Z, s, Fs, x, s1, gd, ea, fun v H1 Z1 Fs1 F p => ?_⟩
  obtain ⟨Z2, Fs2, p2, _⟩ := p.settle
  exact q v σ H1 Z2 Fs2 F p2.stm p2.held p2.new
theorem rs_never : PS X st (tS X.K [] [] sBad) := PS.of ps_never fun D σ H h => by
  obtain ⟨Z, s, Fs, fl, s', gd, e, q⟩ := h
  cases e
theorem rs_break : PS X (.Break pos) (tS X.K [] [] sBrk) := by
  refine PS.of ps_break fun D σ H h => ?_
  obtain ⟨Z, s, Fs, fl, s', gd, e, q⟩ := h
  cases e
  exact q σ H Z Fs ⟨Tr.refl _, gd, fun _ _ => rfl, rfl⟩
end
/-! ### a def -/
theorem start1_len {n : Nat} {xs : List DV} (h : xs.length ≤ n) : (start1 n xs).length = n := by
  unfold start1
  rw [List.length_append, List.length_map, List.length_replicate]
  omega
theorem start_eq {N : List Str} {vs : List V} : L2.start N vs = vs.map some ++ List.replicate (N.length - vs.length) none := rfl
theorem defn_len {n np : Nat} {asg : List Nat} {body : Sx} {xs : List DV} {r : DV × SD} (h : defn n np asg body xs = .ok r) : xs.length = np := by
  unfold defn at h
  split at h
  · assumption
  · cases h
theorem finP_at {np : Nat} {asg : List Nat} {s : SD} {j : Nat} {x : DV} (h : (finP np asg s)[j]? = some (some x)) : j < np ∧ j ∉ asg ∧ s[j]? = some (some x) := by
  unfold finP at h
  rw [List.getElem?_map] at h
  by_cases l : j < np
  · rw [List.getElem?_range l] at h
    have h' : (if j ∈ asg then none else (s[j]?).getD none) = some x := Option.some.inj h
    by_cases m : j ∈ asg
    · rw [if_pos m] at h'; cases h'
    · rw [if_neg m] at h'
      cases q : s[j]? with
      | none => rw [q] at h'; cases h'
      | some o => rw [q] at h'; exact ⟨l, m, congrArg some h'⟩
  · rw [List.getElem?_eq_none (by simpa using l)] at h; cases h
theorem start_good {K : PySem.W.Frag} {Z : Zs} {H : Hp} {vs : List V} {ds : List DV} {Fa : Fp} (n : Nat) (g : Good K Z H (vs.map some) (ds.map some) Fa) : Good K Z H (vs.map some ++ List.replicate (n - vs.length) none) (start1 n ds) Fa := by
  have l : vs.length = ds.length := by have := g.len; simpa using this.symm
  refine ⟨by unfold start1; simp [l], fun i d k e => ?_, g.nd, g.dj, g.nz, g.isl, g.zt⟩
  unfold start1 at e
  by_cases q : i < ds.length
  · rw [List.getElem?_append_left (by simpa using q)] at e
    obtain ⟨v, ev, ow⟩ := g.own i d k e
    exact ⟨v, by rw [List.getElem?_append_left (by simpa [l] using q)]; exact ev, ow⟩
  · rw [List.getElem?_append_right (by simpa using q)] at e
    have := List.getElem?_eq_some_iff.mp e
    obtain ⟨_, this⟩ := this
    simp at this
theorem def_ok {K : PySem.W.Frag} {n np : Nat} {asg mv : List Nat} {body : Sx} {vs : List V} {H : Hp} {Q : VK} {E : XK} (h : spF K np (defn n np asg body) vs H Q E) (hm : ∀ i ∈ mv, i < np ∨ True) :
    tS K asg mv body { nx := fun _ H' => Q .non H', rt := Q } (vs.map some ++ List.replicate (n - vs.length) none) H := by
  obtain ⟨hl, Z, ds, Fa, z, fin, g, eg, q⟩ := h
  have hds := defn_len eg
  have l : vs.length = ds.length := by have := g.len; simpa using this.symm
  unfold defn at eg
  rw [if_pos hds] at eg
  obtain ⟨⟨fl, s⟩, eb, eg⟩ := Res.bind_eq_ok.mp eg
  -- what lies beyond the parameters was nothing: footprints of slots from np on can be taken as none
  let Fb : Fp := fun i => if i < np then Fa i else []
  have g0 : Good K Z H (vs.map some) (ds.map some) Fb := by
    refine ⟨g.len, fun i d k e => ?_, fun i => ?_, fun i j ne a ha hb => ?_, fun i a ha => ?_, fun i a ha => ?_, g.zt⟩
    · have lt : i < np := by
        have := List.getElem?_eq_some_iff.mp e
        obtain ⟨h1, _⟩ := this
        simp at h1
        omega
      obtain ⟨v, ev, ow⟩ := g.own i d k e
      exact ⟨v, ev, by show Own K Z H k v d (if i < np then Fa i else []); rw [if_pos lt]; exact ow⟩
    · show (if i < np then Fa i else []).Nodup
      by_cases lt : i < np
      · rw [if_pos lt]; exact g.nd i
      · rw [if_neg lt]; exact List.nodup_nil
    · have ha' : a ∈ (if i < np then Fa i else []) := ha
      have hb' : a ∈ (if j < np then Fa j else []) := hb
      by_cases lt : i < np
      · rw [if_pos lt] at ha'
        by_cases lt2 : j < np
        · rw [if_pos lt2] at hb'; exact g.dj i j ne a ha' hb'
        · rw [if_neg lt2] at hb'; cases hb'
      · rw [if_neg lt] at ha'; cases ha'
    · have ha' : a ∈ (if i < np then Fa i else []) := ha
      by_cases lt : i < np
      · rw [if_pos lt] at ha'; exact g.nz i a ha'
      · rw [if_neg lt] at ha'; cases ha'
    · have ha' : a ∈ (if i < np then Fa i else []) := ha
      by_cases lt : i < np
      · rw [if_pos lt] at ha'; exact g.isl i a ha'
      · rw [if_neg lt] at ha'; cases ha'
  have fin_ok : ∀ {σ' : L2.St} {H' : Hp} {Z' : Zs} {Fs' : Fp} {v : V} {x : DV} {F : List Addr}, PostS K asg mv (vs.map some ++ List.replicate (n - vs.length) none) H Z Fb σ' s H' Z' Fs' → Held (POne K v x) [] H' Z' Fs' F → (∀ a ∈ F, H a = none ∨ ∃ i ∈ mv, a ∈ Fb i) →
      Post K (POne K v x) [] (List.range np) H Z Fa (vs.map some) (finP np asg s) H' Z' (fun i => if i < np then (if i ∈ asg then [] else Fs' i) else Fa i) F := by
    intro σ' H' Z' Fs' v x F p h nw
    have up : ∀ {a : Addr} {i : Nat}, a ∈ Fb i → i ∈ List.range np ∧ a ∈ Fa i := fun {a i} ha => by
      have ha' : a ∈ (if i < np then Fa i else []) := ha
      by_cases lt : i < np
      · rw [if_pos lt] at ha'; exact ⟨List.mem_range.mpr lt, ha'⟩
      · rw [if_neg lt] at ha'; cases ha'
    have fromM : ∀ {a : Addr} {m : List Nat}, (H a = none ∨ ∃ i ∈ m, a ∈ Fb i) → H a = none ∨ ∃ i ∈ List.range np, a ∈ Fa i := fun h => h.imp id fun ⟨i, _, q⟩ => ⟨i, up q⟩
    have fs : ∀ (i : Nat) (a : Addr), a ∈ (if i < np then (if i ∈ asg then [] else Fs' i) else []) → i < np ∧ i ∉ asg ∧ a ∈ Fs' i := fun i a ha => by
      by_cases lt : i < np
      · rw [if_pos lt] at ha
        by_cases m : i ∈ asg
        · rw [if_pos m] at ha; cases ha
        · rw [if_neg m] at ha; exact ⟨lt, m, ha⟩
      · rw [if_neg lt] at ha; cases ha
    have old : ∀ (i : Nat) (a : Addr), ¬ i < np → a ∈ Fa i → ∃ o, H' a = some o ∧ Chg o := fun i a lt ha => by
      obtain ⟨o, e, c⟩ := g.isl i a ha
      refine ⟨o, p.tr.ev a o e fun j hj hb => ?_, c⟩
      obtain ⟨h1, h2⟩ := up hb
      exact g.dj i j (fun e => lt (e ▸ List.mem_range.mp h1)) a ha h2
    have oldFs : ∀ (i j : Nat) (a : Addr), ¬ i < np → a ∈ Fa i → a ∉ Fs' j := fun i j a lt ha hb => by
      by_cases m : j ∈ mv
      · rcases fromM (p.tr.fb j m a hb) with q | ⟨l, hl, q⟩
        · obtain ⟨o, e, _⟩ := g.isl i a ha; rw [e] at q; cases q
        · exact g.dj i l (fun e => lt (e ▸ List.mem_range.mp hl)) a ha q
      · rw [p.tr.fo j m] at hb
        obtain ⟨h1, h2⟩ := up hb
        exact g.dj i j (fun e => lt (e ▸ List.mem_range.mp h1)) a ha h2
    have oldZ : ∀ (i : Nat) (a : Addr), ¬ i < np → a ∈ Fa i → ¬ Z' a := fun i a lt ha z => by
      rcases p.tr.zb a z with q | q | ⟨l, hl, q⟩
      · exact g.nz i a ha q
      · obtain ⟨o, e, _⟩ := g.isl i a ha; rw [e] at q; cases q
      · obtain ⟨h1, h2⟩ := up q
        exact g.dj i l (fun e => lt (e ▸ List.mem_range.mp h1)) a ha h2
    refine ⟨⟨fun a o e nm => p.tr.ev a o e fun i hi ha => nm i (up ha).1 (up ha).2, p.tr.dom, p.tr.zm, fun a z => (p.tr.zb a z).imp id fun z => fromM z, fun i hi => ?_, fun i hi a ha => ?_⟩, ⟨?_, fun i d k e => ?_, fun i => ?_, fun i j ne a ha hb => ?_, fun i a ha => ?_, fun i a ha => ?_, p.good.zt⟩, ⟨?_, h.nd, fun a ha i hb => ?_, h.nz⟩, fun a ha => fromM (nw a ha)⟩
    · show (if i < np then _ else Fa i) = Fa i
      rw [if_neg (fun z => hi (List.mem_range.mpr z))]
    · have lt := List.mem_range.mp hi
      have ha' : a ∈ (if i < np then (if i ∈ asg then [] else Fs' i) else []) := by
        have : a ∈ (if i < np then (if i ∈ asg then [] else Fs' i) else Fa i) := ha
        rw [if_pos lt] at this ⊢; exact this
      obtain ⟨_, _, q⟩ := fs i a ha'
      by_cases m : i ∈ mv
      · exact fromM (p.tr.fb i m a q)
      · rw [p.tr.fo i m] at q
        exact .inr ⟨i, hi, (up q).2⟩
    · unfold finP; simp [hl]
    · obtain ⟨lt, na, es⟩ := finP_at e
      obtain ⟨w, ew, ow⟩ := p.good.own i d k es
      rw [p.st i na, List.getElem?_append_left (by simpa [hl] using lt)] at ew
      refine ⟨w, ew, ?_⟩
      show Own K Z' H' k w d (if i < np then (if i ∈ asg then [] else Fs' i) else Fa i)
      rw [if_pos lt, if_neg na]
      exact ow
    · show (if i < np then (if i ∈ asg then [] else Fs' i) else Fa i).Nodup
      by_cases lt : i < np
      · rw [if_pos lt]
        by_cases m : i ∈ asg
        · rw [if_pos m]; exact List.nodup_nil
        · rw [if_neg m]; exact p.good.nd i
      · rw [if_neg lt]; exact g.nd i
    · have ha' : a ∈ (if i < np then (if i ∈ asg then [] else Fs' i) else Fa i) := ha
      have hb' : a ∈ (if j < np then (if j ∈ asg then [] else Fs' j) else Fa j) := hb
      by_cases lt : i < np
      · obtain ⟨_, _, q⟩ := fs i a (by rw [if_pos lt] at ha' ⊢; exact ha')
        by_cases lt2 : j < np
        · obtain ⟨_, _, q2⟩ := fs j a (by rw [if_pos lt2] at hb' ⊢; exact hb')
          exact p.good.dj i j ne a q q2
        · rw [if_neg lt2] at hb'
          exact oldFs j i a lt2 hb' q
      · rw [if_neg lt] at ha'
        by_cases lt2 : j < np
        · obtain ⟨_, _, q2⟩ := fs j a (by rw [if_pos lt2] at hb' ⊢; exact hb')
          exact oldFs i j a lt ha' q2
        · rw [if_neg lt2] at hb'
          exact g.dj i j ne a ha' hb'
    · have ha' : a ∈ (if i < np then (if i ∈ asg then [] else Fs' i) else Fa i) := ha
      by_cases lt : i < np
      · obtain ⟨_, _, q⟩ := fs i a (by rw [if_pos lt] at ha' ⊢; exact ha')
        exact p.good.nz i a q
      · rw [if_neg lt] at ha'
        exact oldZ i a lt ha'
    · have ha' : a ∈ (if i < np then (if i ∈ asg then [] else Fs' i) else Fa i) := ha
      by_cases lt : i < np
      · obtain ⟨_, _, q⟩ := fs i a (by rw [if_pos lt] at ha' ⊢; exact ha')
        exact p.good.isl i a q
      · rw [if_neg lt] at ha'
        exact old i a lt ha'
    · refine (stb_one K v x).zm h.pr fun a z => ?_
      rcases z with z | ⟨_, hi, _⟩
      · exact .inl z
      · cases hi
    · have hb' : a ∈ (if i < np then (if i ∈ asg then [] else Fs' i) else Fa i) := hb
      by_cases lt : i < np
      · obtain ⟨_, _, q⟩ := fs i a (by rw [if_pos lt] at hb' ⊢; exact hb')
        exact h.nf a ha i q
      · rw [if_neg lt] at hb'
        rcases fromM (nw a ha) with q | ⟨l, hl, q⟩
        · obtain ⟨o, e, _⟩ := g.isl i a hb'; rw [e] at q; cases q
        · exact g.dj i l (fun e => lt (e ▸ List.mem_range.mp hl)) a hb' q
  refine ⟨Z, _, Fb, fl, s, start_good n g0, eb, ?_⟩
  cases fl with
  | next =>
    cases eg
    exact fun σ' H' Z' Fs' p => q _ H' Z' _ [] (fin_ok (x := (.none, 0)) p ⟨non_own, List.nodup_nil, fun a ha => (by cases ha), fun a ha => (by cases ha)⟩ fun a ha => (by cases ha))
  | ret x =>
    cases eg
    exact fun v σ' H' Z' Fs' F p h nw => q v H' Z' _ F (fin_ok p h nw)
  | brk => cases eg
  | cont => cases eg
end Sq
end

section
namespace Sq
open PySem PySem.Spec L2
/-! ### a list within a slot's own thing is changed -/
def dAt : List Nat → PyData → Option (List PyData)
  | [], .list ds => some ds
  | j :: js, .list ds => match ds[j]? with
    | some d => dAt js d
    | none => none
  | _, _ => none
def modAt : List Nat → List PyData → PyData → PyData
  | [], ds', _ => .list ds'
  | j :: js, ds', .list ds => match ds[j]? with
    | some d => .list (ds.set j (modAt js ds' d))
    | none => .list ds
  | _, _, d => d
/-- from v by the places js one comes to u, over lists at A -/
def Reach (H : Hp) (A : List Addr) : V → List Nat → V → Prop
  | v, [], u => v = u ∧ ∃ p vs, u = .ref p ∧ p ∈ A ∧ H p = some (.lst vs)
  | v, j :: js, u => ∃ p vs w, v = .ref p ∧ p ∈ A ∧ H p = some (.lst vs) ∧ vs[j]? = some w ∧ Reach H A w js u
theorem Reach.keep {H H' : Hp} {A : List Addr} (k : ∀ a ∈ A, ∀ o, H a = some o → H' a = some o) : ∀ {js : List Nat} {v u : V}, Reach H A v js u → Reach H' A v js u
  | [], _, _, ⟨e, p, vs, e2, m, h⟩ => ⟨e, p, vs, e2, m, k p m _ h⟩
  | j :: js, _, _, ⟨p, vs, w, e, m, h, ew, r⟩ => ⟨p, vs, w, e, m, k p m _ h, ew, r.keep k⟩
section
variable {K : PySem.W.Frag} {Z Z' Z1 Z2 : Zs} {H H' H1 H2 : Hp} {Fs Fs1 Fs2 : Fp} {σ : L2.St} {s s1 s2 : SD} {F F2 : List Addr} {fv mv : List Nat} {x : DV} {v u : V} {k : Nat}
theorem Reach.lastL : ∀ {js : List Nat} {v u : V} {A : List Addr}, Reach H A v js u → ∃ p vs, u = .ref p ∧ p ∈ A ∧ H p = some (.lst vs)
  | [], _, _, _, ⟨_, h⟩ => h
  | _ :: _, _, _, _, ⟨_, _, _, _, _, _, _, r⟩ => r.lastL
/-- one item apart from the others -/
theorem OwnAll.split : ∀ (ds : List PyData) {vs : List V} {F : List Addr} (j : Nat) {d : PyData}, OwnAll K Z H k vs ds F → ds[j]? = some d → ∃ A Fj B w, F = A ++ (Fj ++ B) ∧ vs[j]? = some w ∧ Own K Z H k w d Fj ∧
    ∀ (H' : Hp) (d' : PyData) (Fj' : List Addr), Kp (fun a => a ∈ A ++ B ∨ Z a) H H' → Own K Z H' k w d' Fj' → OwnAll K Z H' k vs (ds.set j d') (A ++ (Fj' ++ B))
  | [], _, _, j, _, _, e => by simp at e
  | d0 :: ds, _, _, 0, d, h, e => by
    unfold OwnAll at h
    obtain ⟨w, vs', F1, F2, rfl, h1, h2, rfl⟩ := h
    simp only [List.getElem?_cons_zero, Option.some.injEq] at e
    subst e
    refine ⟨[], F1, F2, w, rfl, rfl, h1, fun H' d' Fj' kp o => ?_⟩
    rw [List.set_cons_zero]
    unfold OwnAll
    exact ⟨w, vs', Fj', F2, rfl, o, OwnAll.keep ds h2 fun a ob e q => kp a ob e (q.imp (fun q => q.imp (fun q => List.mem_append_right _ q) id) id), rfl⟩
  | d0 :: ds, _, _, j + 1, d, h, e => by
    unfold OwnAll at h
    obtain ⟨w, vs', F1, F2, rfl, h1, h2, rfl⟩ := h
    simp only [List.getElem?_cons_succ] at e
    obtain ⟨A, Fj, B, u, rfl, eu, ou, q⟩ := OwnAll.split ds j h2 e
    refine ⟨F1 ++ A, Fj, B, u, by rw [List.append_assoc], by simpa using eu, ou, fun H' d' Fj' kp o => ?_⟩
    rw [List.set_cons_succ]
    unfold OwnAll
    refine ⟨w, vs', F1, A ++ (Fj' ++ B), rfl, Own.keep _ h1 fun a ob e z => kp a ob e (z.imp (fun z => z.imp (fun z => ?_) id) id), q H' d' Fj' (fun a ob e z => kp a ob e (z.imp (fun z => z.imp (fun z => ?_) id) id)) o, by rw [List.append_assoc]⟩
    · exact List.mem_append_left _ (List.mem_append_left _ z)
    · rcases List.mem_append.mp z with z | z
      · exact List.mem_append_left _ (List.mem_append_right _ z)
      · exact List.mem_append_right _ z
theorem Reach.inOwn : ∀ (js : List Nat) {d : PyData} {k : Nat} {v u : V} {F T : List Addr} {ds : List PyData}, Own K Z H k v d F → js.length < k → dAt js d = some ds → Reach H T v js u → Reach H F v js u
  | [], d, 0, _, _, _, _, _, _, l, _, _ => by simp at l
  | [], d, k + 1, v, u, F, T, ds, o, l, e, r => by
    obtain ⟨e1, p, vs, e2, m, hp⟩ := r
    cases d with
    | list d2 =>
      unfold Own at o
      obtain ⟨p', vs', F', e3, hp', _, rfl⟩ := o
      refine ⟨e1, p, vs, e2, ?_, hp⟩
      rw [e1, e2] at e3
      cases e3
      exact List.mem_cons_self ..
    | _ => cases e
  | j :: js, d, 0, _, _, _, _, _, _, l, _, _ => by simp at l
  | j :: js, d, k + 1, v, u, F, T, ds, o, l, e, r => by
    obtain ⟨p, vs, y, e2, m, hp, ex, r⟩ := r
    cases d with
    | list d2 =>
      unfold Own at o
      obtain ⟨p', vs', F', e3, hp', hs', rfl⟩ := o
      rw [e2] at e3
      cases e3
      rw [hp] at hp'
      cases hp'
      unfold dAt at e
      cases ei : d2[j]? with
      | none => rw [ei] at e; cases e
      | some d3 =>
        rw [ei] at e
        obtain ⟨z, G2, ez, oz, sg⟩ := OwnAll.get d2 j hs' ei
        rw [ex] at ez
        cases ez
        have q := Reach.inOwn js oz (by simpa using l) e r
        have up : ∀ (js : List Nat) {v u : V} {A B : List Addr}, (∀ a ∈ A, a ∈ B) → Reach H A v js u → Reach H B v js u := by
          intro js
          induction js with
          | nil => intro v u A B sb ⟨e, p, vs, e2, m, h⟩; exact ⟨e, p, vs, e2, sb p m, h⟩
          | cons j js ih => intro v u A B sb ⟨p, vs, w, e, m, h, ew, r⟩; exact ⟨p, vs, w, e, sb p m, h, ew, ih sb r⟩
        exact ⟨p, vs, y, e2, List.mem_cons_self .., hp, ex, up js (fun a ha => List.mem_cons_of_mem _ (sg.subset ha)) q⟩
    | _ => cases e
theorem Own.mod : ∀ (js : List Nat) (d : PyData) {k : Nat} {v : V} {F : List Addr} {ds : List PyData}, Own K Z H k v d F → F.Nodup → (∀ a ∈ F, ¬ Z a) → js.length < k → Reach H F v js u → dAt js d = some ds →
    ∃ p vs A G B, u = .ref p ∧ H p = some (.lst vs) ∧ F = A ++ (p :: G ++ B) ∧ OwnAll K Z H (k - js.length - 1) vs ds G ∧
      ∀ vs' ds' G', OwnAll K Z (upd H p (.lst vs')) (k - js.length - 1) vs' ds' G' → Own K Z (upd H p (.lst vs')) k v (modAt js ds' d) (A ++ (p :: G' ++ B))
  | [], d, 0, v, F, ds, _, _, _, l, _, _ => by simp at l
  | [], d, k + 1, v, F, ds, h, nd, nz, l, r, e => by
    cases d with
    | list ds0 =>
      have e' : ds0 = ds := Option.some.inj e
      subst e'
      unfold Own at h
      obtain ⟨p, vs, F', rfl, hp, hs, rfl⟩ := h
      obtain ⟨rfl, _⟩ := r
      refine ⟨p, vs, [], F', [], rfl, hp, by simp, by simpa using hs, fun vs' ds' G' o => ?_⟩
      show Own K Z _ (k + 1) _ (.list ds') _
      unfold Own
      exact ⟨p, vs', G', rfl, upd_same, by simpa using o, by simp⟩
    | _ => cases e
  | j :: js, d, 0, v, F, ds, _, _, _, l, _, _ => by simp at l
  | j :: js, d, k + 1, v, F, ds, h, nd, nz, l, r, e => by
    cases d with
    | list ds0 =>
      unfold Own at h
      obtain ⟨q, ws, F', rfl, hq, hs, rfl⟩ := h
      obtain ⟨q', ws', w, eq', mq, hq', ew, r⟩ := r
      cases eq'
      rw [hq] at hq'
      cases hq'
      unfold dAt at e
      cases ej : ds0[j]? with
      | none => rw [ej] at e; cases e
      | some dj =>
        rw [ej] at e
        obtain ⟨A, Fj, B, w', rfl, ew', ow, put⟩ := OwnAll.split ds0 j hs ej
        rw [ew] at ew'
        cases ew'
        have nd' := (List.nodup_cons.mp nd)
        obtain ⟨nA, nFB, dAB⟩ := List.nodup_append.mp nd'.2
        obtain ⟨nF, nB, dFB⟩ := List.nodup_append.mp nFB
        have rin : Reach H Fj w js u := Reach.inOwn js ow (by simpa using l) e r
        obtain ⟨p, vs, A2, G, B2, eu, hp, rfl, og, put2⟩ := Own.mod js dj ow nF (fun a ha => nz a (List.mem_cons_of_mem _ (List.mem_append_right _ (List.mem_append_left _ ha)))) (by simpa using l) rin e
        have pin : p ∈ A2 ++ (p :: G ++ B2) := List.mem_append_right _ (List.mem_append_left _ (List.mem_cons_self ..))
        have ek : k + 1 - (j :: js).length - 1 = k - js.length - 1 := by simp
        refine ⟨p, vs, q :: (A ++ A2), G, B2 ++ B, eu, hp, by simp [List.append_assoc], by rw [ek]; exact og, fun vs' ds' G' o => ?_⟩
        rw [ek] at o
        have o2 := put2 vs' ds' G' o
        have nq : q ≠ p := fun e => nd'.1 (by rw [e]; exact List.mem_append_right _ (List.mem_append_left _ pin))
        have o3 := put (upd H p (.lst vs')) _ _ (fun a ob e z => by
          rw [upd_ne]
          · exact e
          · rintro rfl
            rcases z with (z | z) | z
            · rcases List.mem_append.mp z with z | z
              · exact dAB a z a (List.mem_append_left _ pin) rfl
              · exact dFB a pin a z rfl
            · exact nz a (List.mem_cons_of_mem _ (List.mem_append_right _ (List.mem_append_left _ pin))) z
            · rw [hp] at e; cases e; exact z trivial) o2
        show Own K Z _ (k + 1) _ (modAt (j :: js) ds' (.list ds0)) _
        unfold modAt
        rw [ej]
        unfold Own
        exact ⟨q, ws, _, rfl, by rw [upd_ne nq]; exact hq, o3, by simp [List.append_assoc]⟩
    | _ => cases e

/-- the things to be put in, at a depth m -/
structure Lows (P : Pr) (Pm : Nat → Pr) (m0 : Nat) : Prop where
  low : ∀ {Z : Zs} {H : Hp} {F : List Addr} {m : Nat}, P Z H F → F.Nodup → m ≤ m0 → ∃ F' : List Addr, F'.Sublist F ∧ ∀ Z' : Zs, (∀ a, Z a → Z' a) → (∀ a ∈ F, a ∉ F' → Z' a) → Pm m Z' H F'
  stb : ∀ m, Stb (Pm m)
theorem mutate {P : Pr} {Pm : Nat → Pr} {m0 : Nat} {js : List Nat} {d : PyData} {ds : List PyData} {v0 : V} {i : Nat} (L : Lows P Pm m0) (SP : Stb P) (p : Post K P [] mv H Z Fs σ s2 H2 Z2 Fs2 F) (hs : s2[i]? = some (some (d, k))) (hd : dAt js d = some ds) (hl : js.length < k) (hσ : σ[i]? = some (some v0)) (hr : Reach H2 (Fs2 i) v0 js u) :
    ∃ pa vs, u = .ref pa ∧ H2 pa = some (.lst vs) ∧ vs.length = ds.length ∧ (∃ k0 Z0 G0, OwnAll K Z0 H2 k0 vs ds G0) ∧ ∀ vs' ds', (∀ Zq Hq m G Fx, OwnAll K Zq Hq m vs ds G → Pm m Zq Hq Fx → (G ++ Fx).Nodup → ∃ G', OwnAll K Zq Hq m vs' ds' G' ∧ (∀ a ∈ G', a ∈ G ∨ a ∈ Fx) ∧ G'.Nodup) →
      ∃ Z3 Fs3, PostS K [] (mv ++ [i]) σ H Z Fs σ (s2.set i (some (modAt js ds' d, min k (js.length + 1 + m0)))) (upd H2 pa (.lst vs')) Z3 Fs3 := by
  obtain ⟨v0', ev, ow⟩ := p.good.own i d k hs
  rw [hσ] at ev
  cases ev
  have ow0 := ow
  obtain ⟨E, sE, qE⟩ := Own.lower (j := min k (js.length + 1 + m0)) d ow (p.good.nd i) (Nat.min_le_left _ _)
  obtain ⟨Ex, sX, qX⟩ := L.low (m := min k (js.length + 1 + m0) - js.length - 1) p.held.pr p.held.nd (by omega)
  let Z3 : Zs := fun a => Z2 a ∨ (a ∈ Fs2 i ∧ a ∉ E) ∨ (a ∈ F ∧ a ∉ Ex)
  have ilF : ∀ a ∈ F, ∃ o, H2 a = some o ∧ Chg o := fun a ha => SP.isl p.held.pr a ha
  have hz : ∀ {a : Addr}, Zf Z2 Fs2 [] a → Z2 a := fun {a} z => by
    rcases z with z | ⟨_, h, _⟩
    · exact z
    · cases h
  have oE : Own K Z3 H2 (min k (js.length + 1 + m0)) v0 d E := qE Z3 (fun a z => .inl z) fun a ha hn => .inr (.inl ⟨ha, hn⟩)
  have oX : Pm (min k (js.length + 1 + m0) - js.length - 1) Z3 H2 Ex := qX Z3 (fun a z => .inl (hz z)) fun a ha hn => .inr (.inr ⟨ha, hn⟩)
  have nzE : ∀ a ∈ E, ¬ Z3 a := fun a ha z => by
    rcases z with z | ⟨_, z⟩ | ⟨z, _⟩
    · exact p.good.nz i a (sE.subset ha) z
    · exact z ha
    · exact p.held.nf a z i (sE.subset ha)
  have hl' : js.length < min k (js.length + 1 + m0) := by omega
  obtain ⟨pa, vs, A, G, B, eu, hp, eE, og, put⟩ := Own.mod js d oE ((p.good.nd i).sublist sE) nzE hl' (Reach.inOwn js oE hl' hd hr) hd
  have pE : pa ∈ E := by rw [eE]; exact List.mem_append_right _ (List.mem_append_left _ (List.mem_cons_self ..))
  have pF : pa ∈ Fs2 i := sE.subset pE
  have ndE : (A ++ (pa :: G ++ B)).Nodup := by rw [← eE]; exact (p.good.nd i).sublist sE
  have inE : ∀ a, a ∈ A ++ (pa :: G ++ B) → a ∈ Fs2 i := fun a ha => sE.subset (by rw [eE]; exact ha)
  obtain ⟨nA, nGB, dA⟩ := List.nodup_append.mp ndE
  obtain ⟨npG, nB, dG⟩ := List.nodup_append.mp nGB
  obtain ⟨npa, nG⟩ := List.nodup_cons.mp npG
  have back : ∀ a j, a ∈ Fs2 j → H a = none ∨ ∃ l ∈ mv ++ [j], a ∈ Fs l := fun a j ha => by
    by_cases m : j ∈ mv
    · exact (p.tr.fb j m a ha).imp id fun ⟨l, hl, q⟩ => ⟨l, List.mem_append_left _ hl, q⟩
    · rw [p.tr.fo j m] at ha
      exact .inr ⟨j, List.mem_append_right _ (List.mem_singleton.mpr rfl), ha⟩
  refine ⟨pa, vs, eu, hp, OwnAll.len _ og, ⟨_, _, _, og⟩, fun vs' ds' build => ?_⟩
  have kq : ∀ (S : Addr → Prop), (¬ S pa) → Kp S H2 (upd H2 pa (.lst vs')) := fun S n a o e q => by
    rw [upd_ne]
    · exact e
    · rintro rfl
      rcases q with q | q
      · exact n q
      · rw [hp] at e; cases e; exact q trivial
  have pX : pa ∉ Ex := fun h => p.held.nf pa (sX.subset h) i pF
  have oG : OwnAll K Z3 (upd H2 pa (.lst vs')) (min k (js.length + 1 + m0) - js.length - 1) vs ds G := OwnAll.keep _ og (kq _ fun z => z.elim npa (nzE pa pE))
  have oX2 : Pm (min k (js.length + 1 + m0) - js.length - 1) Z3 (upd H2 pa (.lst vs')) Ex := (L.stb _).keep oX (kq _ fun z => z.elim pX (nzE pa pE))
  have dGX : ∀ a ∈ G, a ∉ Ex := fun a ha hx => p.held.nf a (sX.subset hx) i (inE a (List.mem_append_right _ (List.mem_append_left _ (List.mem_cons_of_mem _ ha))))
  obtain ⟨G', oG', subG, nG'⟩ := build Z3 (upd H2 pa (.lst vs')) (min k (js.length + 1 + m0) - js.length - 1) G Ex oG oX2 (List.nodup_append.mpr ⟨nG, p.held.nd.sublist sX, fun a ha b hb e => dGX a ha (e ▸ hb)⟩)
  have oN := put vs' ds' G' oG'
  let N : List Addr := A ++ (pa :: G' ++ B)
  have inN : ∀ a ∈ N, a ∈ Fs2 i ∨ a ∈ F := fun a ha => by
    rcases List.mem_append.mp ha with h | h
    · exact .inl (inE a (List.mem_append_left _ h))
    · rcases List.mem_append.mp h with h | h
      · rcases List.mem_cons.mp h with rfl | h
        · exact .inl pF
        · rcases subG a h with h | h
          · exact .inl (inE a (List.mem_append_right _ (List.mem_append_left _ (List.mem_cons_of_mem _ h))))
          · exact .inr (sX.subset h)
      · exact .inl (inE a (List.mem_append_right _ (List.mem_append_right _ h)))
  have notG' : ∀ a ∈ G', (a ∈ A → False) ∧ (a ∈ B → False) ∧ a ≠ pa := fun a h => by
    rcases subG a h with h | h
    · exact ⟨fun z => dA a z a (List.mem_append_left _ (List.mem_cons_of_mem _ h)) rfl, fun z => dG a (List.mem_cons_of_mem _ h) a z rfl, fun z => npa (z ▸ h)⟩
    · have nf := p.held.nf a (sX.subset h) i
      exact ⟨fun z => nf (inE a (List.mem_append_left _ z)), fun z => nf (inE a (List.mem_append_right _ (List.mem_append_right _ z))), fun z => nf (z ▸ pF)⟩
  have ndN : N.Nodup := by
    refine List.nodup_append.mpr ⟨nA, List.nodup_append.mpr ⟨List.nodup_cons.mpr ⟨fun h => (notG' pa h).2.2 rfl, nG'⟩, nB, fun a ha b hb e => ?_⟩, fun a ha b hb e => ?_⟩
    · subst e
      rcases List.mem_cons.mp ha with rfl | ha
      · exact dG a (List.mem_cons_self ..) a hb rfl
      · exact (notG' a ha).2.1 hb
    · subst e
      rcases List.mem_append.mp hb with hb | hb
      · rcases List.mem_cons.mp hb with rfl | hb
        · exact dA a ha a (List.mem_append_left _ (List.mem_cons_self ..)) rfl
        · exact (notG' a hb).1 ha
      · exact dA a ha a (List.mem_append_right _ hb) rfl
  have nzN : ∀ a ∈ N, ¬ Z3 a := fun a ha => by
    have hE : ∀ b, b ∈ A ++ (pa :: G ++ B) → ¬ Z3 b := fun b hb => nzE b (by rw [eE]; exact hb)
    rcases List.mem_append.mp ha with h | h
    · exact hE a (List.mem_append_left _ h)
    · rcases List.mem_append.mp h with h | h
      · rcases List.mem_cons.mp h with rfl | h
        · exact nzE _ pE
        · rcases subG a h with h | h
          · exact hE a (List.mem_append_right _ (List.mem_append_left _ (List.mem_cons_of_mem _ h)))
          · intro z
            rcases z with z | ⟨z, _⟩ | ⟨_, z⟩
            · exact p.held.nz a (sX.subset h) z
            · exact p.held.nf a (sX.subset h) i z
            · exact z h
      · exact hE a (List.mem_append_right _ (List.mem_append_right _ h))
  refine ⟨Z3, fun j => if j = i then N else Fs2 j, ⟨fun a o e nm => ?_, fun a e => ?_, fun a z => .inl (p.tr.zm a z), fun a z => ?_, fun j hj => ?_, fun j hj a ha => ?_⟩, ⟨by rw [List.length_set]; exact p.good.len, fun j d' k' e => ?_, fun j => ?_, fun j l ne a ha hb => ?_, fun j a ha z => ?_, fun j a ha => ?_, fun a z => ?_⟩, fun _ _ => rfl, rfl⟩
  · have e2 := p.tr.ev a o e fun j hj => nm j (List.mem_append_left _ hj)
    rw [upd_ne]
    · exact e2
    · rintro rfl
      rcases back a i pF with q | ⟨l, hl, q⟩
      · rw [e] at q; cases q
      · exact nm l hl q
  · by_cases q : a = pa
    · subst q; rw [upd_same] at e; cases e
    · rw [upd_ne q] at e; exact p.tr.dom a e
  · rcases z with z | ⟨z, _⟩ | ⟨z, _⟩
    · exact (p.tr.zb a z).imp id fun z => z.imp id fun ⟨l, hl, q⟩ => ⟨l, List.mem_append_left _ hl, q⟩
    · exact .inr (back a i z)
    · exact .inr ((p.new a z).imp id fun ⟨l, hl, q⟩ => ⟨l, List.mem_append_left _ hl, q⟩)
  · rw [if_neg fun e => hj (List.mem_append_right _ (by rw [e]; exact List.mem_singleton.mpr rfl))]
    exact p.tr.fo j fun z => hj (List.mem_append_left _ z)
  · by_cases q : j = i
    · rw [if_pos q] at ha
      rcases inN a ha with h | h
      · exact back a i h
      · exact (p.new a h).imp id fun ⟨l, hl, q⟩ => ⟨l, List.mem_append_left _ hl, q⟩
    · rw [if_neg q] at ha
      rcases back a j ha with h | ⟨l, hl, h⟩
      · exact .inl h
      · rcases List.mem_append.mp hl with hl | hl
        · exact .inr ⟨l, List.mem_append_left _ hl, h⟩
        · have := List.mem_singleton.mp hl
          subst this
          exact .inr ⟨l, hj, h⟩
  · by_cases q : j = i
    · subst q
      have lt : j < s2.length := by
        have := List.getElem?_eq_some_iff.mp hs
        exact this.1
      rw [List.getElem?_set_self lt] at e
      have e' := Option.some.inj (Option.some.inj e)
      cases e'
      rw [if_pos rfl]
      exact ⟨v0, hσ, oN⟩
    · rw [List.getElem?_set_ne (Ne.symm q)] at e
      rw [if_neg q]
      obtain ⟨w, ew, o⟩ := p.good.own j d' k' e
      exact ⟨w, ew, Own.zmono _ (Own.keep _ o (kq _ fun z => z.elim (fun z => p.good.dj i j (Ne.symm q) pa pF z) (p.good.nz i pa pF))) fun a z => .inl z⟩
  · by_cases q : j = i
    · rw [if_pos q]; exact ndN
    · rw [if_neg q]; exact p.good.nd j
  · by_cases q : j = i
    · rw [if_pos q] at ha
      rw [if_neg fun e => ne (q.trans e.symm)] at hb
      rcases inN a ha with h | h
      · exact p.good.dj i l (fun e => ne (q.trans e)) a h hb
      · exact p.held.nf a h l hb
    · rw [if_neg q] at ha
      by_cases q2 : l = i
      · rw [if_pos q2] at hb
        rcases inN a hb with h | h
        · exact p.good.dj i j (Ne.symm q) a h ha
        · exact p.held.nf a h j ha
      · rw [if_neg q2] at hb
        exact p.good.dj j l ne a ha hb
  · by_cases q : j = i
    · rw [if_pos q] at ha; exact nzN a ha z
    · rw [if_neg q] at ha
      rcases z with z | ⟨z, _⟩ | ⟨z, _⟩
      · exact p.good.nz j a ha z
      · exact p.good.dj i j (Ne.symm q) a z ha
      · exact p.held.nf a z j ha
  · by_cases q : j = i
    · rw [if_pos q] at ha; exact Own.isl _ oN a ha
    · rw [if_neg q] at ha
      obtain ⟨o, e, c⟩ := p.good.isl j a ha
      exact ⟨o, kq (fun a => a ∈ Fs2 j) (fun z => p.good.dj i j (Ne.symm q) pa pF z) a o e (.inl ha), c⟩
  · have tr : ∀ a o, H2 a = some o → ∃ o', upd H2 pa (.lst vs') a = some o' := fun a o e => by
      by_cases q : a = pa
      · subst q; exact ⟨_, upd_same⟩
      · exact ⟨o, by rw [upd_ne q]; exact e⟩
    rcases z with z | ⟨z, _⟩ | ⟨z, _⟩
    · obtain ⟨o, e⟩ := p.good.zt a z; exact tr a o e
    · obtain ⟨o, e, _⟩ := p.good.isl i a z; exact tr a o e
    · obtain ⟨o, e, _⟩ := ilF a z; exact tr a o e
theorem lows_one (K : PySem.W.Frag) (v : V) (x : DV) : Lows (POne K v x) (fun m Z H F => Own K Z H m v x.1 F) (dep x) where
  low := fun {Z H F m} h nd l => by
    refine Own.to h nd ?_
    unfold dep at l
    split at l
    · next f => exact .inl (full_iff.mp f)
    · exact .inr l
  stb := fun m => stb_one K v (x.1, m)
theorem lows_none (m0 : Nat) : Lows PNone (fun _ => PNone) m0 := ⟨fun {Z H F m} h _ _ => ⟨F, List.Sublist.refl _, fun _ _ _ => h⟩, fun _ => stb_none⟩
end
end Sq
end

section
namespace Sq
open PySem PySem.Spec L2
abbrev Pth := SD → Res (List Nat × SD)
def pSlot (i : Nat) : Pth := fun s => do
  let x ← slot s i
  match dAt [] x.1 with
  | some _ => if 0 < x.2 then .ok ([], s) else .bad
  | none => .bad
def pIdx (i : Nat) (p : Pth) (e : Ex) : Pth := fun s => do
  let (js, s) ← p s
  let (y, s) ← e s
  let x ← slot s i
  match dAt js x.1, y.1 with
  | some ds, .int n => match ixN ds.length n with
    | some j => match dAt (js ++ [j]) x.1 with
      | some _ => if js.length + 1 < x.2 then .ok (js ++ [j], s) else .bad
      | none => .bad
    | none => .bad
  | _, _ => .bad
/-- the list at the path becomes what op makes of it -/
def chg (i : Nat) (js : List Nat) (m0 : Nat) (op : List PyData → Res (List PyData)) (s : SD) : Res SD := do
  let x ← slot s i
  match dAt js x.1 with
  | some ds => do
    let ds' ← op ds
    if js.length < x.2 then .ok (s.set i (some (modAt js ds' x.1, min x.2 (js.length + 1 + m0)))) else .bad
  | none => .bad
def opApp (x : PyData) (ds : List PyData) : Res (List PyData) := if small (ds.length + 1) then .ok (ds ++ [x]) else .bad
def opExt (xs : List PyData) (ds : List PyData) : Res (List PyData) := if small (ds.length + xs.length) then .ok (ds ++ xs) else .bad
def opSet (n : Int) (x : PyData) (ds : List PyData) : Res (List PyData) := match ixN ds.length n with
  | some j => .ok (ds.set j x)
  | none => .bad
def sApp (i : Nat) (p : Pth) (fv : List Nat) (a : Ex) : Sx := fun s => do
  let (js, s) ← p s
  let (x, s) ← a s
  let s ← chg i js (dep x) (opApp x.1) (settle fv x s)
  .ok (.next, s)
def sExt (i : Nat) (p : Pth) (fv : List Nat) (a : Ex) : Sx := fun s => do
  let (js, s) ← p s
  let (x, s) ← a s
  match x.1 with
  | .list xs => do
    let s ← chg i js (depI x) (opExt xs) (settle fv x s)
    .ok (.next, s)
  | _ => .bad
def sSet (i : Nat) (fv : List Nat) (a : Ex) (p : Pth) (ix : Ex) : Sx := fun s => do
  let (x, s) ← a s
  let (js, s) ← p s
  let (y, s) ← ix s
  match y.1 with
  | .int n => do
    let s ← chg i js (dep x) (opSet n x.1) (settle fv x s)
    .ok (.next, s)
  | _ => .bad
def sRev (i : Nat) (p : Pth) : Sx := fun s => do
  let (js, s) ← p s
  let x ← slot s i
  let s ← chg i js x.2 (fun ds => .ok ds.reverse) s
  .ok (.next, s)
def sClr (i : Nat) (p : Pth) : Sx := fun s => do
  let (js, s) ← p s
  let x ← slot s i
  let s ← chg i js x.2 (fun ds => .ok []) s
  .ok (.next, s)

def tP (K : PySem.W.Frag) (i : Nat) (mv : List Nat) (f : Pth) : TE := fun σ H Q => ∃ Z s Fs js s', Good K Z H σ s Fs ∧ f s = .ok (js, s') ∧ ∀ v H' Z' Fs', Post K PNone [] mv H Z Fs σ s' H' Z' Fs' [] → (∃ v0, σ[i]? = some (some v0) ∧ Reach H' (Fs' i) v0 js v) → Q v H'

section
variable {K : PySem.W.Frag} {Z Z' Z1 Z2 : Zs} {H H' H1 H2 : Hp} {Fs Fs1 Fs2 : Fp} {σ : L2.St} {s s1 s2 : SD} {F F2 : List Addr} {fv mv : List Nat} {x : DV} {v u : V} {k i : Nat}
/-- by places from an own list to an own list -/
theorem Own.reach : ∀ (js : List Nat) {d : PyData} {k : Nat} {v : V} {F : List Addr} {ds : List PyData}, Own K Z H k v d F → js.length < k → dAt js d = some ds → ∃ u, Reach H F v js u
  | [], d, 0, _, _, _, _, l, _ => by simp at l
  | [], d, k + 1, v, F, ds, o, l, e => by
    cases d with
    | list d2 =>
      unfold Own at o
      obtain ⟨p, vs, F', rfl, hp, _, rfl⟩ := o
      exact ⟨.ref p, rfl, p, vs, rfl, List.mem_cons_self .., hp⟩
    | _ => cases e
  | j :: js, d, 0, _, _, _, _, l, _ => by simp at l
  | j :: js, d, k + 1, v, F, ds, o, l, e => by
    cases d with
    | list d2 =>
      unfold Own at o
      obtain ⟨p, vs, F', rfl, hp, hs', rfl⟩ := o
      unfold dAt at e
      cases ei : d2[j]? with
      | none => rw [ei] at e; cases e
      | some d3 =>
        rw [ei] at e
        obtain ⟨z, G2, ez, oz, sg⟩ := OwnAll.get d2 j hs' ei
        obtain ⟨u, r⟩ := Own.reach js oz (by simpa using l) e
        refine ⟨u, p, vs, z, rfl, List.mem_cons_self .., hp, ez, ?_⟩
        have up : ∀ (js : List Nat) {v u : V} {A B : List Addr}, (∀ a ∈ A, a ∈ B) → Reach H A v js u → Reach H B v js u := by
          intro js
          induction js with
          | nil => intro v u A B sb ⟨e, p, vs, e2, m, h⟩; exact ⟨e, p, vs, e2, sb p m, h⟩
          | cons j js ih => intro v u A B sb ⟨p, vs, w, e, m, h, ew, r⟩; exact ⟨p, vs, w, e, sb p m, h, ew, ih sb r⟩
        exact up js (fun a ha => List.mem_cons_of_mem _ (sg.subset ha)) r
    | _ => cases e
theorem Reach.inj : ∀ {js : List Nat} {v u u' : V} {A B : List Addr}, Reach H A v js u → Reach H B v js u' → u = u'
  | [], _, _, _, _, _, ⟨e, _⟩, ⟨e', _⟩ => e.symm.trans e'
  | j :: js, _, _, _, _, _, ⟨p, vs, w, e, m, h, ew, r⟩, ⟨p', vs', w', e', m', h', ew', r'⟩ => by
    rw [e] at e'
    cases e'
    rw [h] at h'
    cases h'
    rw [ew] at ew'
    cases ew'
    exact r.inj r'
theorem Reach.snoc : ∀ {js : List Nat} {v u u' : V} {A : List Addr} {j : Nat}, Reach H A v (js ++ [j]) u' → Reach H A v js u → ∃ p vs, u = .ref p ∧ H p = some (.lst vs) ∧ vs[j]? = some u'
  | [], _, _, _, _, _, ⟨p, vs, w, e, m, h, ew, e2, _⟩, ⟨e1, _⟩ => by
    subst e1 e2
    exact ⟨p, vs, e, h, ew⟩
  | i :: js, _, _, _, _, _, ⟨p, vs, w, e, m, h, ew, r⟩, ⟨p', vs', w', e', m', h', ew', r'⟩ => by
    rw [e] at e'
    cases e'
    rw [h] at h'
    cases h'
    rw [ew] at ew'
    cases ew'
    exact r.snoc r'
theorem Reach.on {js : List Nat} {mvb : List Nat} {v0 : V} (g : Good K Z H σ s Fs) (t : Tr mvb H Z Fs H' Z' Fs') (n : i ∉ mvb) (r : Reach H (Fs i) v0 js u) : Reach H' (Fs' i) v0 js u := by
  rw [t.fo i n]
  exact r.keep fun a ha o e => t.ev a o e fun j hj hb => g.dj i j (fun z => n (z ▸ hj)) a ha hb
end
section
variable {X : Cx} {e a b o : Expr} {pos apos cpos : Pos} {fv mv fvb mvb mva : List Nat} {f fb : Ex} {fp : Pth} {i : Nat}
theorem rp_slot {x : Str} (hN : X.N[i]? = some x) (hv : Vis X.env.scope x) (hd : (x == ("__debug__" : Str)) = false := by decide) (hcd : (x == ("__classdict__" : Str)) = false := by decide) : PE X (.Name x pos) (tP X.K i [] (pSlot i)) := by
  refine PE.of (pe_var hN hv hd hcd) fun σ H Q h => ?_
  obtain ⟨Z, s, Fs, js, s', gd, e, q⟩ := h
  unfold pSlot at e
  obtain ⟨y, ey, e⟩ := Res.bind_eq_ok.mp e
  obtain ⟨_, v, ev, ow⟩ := gd.slotAt ey
  cases ed : dAt [] y.1 with
  | none => rw [ed] at e; cases e
  | some ds =>
    rw [ed] at e
    simp only at e
    split at e
    · next l =>
      cases e
      obtain ⟨u, r⟩ := Own.reach [] ow l ed
      have : v = u := r.1
      subst this
      exact ⟨v, ev, q v H Z Fs (Post.start gd) ⟨v, ev, r⟩⟩
    · cases e
theorem rp_idx (ha : PE X a (tP X.K i mva fp)) (hb : PE X b (tE X.K fvb mvb fb)) (hs : PlainIx b) (d : djn [i] mvb = true := by rfl) : PE X (.Subscript a b pos) (tP X.K i (mva ++ mvb) (pIdx i fp fb)) := by
  refine PE.of (pe_ix ix_list ha hb hs) fun σ H Q h => ?_
  obtain ⟨Z, s, Fs, js', s', gd, e, q⟩ := h
  unfold pIdx at e
  obtain ⟨⟨js, s1⟩, ea, e⟩ := Res.bind_eq_ok.mp e
  obtain ⟨⟨y, s2⟩, eb, e⟩ := Res.bind_eq_ok.mp e
  obtain ⟨x, ex, e⟩ := Res.bind_eq_ok.mp e
  have ni : i ∉ mvb := djn_ok d i (List.mem_singleton.mpr rfl)
  refine ⟨Z, s, Fs, js, s1, gd, ea, fun v H1 Z1 Fs1 p1 ⟨v0, ev0, r1⟩ => ⟨Z1, s1, Fs1, y, s2, p1.good, eb, fun w H2 Z2 Fs2 F2 p2 => ?_⟩⟩
  have r2 := r1.on p1.good p2.tr ni
  obtain ⟨_, v0', ev0', ow⟩ := p2.good.slotAt ex
  rw [ev0] at ev0'
  cases ev0'
  obtain ⟨yd, yk⟩ := y
  cases ed : dAt js x.1 with
  | none => rw [ed] at e; cases e
  | some ds =>
    rw [ed] at e
    cases yd with
    | int n =>
      cases ej : ixN ds.length n with
      | none => simp only [ej] at e; cases e
      | some j =>
        simp only [ej] at e
        cases ed2 : dAt (js ++ [j]) x.1 with
        | none => rw [ed2] at e; cases e
        | some ds2 =>
          rw [ed2] at e
          simp only at e
          split at e
          · next l =>
            cases e
            obtain ⟨u, ru⟩ := Own.reach (js ++ [j]) ow (by simpa using l) ed2
            obtain ⟨pa, vs, ep, hp, eu⟩ := ru.snoc r2
            obtain ⟨pa', vs', A, G, B, ep', hp', _, og, _⟩ := Own.mod js x.1 ow (p2.good.nd i) (p2.good.nz i) (by omega) r2 ed
            rw [ep] at ep'
            cases ep'
            rw [hp] at hp'
            cases hp'
            have ll := OwnAll.len _ og
            refine ⟨pa, vs, n, u, ep, own_int p2.held.pr, .inl (.inl hp), ?_, q u H2 Z2 Fs2 (p1.seq p2.nothing).fv0 ⟨v0, ev0, ru⟩⟩
            unfold atI
            rw [ll, ej]
            exact eu
          · cases e
    | _ => cases e

/-! ### append, extend, a place set, reverse, clear -/
theorem chg_ok {K : PySem.W.Frag} {Z Z2 : Zs} {H H2 : Hp} {Fs Fs2 : Fp} {σ : L2.St} {s2 s3 : SD} {F : List Addr} {P : Pr} {Pm : Nat → Pr} {m0 : Nat} {js : List Nat} {v0 u : V} {op : List PyData → Res (List PyData)} (L : Lows P Pm m0) (SP : Stb P) (p : Post K P [] mv H Z Fs σ s2 H2 Z2 Fs2 F) (ec : chg i js m0 op s2 = .ok s3) (hσ : σ[i]? = some (some v0)) (hr : ∀ d k, s2[i]? = some (some (d, k)) → k ≠ 0 → Reach H2 (Fs2 i) v0 js u) :
    ∃ pa vs ds ds', u = .ref pa ∧ H2 pa = some (.lst vs) ∧ vs.length = ds.length ∧ (∃ k0 Z0 G0, OwnAll K Z0 H2 k0 vs ds G0) ∧ op ds = .ok ds' ∧ ∀ vs', (∀ Zq Hq m G Fx, OwnAll K Zq Hq m vs ds G → Pm m Zq Hq Fx → (G ++ Fx).Nodup → ∃ G', OwnAll K Zq Hq m vs' ds' G' ∧ (∀ a ∈ G', a ∈ G ∨ a ∈ Fx) ∧ G'.Nodup) →
      ∃ Z3 Fs3, PostS K [] (mv ++ [i]) σ H Z Fs σ s3 (upd H2 pa (.lst vs')) Z3 Fs3 := by
  unfold chg at ec
  obtain ⟨x, ex, ec⟩ := Res.bind_eq_ok.mp ec
  obtain ⟨es, v0', ev0', ow⟩ := p.good.slotAt ex
  cases ed : dAt js x.1 with
  | none => rw [ed] at ec; cases ec
  | some ds =>
    rw [ed] at ec
    obtain ⟨ds', eo, ec⟩ := Res.bind_eq_ok.mp ec
    split at ec
    · next l =>
      cases ec
      obtain ⟨pa, vs, h1, h2, h3, h4, h5⟩ := mutate L SP p es ed l hσ (hr x.1 x.2 es (by omega))
      exact ⟨pa, vs, ds, ds', h1, h2, h3, h4, eo, fun vs' b => h5 vs' ds' b⟩
    · cases ec
theorem Post.mono0 {K : PySem.W.Frag} {Z Z2 : Zs} {H H2 : Hp} {Fs Fs2 : Fp} {σ : L2.St} {s2 : SD} {F : List Addr} {P : Pr} (p : Post K P [] mv H Z Fs σ s2 H2 Z2 Fs2 F) : True := trivial
theorem OwnAll.one {K : PySem.W.Frag} {Z : Zs} {H : Hp} {k : Nat} {v : V} {d : PyData} {F : List Addr} (h : Own K Z H k v d F) : OwnAll K Z H k [v] [d] F := by
  unfold OwnAll
  refine ⟨v, [], F, [], rfl, h, ?_, by simp⟩
  unfold OwnAll
  exact ⟨rfl, rfl⟩
/-- a path, then a value: what holds then -/
theorem pathVal {K : PySem.W.Frag} {Z Z1 Z2 : Zs} {H H1 H2 : Hp} {Fs Fs1 Fs2 : Fp} {σ : L2.St} {s1 s2 : SD} {F : List Addr} {x : DV} {v u v0 : V} {js : List Nat} (p1 : Post K PNone [] mva H Z Fs σ s1 H1 Z1 Fs1 []) (r1 : Reach H1 (Fs1 i) v0 js u) (p2 : Post K (POne K v x) fv mv H1 Z1 Fs1 σ s2 H2 Z2 Fs2 F) (ni : i ∉ mv) :
    ∃ Z3 Fs3, Post K (POne K v x) [] (mva ++ (mv ++ fv)) H Z Fs σ (settle fv x s2) H2 Z3 Fs3 F ∧ ∀ d k, (settle fv x s2)[i]? = some (some (d, k)) → k ≠ 0 → Reach H2 (Fs3 i) v0 js u := by
  obtain ⟨Z3, Fs3, p3, f3⟩ := p2.settle
  refine ⟨Z3, Fs3, p1.seq p3, fun d k e nk => ?_⟩
  rcases f3 i with q | q
  · rw [q]
    exact r1.on p1.good p2.tr ni
  · exact absurd (q d k e) nk
theorem rs_append (ho : PE X o (tP X.K i mva fp)) (he : PE X e (tE X.K fv mv f)) (d : djn [i] mv = true := by rfl) (hbase : attributeBase o "append" X.env (eval o X.env) = eval o X.env := by rfl)
    (hfew : ((backTo cpos (starEach [e] X.env)).all (fun x => !x.1) && (backToKw cpos (keywordEach [] X.env)).all (fun x => x.1.isSome) && decide ([e].length + ([] : List Keyword).length + (if ([] : List Keyword).isEmpty then 0 else 1) < 30)) = true := by rfl)
    (hline : (apos.endLine == cpos.line) = true := by rfl) (hst : starEach [e] X.env = (false, eval e X.env) :: starEach [] X.env := by rfl) (hplain : (backTo cpos (starEach [] X.env)).any (·.1) = false := by rfl) :
    PS X (.Expr (.Call (.Attribute o "append" apos) [e] [] cpos) pos) (tS X.K [] (mva ++ (mv ++ fv) ++ [i]) (sApp i fp fv f)) := by
  refine PS.of (ps_expr (pe_bm PySem.F.plainAttrs_list PySem.F.slot_list_append PySem.F.type_list_append mt_append ho (pa_cons he pa_nil hst) hbase hfew hline hst hplain)) fun D σ H h => ?_
  obtain ⟨Z, s, Fs, fl, s', gd, e, q⟩ := h
  unfold sApp at e
  obtain ⟨⟨js, s1⟩, ea, e⟩ := Res.bind_eq_ok.mp e
  obtain ⟨⟨x, s2⟩, eb, e⟩ := Res.bind_eq_ok.mp e
  obtain ⟨s3, ec, e⟩ := Res.bind_eq_ok.mp e
  cases e
  have ni : i ∉ mv := djn_ok d i (List.mem_singleton.mpr rfl)
  refine ⟨Z, s, Fs, js, s1, gd, ea, fun u H1 Z1 Fs1 p1 ⟨v0, ev0, r1⟩ => ?_⟩
  obtain ⟨pa, vs, rfl, _, hp⟩ := r1.lastL
  refine ⟨.inl ⟨rfl, vs, .inl (.inl hp)⟩, Z1, s1, Fs1, x, s2, p1.good, eb, fun v H2 Z2 Fs2 F2 p2 => ?_⟩
  obtain ⟨Z3, Fs3, p3, r3⟩ := pathVal p1 r1 p2 ni
  obtain ⟨pa', ws, ds, ds', e1, h2, hl, _, eo, fin⟩ := chg_ok (lows_one X.K v x) (stb_one _ _ _) p3 ec ev0 r3
  unfold opApp at eo
  split at eo
  · next sm =>
    cases eo
    have sz := small_ok sm
    obtain ⟨Z4, Fs4, p4⟩ := fin (ws ++ [v]) fun Zq Hq m G Fx o1 o2 nd => ⟨G ++ Fx, OwnAll.app o1 (OwnAll.one o2), fun a ha => List.mem_append.mp ha, nd⟩
    exact ⟨pa', ws, v, e1, rfl, h2, by omega, q σ _ Z4 Fs4 p4⟩
  · cases eo
theorem OwnAll.setAt {K : PySem.W.Frag} {Z : Zs} {H : Hp} {k : Nat} : ∀ (ds : List PyData) {vs : List V} {G Fx : List Addr} {v : V} {d : PyData} (j : Nat), OwnAll K Z H k vs ds G → Own K Z H k v d Fx → (G ++ Fx).Nodup → ∃ G', OwnAll K Z H k (vs.set j v) (ds.set j d) G' ∧ (∀ a ∈ G', a ∈ G ∨ a ∈ Fx) ∧ G'.Nodup
  | [], vs, G, Fx, v, d, j, h, _, nd => by
    have h' := h
    unfold OwnAll at h
    obtain ⟨rfl, rfl⟩ := h
    exact ⟨[], by simpa using h', fun a ha => (by cases ha), List.nodup_nil⟩
  | d0 :: ds, _, _, Fx, v, d, 0, h, o, nd => by
    unfold OwnAll at h
    obtain ⟨w, vs', F1, F2, rfl, h1, h2, rfl⟩ := h
    obtain ⟨n1, n2, n3⟩ := List.nodup_append.mp nd
    obtain ⟨n4, n5, n6⟩ := List.nodup_append.mp n1
    refine ⟨Fx ++ F2, ?_, fun a ha => ?_, List.nodup_append.mpr ⟨n2, n5, fun a ha b hb e => n3 b (List.mem_append_right _ hb) a ha e.symm⟩⟩
    · rw [List.set_cons_zero, List.set_cons_zero]
      unfold OwnAll
      exact ⟨v, vs', Fx, F2, rfl, o, h2, rfl⟩
    · rcases List.mem_append.mp ha with ha | ha
      · exact .inr ha
      · exact .inl (List.mem_append_right _ ha)
  | d0 :: ds, _, _, Fx, v, d, j + 1, h, o, nd => by
    unfold OwnAll at h
    obtain ⟨w, vs', F1, F2, rfl, h1, h2, rfl⟩ := h
    obtain ⟨n1, n2, n3⟩ := List.nodup_append.mp nd
    obtain ⟨n4, n5, n6⟩ := List.nodup_append.mp n1
    obtain ⟨G', o', sb, nd'⟩ := OwnAll.setAt ds j h2 o (List.nodup_append.mpr ⟨n5, n2, fun a ha b hb e => n3 a (List.mem_append_right _ ha) b hb e⟩)
    refine ⟨F1 ++ G', ?_, fun a ha => ?_, List.nodup_append.mpr ⟨n4, nd', fun a ha b hb e => ?_⟩⟩
    · rw [List.set_cons_succ, List.set_cons_succ]
      unfold OwnAll
      exact ⟨w, _, F1, G', rfl, h1, o', rfl⟩
    · rcases List.mem_append.mp ha with ha | ha
      · exact .inl (List.mem_append_left _ ha)
      · exact (sb a ha).imp (fun h => List.mem_append_right _ h) id
    · subst e
      rcases sb a hb with h | h
      · exact n6 a ha a h rfl
      · exact n3 a (List.mem_append_left _ ha) a h rfl
theorem rs_setitem {ix : Expr} {fvx mvx : List Nat} {fx : Ex} {tpos : Pos} (he : PE X e (tE X.K fv mv f)) (ho : PE X o (tP X.K i mva fp)) (hi : PE X ix (tE X.K fvx mvx fx)) (d : djn fv (mva ++ mvx) = true := by rfl) (d2 : djn [i] mvx = true := by rfl)
    (hs : PG X (.Subscript o ix tpos) (gSub (tP X.K i mva fp) (tE X.K fvx mvx fx) rSetL)) (hsw : swapsWithSole [.Subscript o ix tpos] e pos.line X.env = pure false := by rfl) (hw : swappedStores [.Subscript o ix tpos] e X.env = pure none := by rfl) :
    PS X (.Assign [.Subscript o ix tpos] e pos) (tS X.K [] ((mv ++ (mva ++ mvx)) ++ fv ++ [i]) (sSet i fv f fp fx)) := by
  refine PS.of (ps_asg he hs hsw hw) fun D σ H h => ?_
  obtain ⟨Z, s, Fs, fl, s', gd, e, q⟩ := h
  unfold sSet at e
  obtain ⟨⟨x, s1⟩, ea, e⟩ := Res.bind_eq_ok.mp e
  obtain ⟨⟨js, s2⟩, eb, e⟩ := Res.bind_eq_ok.mp e
  obtain ⟨⟨y, s3⟩, ey, e⟩ := Res.bind_eq_ok.mp e
  obtain ⟨yd, yk⟩ := y
  cases yd with
  | int n =>
    obtain ⟨s4, ec, e⟩ := Res.bind_eq_ok.mp e
    cases e
    have ni : i ∉ mvx := djn_ok d2 i (List.mem_singleton.mpr rfl)
    have dd := djn_ok d
    refine ⟨Z, s, Fs, x, s1, gd, ea, fun v H1 Z1 Fs1 F1 p1 => ⟨Z1, s1, Fs1, js, s2, p1.good, eb, fun u H2 Z2 Fs2 p2 ⟨v0, ev0, r2⟩ => ⟨Z2, s2, Fs2, _, s3, p2.good, ey, fun w H3 Z3 Fs3 F3 p3 => ?_⟩⟩⟩
    have pp := p1.keepOn (stb_one _ _ _) ((p2.seq p3.nothing).fv0) fun j hj z => dd j hj z
    obtain ⟨Z4, Fs4, p4, f4⟩ := pp.settle
    have r3 := r2.on p2.good p3.tr ni
    obtain ⟨pa', ws, ds, ds', e1, h2, hl, _, eo, fin⟩ := chg_ok (lows_one X.K v x) (stb_one _ _ _) p4 ec ev0 (u := u) (js := js) (fun dd kk ee nk => by
      rcases f4 i with z | z
      · rw [z]; exact r3
      · exact absurd (z dd kk ee) nk)
    unfold opSet at eo
    cases ej : ixN ds.length n with
    | none => rw [ej] at eo; cases eo
    | some j =>
      rw [ej] at eo
      cases eo
      obtain ⟨Z5, Fs5, p5⟩ := fin (ws.set j v) fun Zq Hq m G Fx o1 o2 nd => OwnAll.setAt ds j o1 o2 nd
      exact ⟨pa', ws, n, j, e1, own_int p3.held.pr, h2, by rw [hl]; exact ej, q σ _ Z5 Fs5 p5⟩
  | _ => cases e
theorem lows_ext (K : PySem.W.Frag) (ws : List V) (es : List PyData) (k : Nat) : Lows (fun Z H F => OwnAll K Z H (k - 1) ws es F) (fun m Z H F => OwnAll K Z H m ws es F) (depI (.list es, k)) where
  low := fun {Z H F m} h nd l => OwnAll.to h nd (depI_ok l)
  stb := fun m => ⟨fun h k => OwnAll.keep _ h k, fun h m => OwnAll.zmono _ h m, fun h => OwnAll.isl _ h⟩
/-- list.extend by what may be read -/
def rExtR : V → List V → Hp → VK → Prop := fun x vs H Q => ∃ l b xs zs, x = .ref l ∧ vs = [.ref b] ∧ H l = some (.lst xs) ∧ Rd H b (.lst zs) ∧ xs.length + zs.length ≤ sizeLine ∧ Q .non (upd H l (.lst (xs ++ zs)))
theorem mt_extR : MtR X "list.extend" rExtR := by
  intro pins s σ H x vs v us Q I rx rv h
  obtain ⟨l, b, xs, zs, rfl, rfl, hH, hB, hz, q⟩ := h
  cases rx
  obtain ⟨u, rfl, ru⟩ := rv.one
  cases ru
  obtain ⟨z, its, n, r, hl, e⟩ := I.lstM hH
  obtain ⟨z2, its2, n2, r2, hl2, e2⟩ := Inv.lstR I hB
  have hsz : its.toArray.size + its2.toArray.size ≤ sizeLine := by rw [List.size_toArray, List.size_toArray]; omega
  have hlong : ¬ (!its.toArray.isEmpty && Builtin.List.listTooLong (its.toArray.size + its2.toArray.size)) = true := by
    rw [notLongL hsz, Bool.and_false]
    exact Bool.false_ne_true
  refine call_meets PySem.F.slot_list_extend ⟨_, e, rfl⟩ PySem.F.entry_list_extend (PySem.F.args_list_extend_2 _ _)
    (AutoSeq1.list_extend_list_list_0 l its.toArray n b its2.toArray n2 hlong (by rw [List.size_toArray]; omega) (by omega)) ⟨e, e2, ?_⟩
  refine ⟨.non, _, I.lset (its' := its ++ its2) hH e (by simp) (r.append r2) ?_, rfl, q⟩
  rw [List.length_append]
  omega
theorem rs_extend (ho : PE X o (tP X.K i mva fp)) (he : PE X e (tE X.K fv mv f)) (d : djn [i] mv = true := by rfl) (hbase : attributeBase o "extend" X.env (eval o X.env) = eval o X.env := by rfl)
    (hfew : ((backTo cpos (starEach [e] X.env)).all (fun x => !x.1) && (backToKw cpos (keywordEach [] X.env)).all (fun x => x.1.isSome) && decide ([e].length + ([] : List Keyword).length + (if ([] : List Keyword).isEmpty then 0 else 1) < 30)) = true := by rfl)
    (hline : (apos.endLine == cpos.line) = true := by rfl) (hst : starEach [e] X.env = (false, eval e X.env) :: starEach [] X.env := by rfl) (hplain : (backTo cpos (starEach [] X.env)).any (·.1) = false := by rfl) :
    PS X (.Expr (.Call (.Attribute o "extend" apos) [e] [] cpos) pos) (tS X.K [] (mva ++ (mv ++ fv) ++ [i]) (sExt i fp fv f)) := by
  refine PS.of (ps_expr (pe_bm PySem.F.plainAttrs_list PySem.F.slot_list_extend PySem.F.type_list_extend mt_extR ho (pa_cons he pa_nil hst) hbase hfew hline hst hplain)) fun D σ H h => ?_
  obtain ⟨Z, s, Fs, fl, s', gd, e, q⟩ := h
  unfold sExt at e
  obtain ⟨⟨js, s1⟩, ea, e⟩ := Res.bind_eq_ok.mp e
  obtain ⟨⟨x, s2⟩, eb, e⟩ := Res.bind_eq_ok.mp e
  obtain ⟨xd, xk⟩ := x
  cases xd with
  | list es =>
    obtain ⟨s3, ec, e⟩ := Res.bind_eq_ok.mp e
    cases e
    have ni : i ∉ mv := djn_ok d i (List.mem_singleton.mpr rfl)
    refine ⟨Z, s, Fs, js, s1, gd, ea, fun u H1 Z1 Fs1 p1 ⟨v0, ev0, r1⟩ => ?_⟩
    obtain ⟨pa, vs, rfl, _, hp⟩ := r1.lastL
    refine ⟨.inl ⟨rfl, vs, .inl (.inl hp)⟩, Z1, s1, Fs1, _, s2, p1.good, eb, fun v H2 Z2 Fs2 F2 p2 => ?_⟩
    obtain ⟨Z3, Fs3, p3, r3⟩ := pathVal p1 r1 p2 ni
    have ow : Own X.K _ _ xk v (.list es) F2 := p3.held.pr
    obtain ⟨b, zs, G0, rfl, rd, oz, sb⟩ := ow.sub
    have p3' := p3.sub (P' := fun Z H F => OwnAll X.K Z H (xk - 1) zs es F) sb oz
    obtain ⟨pa', ws, ds, ds', e1, h2, hl, _, eo, fin⟩ := chg_ok (lows_ext X.K zs es xk) ⟨fun h k => OwnAll.keep _ h k, fun h m => OwnAll.zmono _ h m, fun h => OwnAll.isl _ h⟩ p3' ec ev0 r3
    unfold opExt at eo
    split at eo
    · next sm =>
      cases eo
      have sz := small_ok sm
      have lz := OwnAll.len _ oz
      obtain ⟨Z4, Fs4, p4⟩ := fin (ws ++ zs) fun Zq Hq m G Fx o1 o2 nd => ⟨G ++ Fx, OwnAll.app o1 o2, fun a ha => List.mem_append.mp ha, nd⟩
      exact ⟨pa', b, ws, zs, e1, rfl, h2, rd, by omega, q σ _ Z4 Fs4 p4⟩
    · cases eo
  | _ => cases e
theorem OwnAll.rev {K : PySem.W.Frag} {Z : Zs} {H : Hp} {k : Nat} : ∀ (ds : List PyData) {vs : List V} {G : List Addr}, OwnAll K Z H k vs ds G → G.Nodup → ∃ G', OwnAll K Z H k vs.reverse ds.reverse G' ∧ (∀ a ∈ G', a ∈ G) ∧ G'.Nodup
  | [], vs, G, h, nd => by
    have h' := h
    unfold OwnAll at h
    obtain ⟨rfl, rfl⟩ := h
    exact ⟨[], h', fun a ha => ha, nd⟩
  | d :: ds, _, _, h, nd => by
    unfold OwnAll at h
    obtain ⟨w, vs', F1, F2, rfl, h1, h2, rfl⟩ := h
    obtain ⟨n1, n2, n3⟩ := List.nodup_append.mp nd
    obtain ⟨G', o, sb, nd'⟩ := OwnAll.rev ds h2 n2
    refine ⟨G' ++ F1, ?_, fun a ha => ?_, List.nodup_append.mpr ⟨nd', n1, fun a ha b hb e => n3 b hb a (sb a ha) e.symm⟩⟩
    · rw [List.reverse_cons, List.reverse_cons]
      exact OwnAll.app o (OwnAll.one h1)
    · rcases List.mem_append.mp ha with ha | ha
      · exact List.mem_append_right _ (sb a ha)
      · exact List.mem_append_left _ ha
theorem rs_reverse (ho : PE X o (tP X.K i mva fp)) (hbase : attributeBase o "reverse" X.env (eval o X.env) = eval o X.env := by rfl) (hline : (apos.endLine == cpos.line) = true := by rfl) :
    PS X (.Expr (.Call (.Attribute o "reverse" apos) [] [] cpos) pos) (tS X.K [] (mva ++ [i]) (sRev i fp)) := by
  refine PS.of (ps_expr (pe_bm0 PySem.F.plainAttrs_list PySem.F.slot_list_reverse PySem.F.type_list_reverse mt_reverse ho hbase hline)) fun D σ H h => ?_
  obtain ⟨Z, s, Fs, fl, s', gd, e, q⟩ := h
  unfold sRev at e
  obtain ⟨⟨js, s1⟩, ea, e⟩ := Res.bind_eq_ok.mp e
  obtain ⟨x, ex, e⟩ := Res.bind_eq_ok.mp e
  obtain ⟨s3, ec, e⟩ := Res.bind_eq_ok.mp e
  cases e
  refine ⟨Z, s, Fs, js, s1, gd, ea, fun u H1 Z1 Fs1 p1 ⟨v0, ev0, r1⟩ => ?_⟩
  obtain ⟨pa, vs, rfl, _, hp⟩ := r1.lastL
  refine ⟨.inl ⟨rfl, vs, .inl (.inl hp)⟩, ?_⟩
  obtain ⟨pa', ws, ds, ds', e1, h2, hl, _, eo, fin⟩ := chg_ok (lows_none x.2) stb_none p1 ec ev0 (fun _ _ _ _ => r1)
  cases eo
  obtain ⟨Z4, Fs4, p4⟩ := fin ws.reverse fun Zq Hq m G Fx o1 o2 nd => by
    obtain ⟨G', o, sb, nd'⟩ := OwnAll.rev ds o1 (List.nodup_append.mp nd).1
    exact ⟨G', o, fun a ha => .inl (sb a ha), nd'⟩
  exact ⟨pa', ws, e1, rfl, h2, q σ _ Z4 Fs4 p4⟩
theorem rs_clear (ho : PE X o (tP X.K i mva fp)) (hbase : attributeBase o "clear" X.env (eval o X.env) = eval o X.env := by rfl) (hline : (apos.endLine == cpos.line) = true := by rfl) :
    PS X (.Expr (.Call (.Attribute o "clear" apos) [] [] cpos) pos) (tS X.K [] (mva ++ [i]) (sClr i fp)) := by
  refine PS.of (ps_expr (pe_bm0 PySem.F.plainAttrs_list PySem.F.slot_list_clear PySem.F.type_list_clear mt_clear ho hbase hline)) fun D σ H h => ?_
  obtain ⟨Z, s, Fs, fl, s', gd, e, q⟩ := h
  unfold sClr at e
  obtain ⟨⟨js, s1⟩, ea, e⟩ := Res.bind_eq_ok.mp e
  obtain ⟨x, ex, e⟩ := Res.bind_eq_ok.mp e
  obtain ⟨s3, ec, e⟩ := Res.bind_eq_ok.mp e
  cases e
  refine ⟨Z, s, Fs, js, s1, gd, ea, fun u H1 Z1 Fs1 p1 ⟨v0, ev0, r1⟩ => ?_⟩
  obtain ⟨pa, vs, rfl, _, hp⟩ := r1.lastL
  refine ⟨.inl ⟨rfl, vs, .inl (.inl hp)⟩, ?_⟩
  obtain ⟨pa', ws, ds, ds', e1, h2, hl, _, eo, fin⟩ := chg_ok (lows_none x.2) stb_none p1 ec ev0 (fun _ _ _ _ => r1)
  cases eo
  obtain ⟨Z4, Fs4, p4⟩ := fin [] fun Zq Hq m G Fx o1 o2 nd => ⟨[], by unfold OwnAll; exact ⟨rfl, rfl⟩, fun a ha => (by cases ha), List.nodup_nil⟩
  exact ⟨pa', ws, e1, rfl, h2, q σ _ Z4 Fs4 p4⟩
end
end Sq
end

section
namespace Sq
open PySem PySem.Spec L2
/-! ### targets -/
abbrev Bd := DV → SD → Res SD
abbrev Bds := List DV → SD → Res SD
def bName (i : Nat) : Bd := fun x s => .ok (s.set i (some x))
def bNil : Bds := fun xs s => match xs with
  | [] => .ok s
  | _ => .bad
def bCons (b : Bd) (bs : Bds) : Bds := fun xs s => match xs with
  | x :: xs => do
    let s ← b x s
    bs xs s
  | [] => .bad
def bTup (n : Nat) (bs : Bds) : Bd := fun x s => match x.1 with
  | .tuple ds => if ds.length = n then bs (ds.map fun d => (d, x.2 - 1)) s else .bad
  | .list ds => if ds.length = n then bs (ds.map fun d => (d, x.2 - 1)) s else .bad
  | _ => .bad
structure PostG (K : PySem.W.Frag) (tgs : List Nat) (F : List Addr) (σ : L2.St) (Fs : Fp) (σ' : L2.St) (s' : SD) (H : Hp) (Z : Zs) (Fs' : Fp) : Prop where
  good : Good K Z H σ' s' Fs'
  st : ∀ i, i ∉ tgs → σ'[i]? = σ[i]?
  ln : σ'.length = σ.length
  fo : ∀ i, i ∉ tgs → Fs' i = Fs i
  fb : ∀ i ∈ tgs, ∀ a ∈ Fs' i, a ∈ F
def tG (K : PySem.W.Frag) (tgs : List Nat) (b : Bd) : TG := fun v σ H Q => ∃ Z s Fs x s' F, Good K Z H σ s Fs ∧ Held (POne K v x) [] H Z Fs F ∧ b x s = .ok s' ∧ ∀ σ' Fs', PostG K tgs F σ Fs σ' s' H Z Fs' → Q σ' H
def tGs (K : PySem.W.Frag) (tgs : List Nat) (b : Bds) : TGs := fun vs σ H Q => ∃ Z s Fs xs s' F, Good K Z H σ s Fs ∧ Held (PAll K vs xs) [] H Z Fs F ∧ b xs s = .ok s' ∧ ∀ σ' Fs', PostG K tgs F σ Fs σ' s' H Z Fs' → Q σ' H
section
variable {K : PySem.W.Frag} {Z : Zs} {H : Hp} {Fs Fs' : Fp} {σ σ' : L2.St} {s s' : SD} {F : List Addr} {x : DV} {v : V}
theorem zf0 {a : Addr} (z : Zf Z Fs [] a) : Z a := by
  rcases z with z | ⟨_, h, _⟩
  · exact z
  · cases h
theorem name_ok {i : Nat} (g : Good K Z H σ s Fs) (h : Held (POne K v x) [] H Z Fs F) : PostG K [i] F σ Fs (σ.set i (some v)) (s.set i (some x)) H Z (fun j => if j = i then F else Fs j) := by
  have ow : Own K Z H x.2 v x.1 F := Own.zmono _ h.pr fun a z => zf0 z
  have il : ∀ a ∈ F, ∃ o, H a = some o ∧ Chg o := fun a ha => Own.isl _ ow a ha
  refine ⟨⟨by rw [List.length_set, List.length_set]; exact g.len, fun j d k e => ?_, fun j => ?_, fun j l n a ha hb => ?_, fun j a ha z => ?_, fun j a ha => ?_, g.zt⟩, fun j hj => ?_, by rw [List.length_set], fun j hj => ?_, fun j hj a ha => ?_⟩
  · by_cases q : j = i
    · subst q
      by_cases l : j < s.length
      · rw [List.getElem?_set_self l] at e
        have e' := Option.some.inj (Option.some.inj e)
        subst e'
        rw [if_pos rfl]
        exact ⟨v, List.getElem?_set_self (by rw [← g.len]; exact l), ow⟩
      · rw [List.getElem?_eq_none (by simpa using l)] at e; cases e
    · rw [List.getElem?_set_ne (Ne.symm q)] at e
      rw [if_neg q, List.getElem?_set_ne (Ne.symm q)]
      exact g.own j d k e
  · by_cases q : j = i
    · rw [if_pos q]; exact h.nd
    · rw [if_neg q]; exact g.nd j
  · by_cases q : j = i
    · rw [if_pos q] at ha
      rw [if_neg (fun e => n (q.trans e.symm))] at hb
      exact h.nf a ha l hb
    · rw [if_neg q] at ha
      by_cases q2 : l = i
      · rw [if_pos q2] at hb
        exact h.nf a hb j ha
      · rw [if_neg q2] at hb
        exact g.dj j l n a ha hb
  · by_cases q : j = i
    · rw [if_pos q] at ha; exact h.nz a ha z
    · rw [if_neg q] at ha; exact g.nz j a ha z
  · by_cases q : j = i
    · rw [if_pos q] at ha; exact il a ha
    · rw [if_neg q] at ha; exact g.isl j a ha
  · exact List.getElem?_set_ne fun e => hj (by rw [← e]; exact List.mem_singleton.mpr rfl)
  · exact if_neg fun e => hj (by rw [e]; exact List.mem_singleton.mpr rfl)
  · rw [if_pos (List.mem_singleton.mp hj)] at ha
    exact ha
theorem allL {k : Nat} : ∀ {ds : List PyData} {vs : List V} {F : List Addr}, OwnAll K Z H k vs ds F → OwnL K Z H vs (ds.map fun d => (d, k)) F
  | [], vs, F, h => by unfold OwnAll at h; exact h
  | d :: ds, vs, F, h => by
    unfold OwnAll at h
    obtain ⟨v, vs', F1, F2, e, h1, h2, e2⟩ := h
    exact ⟨v, vs', F1, F2, e, h1, allL h2, e2⟩
end
section
variable {X : Cx} {e : Expr} {es : List Expr} {pos : Pos} {t1 t2 : List Nat} {b : Bd} {bs : Bds}
theorem PG.of {t t' : TG} (h : PG X e t) (i : ∀ v σ H Q, t' v σ H Q → t v σ H Q) : PG X e t' := ⟨fun pins s σ H v u Q I r q => h.run pins s σ H v u Q I r (i v σ H Q q)⟩
theorem PGs.of {t t' : TGs} (h : PGs X es t) (i : ∀ v σ H Q, t' v σ H Q → t v σ H Q) : PGs X es t' := ⟨fun pins s σ H v u Q I r q => h.run pins s σ H v u Q I r (i v σ H Q q)⟩
theorem PG.or {t t' : TG} (h : PG X e t) (h' : PG X e t') : PG X e (fun v σ H Q => t v σ H Q ∨ t' v σ H Q) := ⟨fun pins s σ H v u Q I r q => q.elim (h.run pins s σ H v u Q I r) (h'.run pins s σ H v u Q I r)⟩
theorem rg_name {i : Nat} {x : Str} (hN : X.N.Nodup) (hi : X.N[i]? = some x) (hx : Loc X.env.scope x) (hf : X.fn x = true ∨ X.env.scope.names.lookup x = some .local := by first | exact .inl rfl | exact .inr rfl | assumption) : PG X (.Name x pos) (tG X.K [i] (bName i)) := by
  refine PG.of (pg_name hN hi hx hf) fun v σ H Q h => ?_
  obtain ⟨Z, s, Fs, x, s', F, g, hd, e, q⟩ := h
  cases e
  exact q _ _ (name_ok g hd)
theorem rgs_nil : PGs X [] (tGs X.K [] bNil) := by
  refine PGs.of pgs_nil fun vs σ H Q h => ?_
  obtain ⟨Z, s, Fs, xs, s', F, g, hd, e, q⟩ := h
  unfold bNil at e
  cases xs with
  | nil =>
    cases e
    exact ⟨hd.pr.1, q σ Fs ⟨g, fun _ _ => rfl, rfl, fun _ _ => rfl, fun i hi => (by cases hi)⟩⟩
  | cons x xs => cases e
theorem rgs_cons (h1 : PG X e (tG X.K t1 b)) (h2 : PGs X es (tGs X.K t2 bs)) (hs : (assignEach (e :: es) X.env).map (·.2) = assign e X.env :: (assignEach es X.env).map (·.2) := by rfl) : PGs X (e :: es) (tGs X.K (t1 ++ t2) (bCons b bs)) := by
  refine PGs.of (pgs_cons h1 h2 hs) fun vs σ H Q h => ?_
  obtain ⟨Z, s, Fs, xs, s', F, g, hd, e, q⟩ := h
  unfold bCons at e
  cases xs with
  | nil => cases e
  | cons x xs =>
    obtain ⟨s1, e1, e2⟩ := Res.bind_eq_ok.mp e
    obtain ⟨v, vs', F1, F2, rfl, o1, o2, rfl⟩ := hd.pr
    obtain ⟨n1, n2, n3⟩ := List.nodup_append.mp hd.nd
    refine ⟨v, vs', rfl, Z, s, Fs, x, s1, F1, g, ⟨o1, n1, fun a ha => hd.nf a (List.mem_append_left _ ha), fun a ha => hd.nz a (List.mem_append_left _ ha)⟩, e1, fun σ1 Fs1 p1 => ?_⟩
    have h2' : Held (PAll X.K vs' xs) [] H Z Fs1 F2 := by
      refine ⟨OwnL.zmono (fun a z => .inl (zf0 z)) o2, n2, fun a ha i hb => ?_, fun a ha => hd.nz a (List.mem_append_right _ ha)⟩
      by_cases m : i ∈ t1
      · exact n3 a (p1.fb i m a hb) a ha rfl
      · rw [p1.fo i m] at hb
        exact hd.nf a (List.mem_append_right _ ha) i hb
    refine ⟨Z, s1, Fs1, xs, s', F2, p1.good, h2', e2, fun σ2 Fs2 p2 => q σ2 Fs2 ⟨p2.good, fun i hi => (p2.st i fun z => hi (List.mem_append_right _ z)).trans (p1.st i fun z => hi (List.mem_append_left _ z)), p2.ln.trans p1.ln, fun i hi => (p2.fo i fun z => hi (List.mem_append_right _ z)).trans (p1.fo i fun z => hi (List.mem_append_left _ z)), fun i hi a ha => ?_⟩⟩
    by_cases m : i ∈ t2
    · exact List.mem_append_right _ (p2.fb i m a ha)
    · rw [p2.fo i m] at ha
      by_cases m1 : i ∈ t1
      · exact List.mem_append_left _ (p1.fb i m1 a ha)
      · rcases List.mem_append.mp hi with z | z
        · exact absurd z m1
        · exact absurd z m
theorem rg_tup {k n : Nat} (hc : X.calm = true) (h : PGs X es (tGs X.K t1 bs)) (hn : (assignEach es X.env).length = n := by rfl) (hst : (assignEach es X.env).findIdx? (·.1) = none := by rfl) : PG X (.Tuple es k pos) (tG X.K t1 (bTup n bs)) := by
  refine PG.of (PG.or (pg_tup hc h hn hst) (pg_unl hc h hn hst)) fun v σ H Q h => ?_
  obtain ⟨Z, s, Fs, x, s', F, g, hd, e, q⟩ := h
  obtain ⟨xd, xk⟩ := x
  unfold bTup at e
  cases xd with
  | tuple ds =>
    simp only at e
    split at e
    · next l =>
      have o : Own X.K _ _ xk v (.tuple ds) F := hd.pr
      unfold Own at o
      obtain ⟨p, vs, rfl, r, hs⟩ := o
      exact .inl ⟨p, vs, rfl, r, (OwnAll.len _ hs).trans l, Z, s, Fs, _, s', F, g, ⟨allL hs, hd.nd, hd.nf, hd.nz⟩, e, q⟩
    · cases e
  | list ds =>
    simp only at e
    split at e
    · next l =>
      have o : Own X.K _ _ xk v (.list ds) F := hd.pr
      obtain ⟨p, vs, G, rfl, r, hs, sb⟩ := o.sub
      exact .inr ⟨p, vs, rfl, .inl r, (OwnAll.len _ hs).trans l, Z, s, Fs, _, s', G, g, ⟨allL hs, hd.nd.sublist sb, fun a ha => hd.nf a (sb.subset ha), fun a ha => hd.nz a (sb.subset ha)⟩, e, fun σ' Fs' p => q σ' Fs' ⟨p.good, p.st, p.ln, p.fo, fun i hi a ha => sb.subset (p.fb i hi a ha)⟩⟩
    · cases e
  | _ => cases e
/-! ### an assignment to several names -/
def sAsgT (b : Bd) (fv : List Nat) (a : Ex) : Sx := fun s => do
  let (x, s) ← a s
  let s ← b x (settle fv x s)
  .ok (.next, s)
theorem rs_asgT {tg e : Expr} {fv mv tgs : List Nat} {f : Ex} (he : PE X e (tE X.K fv mv f)) (hg : PG X tg (tG X.K tgs b)) (hs : swapsWithSole [tg] e pos.line X.env = pure false := by rfl) (hw : swappedStores [tg] e X.env = pure none := by rfl) (h1 : (assignEach [tg] X.env).map (·.2) = [assign tg X.env] := by rfl) : PS X (.Assign [tg] e pos) (tS X.K tgs (mv ++ fv ++ tgs) (sAsgT b fv f)) := by
  refine PS.of (ps_asg he hg hs hw h1) fun D σ H h => ?_
  obtain ⟨Z, s, Fs, fl, s', gd, e, q⟩ := h
  unfold sAsgT at e
  obtain ⟨⟨x, s1⟩, ea, e⟩ := Res.bind_eq_ok.mp e
  obtain ⟨s2, eb, e⟩ := Res.bind_eq_ok.mp e
  cases e
  refine ⟨Z, s, Fs, x, s1, gd, ea, fun v H1 Z1 Fs1 F p => ?_⟩
  obtain ⟨Z2, Fs2, p2, _⟩ := p.settle
  refine ⟨Z2, _, Fs2, x, _, F, p2.good, p2.held, eb, fun σ' Fs' g => q σ' H1 Z2 Fs' ⟨⟨fun a o e n => p2.tr.ev a o e fun i hi => n i (List.mem_append_left _ hi), p2.tr.dom, p2.tr.zm, fun a z => (p2.tr.zb a z).imp id fun z => z.imp id fun ⟨i, hi, q⟩ => ⟨i, List.mem_append_left _ hi, q⟩, fun i hi => ?_, fun i hi a ha => ?_⟩, g.good, g.st, g.ln⟩⟩
  · rw [g.fo i fun z => hi (List.mem_append_right _ z)]
    exact p2.tr.fo i fun z => hi (List.mem_append_left _ z)
  · by_cases m : i ∈ tgs
    · exact (p2.new a (g.fb i m a ha)).imp id fun ⟨j, hj, q⟩ => ⟨j, List.mem_append_left _ hj, q⟩
    · rw [g.fo i m] at ha
      by_cases m2 : i ∈ mv ++ fv
      · exact (p2.tr.fb i m2 a ha).imp id fun ⟨j, hj, q⟩ => ⟨j, List.mem_append_left _ hj, q⟩
      · rw [p2.tr.fo i m2] at ha
        exact .inr ⟨i, hi, ha⟩
end
end Sq
end

section
namespace Sq
open PySem PySem.Spec L2
/-! ### what is walked -/
abbrev Src := SD → Res (List PyData × SD)
def dat (xs : List DV) : List PyData := xs.map (·.1)
def iL (a : Ex) : Src := fun s => do
  let (x, s) ← a s
  match x.1 with
  | .list ds => .ok (ds, s)
  | .tuple ds => .ok (ds, s)
  | .str z => .ok (z.cps.toList.map fun c => .str ⟨#[c]⟩, s)
  | _ => .bad
def lo62 (i : Int) : Bool := decide (-(2 ^ 62) ≤ i) && decide (i < 2 ^ 62)
def rng (lo : Int) (n : Nat) : List PyData := (List.range n).map fun i => .int (lo + (i : Nat))
def iR1 (a : Exs) : Src := fun s => do
  let (xs, s) ← a s
  match dat xs with
  | [.int j] => if lo62 j then .ok (rng 0 j.toNat, s) else .bad
  | _ => .bad
def iR2 (a : Exs) : Src := fun s => do
  let (xs, s) ← a s
  match dat xs with
  | [.int i, .int j] => if lo62 i && lo62 j then .ok (rng i (j - i).toNat, s) else .bad
  | _ => .bad
def rngD (hi : Int) (n : Nat) : List PyData := (List.range n).map fun i => .int (hi - (i : Nat))
def iR3 (a : Exs) : Src := fun s => do
  let (xs, s) ← a s
  match dat xs with
  | [.int i, .int j, .int (-1)] => if lo62 i && lo62 j then .ok (rngD i (i - j).toNat, s) else .bad
  | _ => .bad
def enumD (ds : List PyData) : List PyData := ds.mapIdx fun i d => .tuple [.int (i : Nat), d]
def iEn (a : Exs) : Src := fun s => do
  let (xs, s) ← a s
  match dat xs with
  | [.list ds] => .ok (enumD ds, s)
  | _ => .bad
def zipD (ds es : List PyData) : List PyData := ds.zipWith (fun d e => .tuple [d, e]) es
def iZ (a : Exs) : Src := fun s => do
  let (xs, s) ← a s
  match dat xs with
  | [.list ds, .list es] => .ok (zipD ds es, s)
  | _ => .bad
def iRv (a : Exs) : Src := fun s => do
  let (xs, s) ← a s
  match dat xs with
  | [.list ds] => .ok (ds.reverse, s)
  | _ => .bad

/-- the walk J goes through ds, as long as what is shared stays -/
def ItOk (K : PySem.W.Frag) (Z : Zs) (J : It) (ds : List PyData) (H0 : Hp) : Prop := ∀ H, Kp Z H0 H → (∀ i d, ds[i]? = some d → J.go i H ∧ ∀ x H', J.yld i H x H' → Own K Z H' 0 x d [] ∧ ((H' = H) ∨ ∃ p o, H p = none ∧ H' = upd H p (.tup o))) ∧ ∀ i, ds.length ≤ i → J.stop i H
def tI (K : PySem.W.Frag) (fv mv : List Nat) (f : Src) : TI := fun σ H R => ∃ Z s Fs ds s', Good K Z H σ s Fs ∧ f s = .ok (ds, s') ∧ ∀ J H' Z' Fs', Post K PNone [] mv H Z Fs σ s' H' Z' Fs' [] → ItOk K (Zf Z' Fs' fv) J ds H' → R J H'
section
variable {K : PySem.W.Frag} {Z Z1 Z2 : Zs} {H H1 H2 : Hp} {Fs Fs1 Fs2 : Fp} {σ : L2.St} {s s' s1 s2 : SD} {F F2 : List Addr} {fv mv : List Nat} {x : DV} {v : V}
theorem Post.shareAll (h : Post K (POne K v x) fv mv H Z Fs σ s1 H1 Z1 Fs1 F) : ∃ Z2, Post K (POne K v (x.1, 0)) fv mv H Z Fs σ s1 H1 Z2 Fs1 [] := by
  obtain ⟨F', sb, q⟩ := Own.lower (j := 0) x.1 h.held.pr h.held.nd (Nat.zero_le _)
  have e : F' = [] := Own.nil0 x.1 (q (fun _ => True) (fun _ _ => trivial) fun _ _ _ => trivial)
  subst e
  refine ⟨_, h.shared (stb_one _ _ _) sb ?_⟩
  exact q _ (fun a z => z.imp (fun z => .inl z) id) fun a ha hn => .inl (.inr ⟨ha, hn⟩)
theorem Post.drop {P : Pr} (h : Post K P fv mv H Z Fs σ s1 H1 Z1 Fs1 F) : Post K PNone [] mv H Z Fs σ s1 H1 Z1 Fs1 [] := h.nothing.fv0
/-- of a list, a tuple: an item as it is shared -/
theorem itemL {ds : List PyData} {vs : List V} {i : Nat} {d : PyData} {w : V} (o : OwnAll K Z H 0 vs ds []) (e : ds[i]? = some d) (ew : vs[i]? = some w) : Own K Z H 0 w d [] := by
  obtain ⟨w', F', ew', ow, sb⟩ := OwnAll.get ds i o e
  rw [ew] at ew'
  cases ew'
  rw [List.sublist_nil.mp sb] at ow
  exact ow
theorem it_list {p : Addr} {vs : List V} {ds : List PyData} (z : Z p) (r : Rd H p (.lst vs)) (o : OwnAll K Z H 0 vs ds []) : ItOk K Z (Itl K p) ds H := fun H' kp => by
  have r' : SqL K H' p vs := .inl (Rd.kp kp z r)
  have o' : OwnAll K Z H' 0 vs ds [] := OwnAll.keep ds o fun a ob e q => kp a ob e (q.imp (fun q => q.elim (fun q => (by cases q)) id) id)
  have l := OwnAll.len ds o
  refine ⟨fun i d e => ?_, fun i li => ⟨vs, r', by omega⟩⟩
  obtain ⟨w, _, ew, _, _⟩ := OwnAll.get ds i o' e
  exact ⟨⟨vs, w, r', ew⟩, fun x H2 ⟨e1, q⟩ => by subst e1; exact ⟨itemL o' e (q vs r'), .inl rfl⟩⟩
theorem it_tup {p : Addr} {vs : List V} {ds : List PyData} (r : SqT K H p vs) (o : OwnAll K Z H 0 vs ds []) : ItOk K Z (Itt K p) ds H := fun H' kp => by
  have r' : SqT K H' p vs := SqT.kp kp r
  have o' : OwnAll K Z H' 0 vs ds [] := OwnAll.keep ds o fun a ob e q => kp a ob e (q.imp (fun q => q.elim (fun q => (by cases q)) id) id)
  have l := OwnAll.len ds o
  refine ⟨fun i d e => ?_, fun i li => ⟨vs, r', by omega⟩⟩
  obtain ⟨w, _, ew, _, _⟩ := OwnAll.get ds i o' e
  exact ⟨⟨vs, w, r', ew⟩, fun x H2 ⟨e1, q⟩ => by subst e1; exact ⟨itemL o' e (q vs r'), .inl rfl⟩⟩
theorem it_str (z : Str) : ItOk K Z (Its z) (z.cps.toList.map fun c => .str ⟨#[c]⟩) H := fun H' kp => by
  refine ⟨fun i d e => ?_, fun i li => show z.cps.size ≤ i from by simpa using li⟩
  rw [List.getElem?_map] at e
  cases ec : z.cps.toList[i]? with
  | none => rw [ec] at e; cases e
  | some c =>
    rw [ec] at e
    cases e
    have ec' : z.cps[i]? = some c := by simpa using ec
    have lt : i < z.cps.size := by
      obtain ⟨h, _⟩ := Array.getElem?_eq_some_iff.mp ec'
      exact h
    exact ⟨lt, fun x H2 ⟨e1, c', e2, e3⟩ => by
      subst e1 e3
      rw [ec'] at e2
      cases e2
      exact ⟨str_own, .inl rfl⟩⟩
theorem it_rng (lo : Int) (n : Nat) : ItOk K Z (Itr lo n) (rng lo n) H := fun H' kp => by
  refine ⟨fun i d e => ?_, fun i li => show n ≤ i from by simpa [rng] using li⟩
  unfold rng at e
  rw [List.getElem?_map] at e
  by_cases l : i < n
  · rw [List.getElem?_range l] at e
    cases e
    exact ⟨l, fun x H2 ⟨e1, e2⟩ => by subst e1 e2; exact ⟨int_own, .inl rfl⟩⟩
  · rw [List.getElem?_eq_none (by simpa using l)] at e; cases e
theorem it_rngD (hi : Int) (n : Nat) : ItOk K Z (Itc hi (-1) n) (rngD hi n) H := fun H' kp => by
  refine ⟨fun i d e => ?_, fun i li => show n ≤ i from by simpa [rngD] using li⟩
  unfold rngD at e
  rw [List.getElem?_map] at e
  by_cases l : i < n
  · rw [List.getElem?_range l] at e
    cases e
    refine ⟨l, fun x H2 ⟨e1, e2⟩ => ?_⟩
    subst e1 e2
    rw [show hi + (i : Nat) * (-1) = hi - (i : Nat) by omega]
    exact ⟨int_own, .inl rfl⟩
  · rw [List.getElem?_eq_none (by simpa using l)] at e; cases e
theorem two_tup {T : Addr} {a b : V} {da db : PyData} (hn : H T = none) (oa : Own K Z H 0 a da []) (ob : Own K Z H 0 b db []) : Own K Z (upd H T (.tup [a, b])) 0 (.ref T) (.tuple [da, db]) [] := by
  have kp : ∀ S, Kp S H (upd H T (.tup [a, b])) := fun S c o e _ => by rw [upd_ne (ne_of_none e hn)]; exact e
  unfold Own
  refine ⟨T, [a, b], rfl, SqT.of upd_same, ?_⟩
  have := OwnAll.app (OwnAll.one (Own.keep _ oa (kp _))) (OwnAll.one (Own.keep _ ob (kp _)))
  simpa using this
theorem it_enum {p : Addr} {vs : List V} {ds : List PyData} (z : Z p) (r : Rd H p (.lst vs)) (o : OwnAll K Z H 0 vs ds []) : ItOk K Z (Ite K p) (enumD ds) H := fun H' kp => by
  have r' : SqL K H' p vs := .inl (Rd.kp kp z r)
  have o' : OwnAll K Z H' 0 vs ds [] := OwnAll.keep ds o fun a ob e q => kp a ob e (q.imp (fun q => q.elim (fun q => (by cases q)) id) id)
  have l := OwnAll.len ds o
  refine ⟨fun i d e => ?_, fun i li => ⟨vs, r', l ▸ (show ds.length ≤ i from by simpa [enumD] using li)⟩⟩
  unfold enumD at e
  rw [List.getElem?_mapIdx] at e
  cases ed : ds[i]? with
  | none => rw [ed] at e; cases e
  | some d0 =>
    rw [ed] at e
    cases e
    obtain ⟨w, _, ew, _, _⟩ := OwnAll.get ds i o' ed
    refine ⟨⟨vs, w, r', ew⟩, fun x H2 ⟨T, y, e1, hn, e2, q⟩ => ?_⟩
    subst e1 e2
    exact ⟨two_tup hn int_own (itemL o' ed (q vs r')), .inr ⟨T, _, hn, rfl⟩⟩
theorem it_zip {p p2 : Addr} {vs ws : List V} {ds es : List PyData} (z : Z p) (r : Rd H p (.lst vs)) (o : OwnAll K Z H 0 vs ds []) (z2 : Z p2) (r2 : Rd H p2 (.lst ws)) (o2 : OwnAll K Z H 0 ws es []) : ItOk K Z (Itz K p p2) (zipD ds es) H := fun H' kp => by
  have r' : SqL K H' p vs := .inl (Rd.kp kp z r)
  have o' : OwnAll K Z H' 0 vs ds [] := OwnAll.keep ds o fun a ob e q => kp a ob e (q.imp (fun q => q.elim (fun q => (by cases q)) id) id)
  have r2' : SqL K H' p2 ws := .inl (Rd.kp kp z2 r2)
  have o2' : OwnAll K Z H' 0 ws es [] := OwnAll.keep es o2 fun a ob e q => kp a ob e (q.imp (fun q => q.elim (fun q => (by cases q)) id) id)
  have l := OwnAll.len ds o
  have l2 := OwnAll.len es o2
  refine ⟨fun i d e => ?_, fun i li => ⟨vs, ws, r', r2', by have : min ds.length es.length ≤ i := by simpa [zipD] using li
                                                            omega⟩⟩
  unfold zipD at e
  rw [List.getElem?_zipWith] at e
  cases ed : ds[i]? with
  | none => rw [ed] at e; cases e
  | some d0 =>
    cases ee : es[i]? with
    | none => rw [ed, ee] at e; cases e
    | some d1 =>
      rw [ed, ee] at e
      cases e
      obtain ⟨w, _, ew, _, _⟩ := OwnAll.get ds i o' ed
      obtain ⟨w2, _, ew2, _, _⟩ := OwnAll.get es i o2' ee
      refine ⟨⟨vs, ws, w, w2, r', r2', ew, ew2⟩, fun x H2 ⟨T, y, y2, e1, hn, e2, q, q2⟩ => ?_⟩
      subst e1 e2
      exact ⟨two_tup hn (itemL o' ed (q vs r')) (itemL o2' ee (q2 ws r2')), .inr ⟨T, _, hn, rfl⟩⟩
theorem it_rev {p : Addr} {vs : List V} {ds : List PyData} (z : Z p) (r : Rd H p (.lst vs)) (o : OwnAll K Z H 0 vs ds []) : ItOk K Z (Itv K p vs.length) ds.reverse H := fun H' kp => by
  have r' : SqL K H' p vs := .inl (Rd.kp kp z r)
  have o' : OwnAll K Z H' 0 vs ds [] := OwnAll.keep ds o fun a ob e q => kp a ob e (q.imp (fun q => q.elim (fun q => (by cases q)) id) id)
  have l := OwnAll.len ds o
  refine ⟨fun i d e => ?_, fun i li => by have : ds.length ≤ i := by simpa using li
                                          show vs.length ≤ i
                                          omega⟩
  have lt : i < ds.length := by
    obtain ⟨h, _⟩ := List.getElem?_eq_some_iff.mp e
    simpa using h
  rw [List.getElem?_reverse lt] at e
  obtain ⟨w, _, ew, _, _⟩ := OwnAll.get ds _ o' e
  have ei : ds.length - 1 - i = vs.length - 1 - i := by omega
  rw [ei] at e ew
  exact ⟨⟨by omega, vs, w, r', ew⟩, fun x H2 ⟨e1, q⟩ => by subst e1; exact ⟨itemL o' e (q vs r'), .inl rfl⟩⟩
theorem ownl_ints {xs : List DV} {vs : List V} {F : List Addr} {is : List Int} (o : OwnL K Z H vs xs F) (e : xs.map (·.1) = is.map .int) : vs = is.map .int := by
  induction xs generalizing vs F is with
  | nil =>
    cases is with
    | nil => exact o.1
    | cons i is => cases e
  | cons x xs ih =>
    cases is with
    | nil => cases e
    | cons i is =>
      obtain ⟨v, vs', F1, F2, rfl, h1, h2, _⟩ := o
      obtain ⟨e1, e2⟩ := List.cons.inj e
      have e1' : x.1 = .int i := e1
      rw [e1'] at h1
      rw [own_int h1, ih h2 e2]
      rfl
theorem lo62_ok {i : Int} (h : lo62 i = true) : -(2 ^ 62) ≤ i ∧ i < 2 ^ 62 := by
  unfold lo62 at h
  rw [Bool.and_eq_true] at h
  exact ⟨of_decide_eq_true h.1, of_decide_eq_true h.2⟩
end
section
variable {X : Cx} {e tg a b : Expr} {es : List Expr} {pos p : Pos} {fv mv : List Nat} {f : Ex} {fs : Exs} {io : List (Nat × Nat)}
theorem PI.of {t t' : TI} (h : PI X tg e t) (i : ∀ σ H R, t' σ H R → t σ H R) : PI X tg e t' := ⟨fun pins s σ H R I q => h.run pins s σ H R I (i σ H R q)⟩
theorem PI.or {t t' : TI} (h : PI X tg e t) (h' : PI X tg e t') : PI X tg e (fun σ H R => t σ H R ∨ t' σ H R) := ⟨fun pins s σ H R I q => q.elim (h.run pins s σ H R I) (h'.run pins s σ H R I)⟩
theorem ri_list (h : PE X e (tE X.K fv mv f)) : PI X tg e (tI X.K fv mv (iL f)) := by
  refine PI.of (PI.or (PI.or (pi_list h) (pi_tup h)) (pi_str h)) fun σ H R h => ?_
  obtain ⟨Z, s, Fs, ds, s', gd, e, q⟩ := h
  unfold iL at e
  obtain ⟨⟨x, s1⟩, ea, e⟩ := Res.bind_eq_ok.mp e
  obtain ⟨xd, xk⟩ := x
  cases xd with
  | list d0 =>
    cases e
    refine .inl (.inl ⟨Z, s, Fs, _, _, gd, ea, fun v H1 Z1 Fs1 F p => ?_⟩)
    obtain ⟨Z2, p2⟩ := p.shareAll
    have o : Own X.K _ _ 0 v (.list ds) [] := p2.held.pr
    unfold Own at o
    obtain ⟨pa, vs, rfl, ⟨z, r⟩, o⟩ := o
    exact ⟨pa, rfl, ⟨vs, .inl r⟩, q _ H1 Z2 Fs1 p2.drop (it_list z r o)⟩
  | tuple d0 =>
    cases e
    refine .inl (.inr ⟨Z, s, Fs, _, _, gd, ea, fun v H1 Z1 Fs1 F p => ?_⟩)
    obtain ⟨Z2, p2⟩ := p.shareAll
    have o : Own X.K _ _ 0 v (.tuple ds) [] := p2.held.pr
    unfold Own at o
    obtain ⟨pa, vs, rfl, r, o⟩ := o
    exact ⟨pa, rfl, ⟨vs, r⟩, q _ H1 Z2 Fs1 p2.drop (it_tup r o)⟩
  | str z =>
    cases e
    refine .inr ⟨Z, s, Fs, _, _, gd, ea, fun v H1 Z1 Fs1 F p => ?_⟩
    exact ⟨z, own_str p.held.pr, q _ H1 Z1 Fs1 p.drop (it_str z)⟩
  | _ => cases e
theorem ri_range1 (hg : Gl X "range") (hm : X.mg "range" = none) (ha : PA X [a] (tA X.K fv mv io fs)) (hs : starEach [a] X.env = [(false, eval a X.env)] := by rfl) : PI X tg (.Call (.Name "range" p) [a] [] pos) (tI X.K fv mv (iR1 fs)) := by
  refine PI.of (pi_range1 hg hm ha hs) fun σ H R h => ?_
  obtain ⟨Z, s, Fs, ds, s', gd, e, q⟩ := h
  unfold iR1 at e
  obtain ⟨⟨xs, s1⟩, ea, e⟩ := Res.bind_eq_ok.mp e
  simp only at e
  split at e
  · next j ex =>
    split at e
    · next c =>
      cases e
      refine ⟨Z, s, Fs, _, _, gd, ea, fun vs H1 Z1 Fs1 F p _ => ?_⟩
      have ev := ownl_ints (is := [j]) p.held.pr ex
      obtain ⟨c1, c2⟩ := lo62_ok c
      exact ⟨j, ev, c1, c2, q _ H1 Z1 Fs1 p.drop (it_rng 0 _)⟩
    · cases e
  · cases e
theorem ri_range2 (hg : Gl X "range") (hm : X.mg "range" = none) (ha : PA X [a, b] (tA X.K fv mv io fs)) (hs : starEach [a, b] X.env = [(false, eval a X.env), (false, eval b X.env)] := by rfl) (hs2 : starEach [b] X.env = [(false, eval b X.env)] := by rfl) : PI X tg (.Call (.Name "range" p) [a, b] [] pos) (tI X.K fv mv (iR2 fs)) := by
  refine PI.of (pi_range2 hg hm ha hs hs2) fun σ H R h => ?_
  obtain ⟨Z, s, Fs, ds, s', gd, e, q⟩ := h
  unfold iR2 at e
  obtain ⟨⟨xs, s1⟩, ea, e⟩ := Res.bind_eq_ok.mp e
  simp only at e
  split at e
  · next i j ex =>
    split at e
    · next c =>
      cases e
      rw [Bool.and_eq_true] at c
      refine ⟨Z, s, Fs, _, _, gd, ea, fun vs H1 Z1 Fs1 F p _ => ?_⟩
      have ev := ownl_ints (is := [i, j]) p.held.pr ex
      obtain ⟨c1, c2⟩ := lo62_ok c.1
      obtain ⟨c3, c4⟩ := lo62_ok c.2
      exact ⟨i, j, ev, ⟨c1, c2, c3, c4⟩, q _ H1 Z1 Fs1 p.drop (it_rng i _)⟩
    · cases e
  · cases e
theorem ri_range3 {c : Expr} (hg : Gl X "range") (hm : X.mg "range" = none) (ha : PA X [a, b, c] (tA X.K fv mv io fs)) (hs : starEach [a, b, c] X.env = (false, eval a X.env) :: starEach [b, c] X.env := by rfl) (hpl : (backTo pos (starEach [b, c] X.env)).any (·.1) = false := by rfl) : PI X tg (.Call (.Name "range" p) [a, b, c] [] pos) (tI X.K fv mv (iR3 fs)) := by
  refine PI.of (pi_range3 hg hm ha hs hpl) fun σ H R h => ?_
  obtain ⟨Z, s, Fs, ds, s', gd, e, q⟩ := h
  unfold iR3 at e
  obtain ⟨⟨xs, s1⟩, ea, e⟩ := Res.bind_eq_ok.mp e
  simp only at e
  split at e
  · next i j ex =>
    split at e
    · next c =>
      cases e
      rw [Bool.and_eq_true] at c
      refine ⟨Z, s, Fs, _, _, gd, ea, fun vs H1 Z1 Fs1 F p _ => ?_⟩
      have ev := ownl_ints (is := [i, j, -1]) p.held.pr ex
      obtain ⟨c1, c2⟩ := lo62_ok c.1
      obtain ⟨c3, c4⟩ := lo62_ok c.2
      exact ⟨i, j, -1, _, ev, RgC.neg c1 c2 c3 c4, q _ H1 Z1 Fs1 p.drop (it_rngD i _)⟩
    · cases e
  · cases e
theorem one_list {K : PySem.W.Frag} {Z : Zs} {H : Hp} {vs : List V} {xs : List DV} {F : List Addr} {ds : List PyData} (o : OwnL K Z H vs xs F) (e : xs.map (·.1) = [.list ds]) : ∃ v k, vs = [v] ∧ Own K Z H k v (.list ds) F := by
  cases xs with
  | nil => cases e
  | cons x xs =>
    obtain ⟨e1, e2⟩ := List.cons.inj e
    have : xs = [] := by simpa using e2
    subst this
    obtain ⟨v, ev, ow⟩ := one_own o
    have e1' : x.1 = .list ds := e1
    rw [e1'] at ow
    exact ⟨v, x.2, ev, ow⟩
theorem Post.oneOf {K : PySem.W.Frag} {Z Z1 : Zs} {H H1 : Hp} {Fs Fs1 : Fp} {σ : L2.St} {s1 : SD} {F : List Addr} {vs : List V} {xs : List DV} {ds : List PyData} (p : Post K (PAll K vs xs) fv mv H Z Fs σ s1 H1 Z1 Fs1 F) (e : xs.map (·.1) = [.list ds]) : ∃ pa ws Z2, vs = [.ref pa] ∧ Zf Z2 Fs1 fv pa ∧ Rd H1 pa (.lst ws) ∧ OwnAll K (Zf Z2 Fs1 fv) H1 0 ws ds [] ∧ Post K PNone [] mv H Z Fs σ s1 H1 Z2 Fs1 [] := by
  obtain ⟨v, k, rfl, o⟩ := one_list p.held.pr e
  have p1 : Post K (POne K v (.list ds, k)) fv mv H Z Fs σ s1 H1 Z1 Fs1 F := p.sub (List.Sublist.refl _) o
  obtain ⟨Z2, p2⟩ := p1.shareAll
  have o2 : Own K _ _ 0 v (.list ds) [] := p2.held.pr
  unfold Own at o2
  obtain ⟨pa, ws, rfl, ⟨z, r⟩, o2⟩ := o2
  exact ⟨pa, ws, Z2, rfl, z, r, o2, p2.drop⟩
theorem ri_enum {elts : List Expr} {kk : Nat} {tpos : Pos} (hg : Gl X "enumerate") (hm : X.mg "enumerate" = none) (ha : PA X [a] (tA X.K fv mv io fs)) (hp : ∀ {ta : TA}, PA X [a] ta → PI X (.Tuple elts kk tpos) (.Call (.Name "enumerate" p) [a] [] pos) (iEnum X.K ta)) : PI X (.Tuple elts kk tpos) (.Call (.Name "enumerate" p) [a] [] pos) (tI X.K fv mv (iEn fs)) := by
  refine PI.of (hp ha) fun σ H R h => ?_
  obtain ⟨Z, s, Fs, ds, s', gd, e, q⟩ := h
  unfold iEn at e
  obtain ⟨⟨xs, s1⟩, ea, e⟩ := Res.bind_eq_ok.mp e
  simp only at e
  split at e
  · next d0 ex =>
    cases e
    refine ⟨Z, s, Fs, _, _, gd, ea, fun vs H1 Z1 Fs1 F p _ => ?_⟩
    obtain ⟨pa, ws, Z2, rfl, z, r, o, p2⟩ := p.oneOf ex
    exact ⟨pa, ws, rfl, .inl r, q _ H1 Z2 Fs1 p2 (it_enum z r o)⟩
  · cases e
theorem ri_rev (hg : Gl X "reversed") (hm : X.mg "reversed" = none) (ha : PA X [a] (tA X.K fv mv io fs)) (hp : ∀ {ta : TA}, PA X [a] ta → PI X tg (.Call (.Name "reversed" p) [a] [] pos) (iRev X.K ta)) : PI X tg (.Call (.Name "reversed" p) [a] [] pos) (tI X.K fv mv (iRv fs)) := by
  refine PI.of (hp ha) fun σ H R h => ?_
  obtain ⟨Z, s, Fs, ds, s', gd, e, q⟩ := h
  unfold iRv at e
  obtain ⟨⟨xs, s1⟩, ea, e⟩ := Res.bind_eq_ok.mp e
  simp only at e
  split at e
  · next d0 ex =>
    cases e
    refine ⟨Z, s, Fs, _, _, gd, ea, fun vs H1 Z1 Fs1 F p _ => ?_⟩
    obtain ⟨pa, ws, Z2, rfl, z, r, o, p2⟩ := p.oneOf ex
    exact ⟨pa, ws, rfl, .inl r, q _ H1 Z2 Fs1 p2 (it_rev z r o)⟩
  · cases e
theorem ri_zip {elts : List Expr} {kk : Nat} {tpos : Pos} (hg : Gl X "zip") (hm : X.mg "zip" = none) (ha : PA X [a, b] (tA X.K fv mv io fs)) (hp : ∀ {ta : TA}, PA X [a, b] ta → PI X (.Tuple elts kk tpos) (.Call (.Name "zip" p) [a, b] [] pos) (iZip X.K ta)) : PI X (.Tuple elts kk tpos) (.Call (.Name "zip" p) [a, b] [] pos) (tI X.K fv mv (iZ fs)) := by
  refine PI.of (hp ha) fun σ H R h => ?_
  obtain ⟨Z, s, Fs, ds, s', gd, e, q⟩ := h
  unfold iZ at e
  obtain ⟨⟨xs, s1⟩, ea, e⟩ := Res.bind_eq_ok.mp e
  simp only at e
  split at e
  · next d0 d1 ex =>
    cases e
    refine ⟨Z, s, Fs, _, _, gd, ea, fun vs H1 Z1 Fs1 F p _ => ?_⟩
    -- both of them shared
    obtain ⟨x, ys, rfl⟩ : ∃ x ys, xs = x :: ys := by
      cases xs with
      | nil => cases ex
      | cons x ys => exact ⟨x, ys, rfl⟩
    obtain ⟨e1, e2⟩ := List.cons.inj ex
    obtain ⟨y, rfl, e2'⟩ : ∃ y, ys = [y] ∧ y.1 = .list d1 := by
      cases ys with
      | nil => cases e2
      | cons y zs =>
        obtain ⟨e3, e4⟩ := List.cons.inj e2
        have : zs = [] := by simpa using e4
        subst this
        exact ⟨y, rfl, e3⟩
    obtain ⟨v, vs1, F1, F2, rfl, o1, o2, rfl⟩ := p.held.pr
    obtain ⟨w, rfl, o3⟩ := one_own o2
    have e1' : x.1 = .list d0 := e1
    rw [e1'] at o1
    rw [e2'] at o3
    obtain ⟨n1, n2, n3⟩ := List.nodup_append.mp p.held.nd
    obtain ⟨G1, t1, q1⟩ := Own.lower (j := 0) _ o1 n1 (Nat.zero_le _)
    obtain ⟨G2, t2, q2⟩ := Own.lower (j := 0) _ o3 n2 (Nat.zero_le _)
    have g1 : G1 = [] := Own.nil0 _ (q1 (fun _ => True) (fun _ _ => trivial) fun _ _ _ => trivial)
    have g2 : G2 = [] := Own.nil0 _ (q2 (fun _ => True) (fun _ _ => trivial) fun _ _ _ => trivial)
    subst g1 g2
    have p2 : Post X.K (fun Z H F => F = [] ∧ Own X.K Z H 0 v (.list d0) [] ∧ Own X.K Z H 0 w (.list d1) []) fv mv H Z Fs σ _ H1 (Zp Z1 (F1 ++ F2) []) Fs1 [] := p.shared (stb_all _ _ _) (List.nil_sublist _) ⟨rfl, q1 _ (fun a z => z.imp (fun z => .inl z) id) fun a ha hn => .inl (.inr ⟨List.mem_append_left _ ha, hn⟩), q2 _ (fun a z => z.imp (fun z => .inl z) id) fun a ha hn => .inl (.inr ⟨List.mem_append_right _ ha, hn⟩)⟩
    obtain ⟨_, oa, ob⟩ := p2.held.pr
    unfold Own at oa ob
    obtain ⟨pa, ws, rfl, ⟨z, r⟩, oa⟩ := oa
    obtain ⟨pb, us, rfl, ⟨z2, r2⟩, ob⟩ := ob
    exact ⟨pa, pb, ws, us, rfl, .inl r, .inl r2, q _ H1 _ Fs1 p2.drop (it_zip z r oa z2 r2 ob)⟩
  · cases e
end
end Sq
end

section
namespace Sq
open PySem PySem.Spec L2
/-! ### loops -/
def loopF (b : Bd) (body : Sx) : List PyData → SD → Res (Fl × SD)
  | [], s => .ok (.next, s)
  | d :: ds, s => do
    let s ← b (d, 0) s
    let (fl, s) ← body s
    match fl with
    | .next => loopF b body ds s
    | .cont => loopF b body ds s
    | .brk => .ok (.next, s)
    | .ret x => .ok (.ret x, s)
def sFor (b : Bd) (fv : List Nat) (it : Src) (body : Sx) : Sx := fun s => do
  let (ds, s) ← it s
  loopF b body ds (demote fv s)
/-- what a loop left alone is as it was; what it changed is kept where it shares nothing -/
def restore (ch : List Nat) (s1 s2 : SD) : SD := s1.mapIdx fun i o => if i ∈ ch then keepFull ((s2[i]?).getD none) else o
def sForR (b : Bd) (fv ch : List Nat) (it : Src) (body : Sx) : Sx := fun s => do
  let (ds, s) ← it s
  let (fl, s2) ← loopF b body ds (demote fv s)
  match fl with
  | .next => .ok (.next, restore ch s s2)
  | fl => .ok (fl, s2)
def loopW (c : Tst) (body : Sx) : Nat → SD → Res (Fl × SD)
  | 0, _ => .bad
  | n + 1, s => do
    let (t, s) ← c s
    if t then do
      let (fl, s) ← body s
      match fl with
      | .next => loopW c body n s
      | .cont => loopW c body n s
      | .brk => .ok (.next, s)
      | .ret x => .ok (.ret x, s)
    else .ok (.next, s)
def sWhile (fuel : Nat) (c : Tst) (body : Sx) : Sx := fun s => loopW c body fuel s
section
variable {K : PySem.W.Frag} {Z Z1 Z2 Z0 : Zs} {H H1 H2 H0 : Hp} {Fs Fs1 Fs2 Fs0 : Fp} {σ σ1 σ2 : L2.St} {s s' s1 s2 : SD} {F F2 : List Addr} {fv mv asg tgs : List Nat}
theorem Kp.of (g : Good K Z0 H0 σ s Fs0) (t : Tr mv H0 Z0 Fs0 H Z Fs) : Kp Z0 H0 H := fun a o e q => t.ev a o e fun i _ ha => by
  rcases q with q | q
  · exact g.nz i a ha q
  · obtain ⟨o', e', c⟩ := g.isl i a ha
    rw [e] at e'; cases e'
    exact q c
theorem Good.ext {H' : Hp} (g : Good K Z H σ s Fs) (h : (H' = H) ∨ ∃ p o, H p = none ∧ H' = upd H p (.tup o)) : Good K Z H' σ s Fs := by
  rcases h with rfl | ⟨p, o, hp, rfl⟩
  · exact g
  · exact g.laid hp
theorem Tr.ext {H' : Hp} (t : Tr mv H0 Z0 Fs0 H Z Fs) (h : (H' = H) ∨ ∃ p o, H p = none ∧ H' = upd H p (.tup o)) : Tr mv H0 Z0 Fs0 H' Z Fs := by
  rcases h with rfl | ⟨p, o, hp, rfl⟩
  · exact t
  · refine ⟨fun a u e n => ?_, fun a e => ?_, t.zm, t.zb, t.fo, t.fb⟩
    · have e1 := t.ev a u e n
      rw [upd_ne (ne_of_none e1 hp)]; exact e1
    · by_cases q : a = p
      · subst q; rw [upd_same] at e; cases e
      · rw [upd_ne q] at e; exact t.dom a e
/-- an item bound -/
theorem bound {b : Bd} {d : PyData} {v : V} (p : PostS K asg mv σ H0 Z0 Fs0 σ1 s1 H1 Z1 Fs1) (g : PostG K tgs [] σ1 Fs1 σ2 s2 H1 Z1 Fs2) : PostS K (asg ++ tgs) (mv ++ tgs) σ H0 Z0 Fs0 σ2 s2 H1 Z1 Fs2 := by
  refine ⟨⟨fun a o e n => p.tr.ev a o e fun i hi => n i (List.mem_append_left _ hi), p.tr.dom, p.tr.zm, fun a z => (p.tr.zb a z).imp id fun z => z.imp id fun ⟨i, hi, q⟩ => ⟨i, List.mem_append_left _ hi, q⟩, fun i hi => ?_, fun i hi a ha => ?_⟩, g.good, fun i hi => (g.st i fun z => hi (List.mem_append_right _ z)).trans (p.st i fun z => hi (List.mem_append_left _ z)), g.ln.trans p.ln⟩
  · rw [g.fo i fun z => hi (List.mem_append_right _ z)]
    exact p.tr.fo i fun z => hi (List.mem_append_left _ z)
  · by_cases m : i ∈ tgs
    · cases g.fb i m a ha
    · rw [g.fo i m] at ha
      by_cases m2 : i ∈ mv
      · exact (p.tr.fb i m2 a ha).imp id fun ⟨j, hj, q⟩ => ⟨j, List.mem_append_left _ hj, q⟩
      · rw [p.tr.fo i m2] at ha
        exact .inr ⟨i, hi, ha⟩
theorem held0 {v : V} {d : PyData} (h : Own K Z H 0 v d []) : Held (POne K v (d, 0)) [] H Z Fs [] := ⟨Own.zmono _ h fun a z => .inl z, List.nodup_nil, fun a ha => (by cases ha), fun a ha => (by cases ha)⟩
theorem app4 {α : Type} {a b : List α} {x : α} (h : x ∈ (a ++ b) ++ b) : x ∈ a ++ b := by
  rcases List.mem_append.mp h with h | h
  · exact h
  · exact List.mem_append_right _ h
/-- the loop itself, from a state in which what is walked is shared -/
theorem loop_ok {b : Bd} {body : Sx} {J : It} {ds : List PyData} {fl : Fl} {sf : SD} {D : Ends} {aB mB : List Nat} (g0 : Good K Z0 H0 σ s Fs0) (ok : ItOk K Z0 J ds H0) (ev : loopF b body ds s = .ok (fl, sf)) (E : EndS K (tgs ++ aB) (tgs ++ mB) σ H0 Z0 Fs0 sf D fl) :
    ∃ W : Nat → Nat → L2.St → Hp → Prop, (∃ m, W 0 m σ H0) ∧ ∀ i m σ H, W i m σ H →
      (J.stop i H ∧ D.nx σ H) ∨ (J.go i H ∧ ∃ N : L2.St → Hp → Prop, (∀ σ' H', N σ' H' → ∃ m', m' < m ∧ W (i + 1) m' σ' H') ∧ ∀ x H', J.yld i H x H' → tG K tgs b x σ H' fun σ2 H2 => tS K aB mB body { D with nx := N, ct := N, bk := D.nx } σ2 H2) := by
  refine ⟨fun i m σ' H' => m = ds.length - i ∧ i ≤ ds.length ∧ ∃ Z' s' Fs', PostS K (tgs ++ aB) (tgs ++ mB) σ H0 Z0 Fs0 σ' s' H' Z' Fs' ∧ loopF b body (ds.drop i) s' = .ok (fl, sf), ⟨ds.length, rfl, Nat.zero_le _, Z0, s, Fs0, ⟨Tr.refl _, g0, fun _ _ => rfl, rfl⟩, ev⟩, ?_⟩
  rintro i m σ1 H1 ⟨rfl, hi, Z1, s1, Fs1, p, ev⟩
  have kp := Kp.of g0 p.tr
  obtain ⟨go, stop⟩ := ok H1 kp
  by_cases lt : i < ds.length
  · have ed : ds[i]? = some ds[i] := List.getElem?_eq_getElem lt
    rw [List.drop_eq_getElem_cons lt] at ev
    unfold loopF at ev
    obtain ⟨s2, eb, ev⟩ := Res.bind_eq_ok.mp ev
    obtain ⟨⟨fl1, s3⟩, eB, ev⟩ := Res.bind_eq_ok.mp ev
    obtain ⟨hgo, yl⟩ := go i _ ed
    refine .inr ⟨hgo, fun σ' H' => ds.length - (i + 1) = ds.length - (i + 1) ∧ i + 1 ≤ ds.length ∧ ∃ Z' s' Fs', PostS K (tgs ++ aB) (tgs ++ mB) σ H0 Z0 Fs0 σ' s' H' Z' Fs' ∧ loopF b body (ds.drop (i + 1)) s' = .ok (fl, sf), fun σ' H' h => ⟨ds.length - (i + 1), by omega, h⟩, fun x H' y => ?_⟩
    obtain ⟨ow, ex⟩ := yl x H' y
    have g1 := p.good.ext ex
    refine ⟨Z1, s1, Fs1, (ds[i], 0), s2, [], g1, held0 (Own.zmono _ ow p.tr.zm), eb, fun σ2 Fs2 pg => ?_⟩
    have p1 : PostS K (tgs ++ aB) (tgs ++ mB) σ H0 Z0 Fs0 σ2 s2 H' Z1 Fs2 := by
      have := bound (b := b) (d := ds[i]) (v := x) (⟨p.tr.ext ex, g1, p.st, p.ln⟩ : PostS K (tgs ++ aB) (tgs ++ mB) σ H0 Z0 Fs0 σ1 s1 H' Z1 Fs1) pg
      exact this.weak (fun j hj => (List.mem_append.mp hj).elim id fun h => List.mem_append_left _ h) (fun j hj => (List.mem_append.mp hj).elim id fun h => List.mem_append_left _ h)
    have glue : ∀ {σ3 : L2.St} {H3 : Hp} {Z3 : Zs} {Fs3 : Fp}, PostS K aB mB σ2 H' Z1 Fs2 σ3 s3 H3 Z3 Fs3 → PostS K (tgs ++ aB) (tgs ++ mB) σ H0 Z0 Fs0 σ3 s3 H3 Z3 Fs3 := fun q => (p1.trans q).weak (fun j h => app4 h) (fun j h => app4 h)
    refine ⟨Z1, s2, Fs2, fl1, s3, p1.good, eB, ?_⟩
    cases fl1 with
    | next => exact fun σ3 H3 Z3 Fs3 q => ⟨rfl, lt, Z3, s3, Fs3, glue q, ev⟩
    | cont => exact fun σ3 H3 Z3 Fs3 q => ⟨rfl, lt, Z3, s3, Fs3, glue q, ev⟩
    | brk =>
      cases ev
      exact fun σ3 H3 Z3 Fs3 q => E σ3 H3 Z3 Fs3 (glue q)
    | ret x =>
      cases ev
      refine fun v σ3 H3 Z3 Fs3 F q h n => E v σ3 H3 Z3 Fs3 F (glue q) h fun a ha => ?_
      exact (newBack p1.tr (n a ha)).imp id fun ⟨j, hj, z⟩ => ⟨j, app4 hj, z⟩
  · have e : i = ds.length := by omega
    subst e
    rw [List.drop_length] at ev
    cases ev
    exact .inl ⟨stop _ (Nat.le_refl _), E σ1 H1 Z1 Fs1 p⟩
end
section
variable {X : Cx} {e tg iter : Expr} {pos : Pos} {fv mv tgs aB mB : List Nat} {b : Bd} {it : Src} {body : Sx} {sts : List Stmt}
theorem rs_for (hp : PassesOwn (model X.prog X.w) X.A X.env X.xe) (hc : X.calm = true) (hi : PI X tg iter (tI X.K fv mv it)) (hg : PG X tg (tG X.K tgs b)) (hb : PSs X sts (tS X.K aB mB body)) (hs : ∀ x, foldedSetIterable iter X.env x = pure x := by intro _; rfl) :
    PS X (.For tg iter sts [] pos) (tS X.K (tgs ++ aB) ((mv ++ fv) ++ (tgs ++ mB)) (sFor b fv it body)) := by
  refine PS.of (ps_for hp hc hi hg hb hs) fun D σ H h => ?_
  obtain ⟨Z, s, Fs, fl, s', gd, e, q⟩ := h
  unfold sFor at e
  obtain ⟨⟨ds, s1⟩, ea, e⟩ := Res.bind_eq_ok.mp e
  refine ⟨Z, s, Fs, ds, s1, gd, ea, fun J H1 Z1 Fs1 p ok => ?_⟩
  have pd : PostS X.K [] (mv ++ fv) σ H Z Fs σ (demote fv s1) H1 (Zf Z1 Fs1 fv) (fun i => if i ∈ fv then [] else Fs1 i) := ⟨p.tr.trans (Tr.demote fv) (fun i hi => List.mem_append_left _ hi) (fun i hi => List.mem_append_right _ hi), p.good.demote fv, fun _ _ => rfl, rfl⟩
  exact loop_ok pd.good ok e (EndS.trans (a1 := []) pd q)
theorem rs_forR (hp : PassesOwn (model X.prog X.w) X.A X.env X.xe) (hc : X.calm = true) (hi : PI X tg iter (tI X.K fv mv it)) (hg : PG X tg (tG X.K tgs b)) (hb : PSs X sts (tS X.K aB mB body)) (dj : djn aB mB = true ∨ True) (d : djn fv (tgs ++ aB ++ mB) = true := by rfl) (hs : ∀ x, foldedSetIterable iter X.env x = pure x := by intro _; rfl) :
    PS X (.For tg iter sts [] pos) (tS X.K (tgs ++ aB) ((mv ++ fv) ++ (tgs ++ (aB ++ mB))) (sForR b fv (tgs ++ (aB ++ mB)) it body)) := by
  refine PS.of (ps_for hp hc hi hg hb hs) fun D σ H h => ?_
  obtain ⟨Z, s, Fs, fl, s', gd, e, q⟩ := h
  unfold sForR at e
  obtain ⟨⟨ds, s1⟩, ea, e⟩ := Res.bind_eq_ok.mp e
  obtain ⟨⟨fl1, s2⟩, el, e⟩ := Res.bind_eq_ok.mp e
  have dd := djn_ok d
  refine ⟨Z, s, Fs, ds, s1, gd, ea, fun J H1 Z1 Fs1 p ok => ?_⟩
  let Z0 : Zs := Zf Z1 Fs1 fv
  let Fs0 : Fp := fun i => if i ∈ fv then [] else Fs1 i
  have g0 : Good X.K Z0 H1 σ (demote fv s1) Fs0 := p.good.demote fv
  have pd : PostS X.K [] (mv ++ fv) σ H Z Fs σ (demote fv s1) H1 Z0 Fs0 := ⟨p.tr.trans (Tr.demote fv) (fun i hi => List.mem_append_left _ hi) (fun i hi => List.mem_append_right _ hi), g0, fun _ _ => rfl, rfl⟩
  have wk : ∀ {σ' : L2.St} {s' : SD} {H' : Hp} {Z' : Zs} {Fs' : Fp}, PostS X.K (tgs ++ aB) (tgs ++ mB) σ H1 Z0 Fs0 σ' s' H' Z' Fs' → PostS X.K (tgs ++ aB) (tgs ++ (aB ++ mB)) σ H1 Z0 Fs0 σ' s' H' Z' Fs' := fun q => q.weak (fun i h => h) fun i h => (List.mem_append.mp h).elim (fun h => List.mem_append_left _ h) fun h => List.mem_append_right _ (List.mem_append_right _ h)
  -- all but next: nothing is given back
  have other : fl1 ≠ .next → EndS X.K (tgs ++ aB) (tgs ++ mB) σ H1 Z0 Fs0 s2 D fl1 := fun n => by
    have e' : fl = fl1 ∧ s' = s2 := by
      cases fl1 with
      | next => exact absurd rfl n
      | brk => cases e; exact ⟨rfl, rfl⟩
      | cont => cases e; exact ⟨rfl, rfl⟩
      | ret x => cases e; exact ⟨rfl, rfl⟩
    obtain ⟨rfl, rfl⟩ := e'
    refine EndS.weak (EndS.trans (a1 := []) pd q) (fun i h => h) fun i h => (List.mem_append.mp h).elim (fun h => List.mem_append_left _ h) fun h => List.mem_append_right _ (List.mem_append_right _ h)
  refine loop_ok g0 ok el ?_
  cases fl1 with
  | brk => exact other (by intro h; cases h)
  | cont => exact other (by intro h; cases h)
  | ret x => exact other (by intro h; cases h)
  | next =>
    cases e
    intro σ2 H2 Z2 Fs2 p2'
    have p2 := wk p2'
    let ch := tgs ++ (aB ++ mB)
    have fvch : ∀ i ∈ fv, i ∉ ch := fun i hi h => by
      refine dd i hi ?_
      rcases List.mem_append.mp h with h | h
      · exact List.mem_append_left _ (List.mem_append_left _ h)
      · rcases List.mem_append.mp h with h | h
        · exact List.mem_append_left _ (List.mem_append_right _ h)
        · exact List.mem_append_right _ h
    have asgch : ∀ i, i ∉ ch → σ2[i]? = σ[i]? := fun i hi => p2.st i fun h => hi ((List.mem_append.mp h).elim (fun h => List.mem_append_left _ h) fun h => List.mem_append_right _ (List.mem_append_left _ h))
    have f01 : ∀ i a, a ∈ Fs0 i → a ∈ Fs1 i := fun i a ha => by
      have ha' : a ∈ (if i ∈ fv then [] else Fs1 i) := ha
      by_cases m : i ∈ fv
      · rw [if_pos m] at ha'; cases ha'
      · rw [if_neg m] at ha'; exact ha'
    -- what the unchanged slots hold stays as it was
    have keep1 : ∀ a o, H1 a = some o → (∀ i ∈ ch, a ∉ Fs1 i) → H2 a = some o := fun a o e n => p2.tr.ev a o e fun i hi ha => n i hi (f01 i a ha)
    let Z3 : Zs := fun a => Z2 a ∧ ∀ i, i ∉ ch → a ∉ Fs1 i
    let Fs3 : Fp := fun i => if i ∈ ch then Fs2 i else Fs1 i
    have fb2 : ∀ i ∈ ch, ∀ a ∈ Fs2 i, H1 a = none ∨ ∃ j ∈ ch, a ∈ Fs1 j := fun i hi a ha => (p2.tr.fb i hi a ha).imp id fun ⟨j, hj, z⟩ => ⟨j, hj, f01 j a z⟩
    have z12 : ∀ a, Z1 a → Z2 a := fun a z => p2.tr.zm a (.inl z)
    refine q σ2 H2 Z3 Fs3 ⟨⟨fun a o e n => ?_, fun a e => p.tr.dom a (p2.tr.dom a e), fun a z => ⟨z12 a (p.tr.zm a z), fun i _ ha => p.good.nz i a ha (p.tr.zm a z)⟩, fun a z => ?_, fun i hi => ?_, fun i hi a ha => ?_⟩, ⟨?_, fun i d k es => ?_, fun i => ?_, fun i j ne a ha hb => ?_, fun i a ha z => ?_, fun i a ha => ?_, fun a z => p2.good.zt a z.1⟩, fun i hi => p2.st i hi, p2.ln⟩
    · refine keep1 a o (p.tr.ev a o e fun i hi => n i (List.mem_append_left _ (List.mem_append_left _ hi))) fun i hi ha => ?_
      by_cases m : i ∈ mv
      · rcases p.tr.fb i m a ha with z | ⟨j, hj, z⟩
        · rw [e] at z; cases z
        · exact n j (List.mem_append_left _ (List.mem_append_left _ hj)) z
      · rw [p.tr.fo i m] at ha
        exact n i (List.mem_append_right _ hi) ha
    · obtain ⟨z, zn⟩ := z
      rcases p2.tr.zb a z with (z | ⟨i, hi, z⟩) | z | ⟨i, hi, z⟩
      · exact (p.tr.zb a z).imp id fun z => z.imp id fun ⟨j, hj, z⟩ => ⟨j, List.mem_append_left _ (List.mem_append_left _ hj), z⟩
      · exact absurd z (zn i (fvch i hi))
      · exact .inr (.inl (p.tr.dom a z))
      · have z' := f01 i a z
        by_cases m : i ∈ mv
        · exact .inr ((p.tr.fb i m a z').imp id fun ⟨j, hj, z⟩ => ⟨j, List.mem_append_left _ (List.mem_append_left _ hj), z⟩)
        · rw [p.tr.fo i m] at z'
          exact .inr (.inr ⟨i, List.mem_append_right _ hi, z'⟩)
    · have nc : i ∉ ch := fun h => hi (List.mem_append_right _ h)
      show (if i ∈ ch then Fs2 i else Fs1 i) = Fs i
      rw [if_neg nc]
      exact p.tr.fo i fun h => hi (List.mem_append_left _ (List.mem_append_left _ h))
    · have up : ∀ j, a ∈ Fs1 j → H a = none ∨ ∃ l ∈ mv ++ fv ++ (tgs ++ (aB ++ mB)), a ∈ Fs l ∨ (l = j ∧ a ∈ Fs l) := fun j hj => by
        by_cases m : j ∈ mv
        · exact (p.tr.fb j m a hj).imp id fun ⟨l, hl, z⟩ => ⟨l, List.mem_append_left _ (List.mem_append_left _ hl), .inl z⟩
        · by_cases m2 : j ∈ mv ++ fv ++ (tgs ++ (aB ++ mB))
          · rw [p.tr.fo j m] at hj
            exact .inr ⟨j, m2, .inl hj⟩
          · exfalso
            have ha' : a ∈ (if i ∈ ch then Fs2 i else Fs1 i) := ha
            by_cases mi : i ∈ ch
            · rw [if_pos mi] at ha'
              rcases fb2 i mi a ha' with z | ⟨l, hl, z⟩
              · obtain ⟨o, e, _⟩ := p.good.isl j a hj; rw [z] at e; cases e
              · exact p.good.dj j l (fun e => m2 (List.mem_append_right _ (e ▸ hl))) a hj z
            · rw [if_neg mi] at ha'
              exact p.good.dj j i (fun e => m2 (e ▸ hi)) a hj ha'
      have fin : ∀ j, a ∈ Fs1 j → H a = none ∨ ∃ l ∈ mv ++ fv ++ (tgs ++ (aB ++ mB)), a ∈ Fs l := fun j hj => (up j hj).imp id fun ⟨l, hl, z⟩ => ⟨l, hl, z.elim id fun z => z.2⟩
      have ha' : a ∈ (if i ∈ ch then Fs2 i else Fs1 i) := ha
      by_cases mi : i ∈ ch
      · rw [if_pos mi] at ha'
        rcases fb2 i mi a ha' with z | ⟨l, hl, z⟩
        · exact .inl (p.tr.dom a z)
        · exact fin l z
      · rw [if_neg mi] at ha'
        exact fin i ha'
    · unfold restore
      rw [List.length_mapIdx, p.good.len, p2.ln]
    · unfold restore at es
      rw [List.getElem?_mapIdx] at es
      cases q1 : s1[i]? with
      | none => rw [q1] at es; cases es
      | some o1 =>
        rw [q1] at es
        have es' : (if i ∈ ch then keepFull ((s2[i]?).getD none) else o1) = some (d, k) := Option.some.inj es
        show ∃ v, σ2[i]? = some (some v) ∧ Own X.K Z3 H2 k v d (if i ∈ ch then Fs2 i else Fs1 i)
        by_cases m : i ∈ ch
        · rw [if_pos m] at es' ⊢
          unfold keepFull at es'
          split at es'
          · next y ey =>
            split at es'
            · next f =>
              cases es'
              have e2 : s2[i]? = some (some (d, k)) := by
                cases q2 : s2[i]? with
                | none => rw [q2] at ey; cases ey
                | some o => rw [q2] at ey; exact congrArg some ey
              obtain ⟨v, ev, ow⟩ := p2.good.own i d k e2
              exact ⟨v, ev, Own.lift d ow (full_iff.mp f) (full_iff.mp f)⟩
            · cases es'
          · cases es'
        · rw [if_neg m] at es' ⊢
          subst es'
          obtain ⟨v, ev, ow⟩ := p.good.own i d k q1
          refine ⟨v, (asgch i m).trans ev, Own.zmono d (Own.keep d ow fun a o e z => keep1 a o e fun j hj ha => ?_) fun a z => ⟨z12 a z, fun j _ ha => p.good.nz j a ha z⟩⟩
          rcases z with (z | z) | z
          · exact p.good.dj i j (fun e => m (e ▸ hj)) a z ha
          · exact p.good.nz j a ha z
          · obtain ⟨o', e', c⟩ := p.good.isl j a ha
            rw [e] at e'; cases e'
            exact z c
    · show (if i ∈ ch then Fs2 i else Fs1 i).Nodup
      by_cases m : i ∈ ch
      · rw [if_pos m]; exact p2.good.nd i
      · rw [if_neg m]; exact p.good.nd i
    · have ha' : a ∈ (if i ∈ ch then Fs2 i else Fs1 i) := ha
      have hb' : a ∈ (if j ∈ ch then Fs2 j else Fs1 j) := hb
      have cross : ∀ {i j : Nat}, i ∈ ch → j ∉ ch → a ∈ Fs2 i → a ∈ Fs1 j → False := fun {i j} mi mj h1 h2 => by
        rcases fb2 i mi a h1 with z | ⟨l, hl, z⟩
        · obtain ⟨o, e, _⟩ := p.good.isl j a h2; rw [z] at e; cases e
        · exact p.good.dj j l (fun e => mj (e ▸ hl)) a h2 z
      by_cases m : i ∈ ch
      · rw [if_pos m] at ha'
        by_cases m2 : j ∈ ch
        · rw [if_pos m2] at hb'; exact p2.good.dj i j ne a ha' hb'
        · rw [if_neg m2] at hb'; exact cross m m2 ha' hb'
      · rw [if_neg m] at ha'
        by_cases m2 : j ∈ ch
        · rw [if_pos m2] at hb'; exact cross m2 m hb' ha'
        · rw [if_neg m2] at hb'; exact p.good.dj i j ne a ha' hb'
    · have ha' : a ∈ (if i ∈ ch then Fs2 i else Fs1 i) := ha
      by_cases m : i ∈ ch
      · rw [if_pos m] at ha'; exact p2.good.nz i a ha' z.1
      · rw [if_neg m] at ha'; exact z.2 i m ha'
    · have ha' : a ∈ (if i ∈ ch then Fs2 i else Fs1 i) := ha
      by_cases m : i ∈ ch
      · rw [if_pos m] at ha'; exact p2.good.isl i a ha'
      · rw [if_neg m] at ha'
        obtain ⟨o, e, c⟩ := p.good.isl i a ha'
        exact ⟨o, keep1 a o e fun j hj h => p.good.dj i j (fun e => m (e ▸ hj)) a ha' h, c⟩
end
end Sq
end

section
namespace Sq
open PySem PySem.Spec L2
/-! ### while -/
section
variable {X : Cx} {ce : Expr} {pos : Pos} {mC aB mB : List Nat} {c : Tst} {body : Sx} {sts : List Stmt}
theorem rs_while (fuel : Nat) (hp : PassesOwn (model X.prog X.w) X.A X.env X.xe) (hc : PT X ce (tT X.K mC c)) (hb : PSs X sts (tS X.K aB mB body)) : PS X (.While ce sts [] pos) (tS X.K aB (mC ++ mB) (sWhile fuel c body)) := by
  refine PS.of (ps_while hp hc hb) fun D σ H h => ?_
  obtain ⟨Z, s, Fs, fl, sf, gd, e, q⟩ := h
  unfold sWhile at e
  refine ⟨fun m σ' H' => ∃ Z' s' Fs', PostS X.K aB (mC ++ mB) σ H Z Fs σ' s' H' Z' Fs' ∧ loopW c body m s' = .ok (fl, sf), ⟨fuel, Z, s, Fs, ⟨Tr.refl _, gd, fun _ _ => rfl, rfl⟩, e⟩, ?_⟩
  rintro m σ1 H1 ⟨Z1, s1, Fs1, p1, e1⟩
  cases m with
  | zero => cases e1
  | succ m =>
    unfold loopW at e1
    obtain ⟨⟨t, s2⟩, ec, e1⟩ := Res.bind_eq_ok.mp e1
    refine ⟨Z1, s1, Fs1, t, s2, p1.good, ec, fun H2 Z2 Fs2 p2 => ?_⟩
    have p12 : PostS X.K aB (mC ++ mB) σ H Z Fs σ1 s2 H2 Z2 Fs2 := (p1.trans p2.stm).weak (fun i h => by simpa using h) (fun i h => (List.mem_append.mp h).elim id fun h => List.mem_append_left _ h)
    cases t with
    | true =>
      show if true = true then _ else _
      rw [if_pos rfl]
      obtain ⟨⟨fl1, s3⟩, eb, e1⟩ := Res.bind_eq_ok.mp (show (body s2 >>= _) = _ from e1)
      refine ⟨fun σ' H' => ∃ Z' s' Fs', PostS X.K aB (mC ++ mB) σ H Z Fs σ' s' H' Z' Fs' ∧ loopW c body m s' = .ok (fl, sf), fun σ' H' h => ⟨m, by omega, h⟩, Z2, s2, Fs2, fl1, s3, p2.good, eb, ?_⟩
      have glue : ∀ {σ3 : L2.St} {H3 : Hp} {Z3 : Zs} {Fs3 : Fp}, PostS X.K aB mB σ1 H2 Z2 Fs2 σ3 s3 H3 Z3 Fs3 → PostS X.K aB (mC ++ mB) σ H Z Fs σ3 s3 H3 Z3 Fs3 := fun q => (p12.trans q).weak (fun i h => (List.mem_append.mp h).elim id id) (fun i h => (List.mem_append.mp h).elim id fun h => List.mem_append_right _ h)
      cases fl1 with
      | next => exact fun σ3 H3 Z3 Fs3 p3 => ⟨Z3, s3, Fs3, glue p3, e1⟩
      | cont => exact fun σ3 H3 Z3 Fs3 p3 => ⟨Z3, s3, Fs3, glue p3, e1⟩
      | brk => cases e1; exact fun σ3 H3 Z3 Fs3 p3 => q σ3 H3 Z3 Fs3 (glue p3)
      | ret x =>
        cases e1
        refine fun v σ3 H3 Z3 Fs3 F p3 h n => q v σ3 H3 Z3 Fs3 F (glue p3) h fun a ha => ?_
        exact (newBack p12.tr (n a ha)).imp id fun ⟨j, hj, z⟩ => ⟨j, (List.mem_append.mp hj).elim id fun h => List.mem_append_right _ h, z⟩
    | false =>
      show if false = true then _ else _
      rw [if_neg Bool.false_ne_true]
      cases e1
      exact q σ1 H2 Z2 Fs2 p12
end
/-! ### list comprehensions -/
def wipeD (vs : List Nat) (s : SD) : SD := s.mapIdx fun i o => if i ∈ vs then none else o
def loopC (vs : List Nat) (b : Bd) (c : Tst) (a : Ex) : List PyData → SD → Res (List DV × SD)
  | [], s => .ok ([], s)
  | d :: ds, s => do
    let s ← b (d, 0) (wipeD vs s)
    let (t, s) ← c s
    if t then do
      let (y, s) ← a s
      let (ys, s) ← loopC vs b c a ds s
      .ok (y :: ys, s)
    else loopC vs b c a ds s
def tYes2 : Tst := fun s => .ok (true, s)
def evLc (vs fv mvE : List Nat) (b : Bd) (it : Src) (c : Tst) (a : Ex) : Ex := fun s => do
  let (ds, s1) ← it s
  let (ys, s2) ← loopC vs b c a ds (demote fv s1)
  if small ys.length then .ok ((.list (ys.map (·.1)), minAll (ys.map dep) + 1), restore mvE s1 s2) else .bad
section
variable {K : PySem.W.Frag} {Z Z1 Z2 : Zs} {H H1 H2 : Hp} {Fs Fs0 Fs1 Fs2 : Fp} {σ σ1 σ2 σ' : L2.St} {s s1 s2 : SD} {F : List Addr} {fv ch vs : List Nat}
/-- what was left alone is given back -/
theorem restore_ok (g1 : Good K Z1 H1 σ s1 Fs1) (fvch : ∀ i ∈ fv, i ∉ ch) (f01 : ∀ i a, a ∈ Fs0 i → a ∈ Fs1 i) (t : Tr ch H1 (Zf Z1 Fs1 fv) Fs0 H2 Z2 Fs2) (g2 : Good K Z2 H2 σ2 s2 Fs2) (hl : σ'.length = σ.length) (h1 : ∀ i, i ∉ ch → σ'[i]? = σ[i]?) (h2 : ∀ i ∈ ch, σ'[i]? = σ2[i]?) :
    Tr ch H1 Z1 Fs1 H2 (fun a => Z2 a ∧ ∀ i, i ∉ ch → a ∉ Fs1 i) (fun i => if i ∈ ch then Fs2 i else Fs1 i) ∧ Good K (fun a => Z2 a ∧ ∀ i, i ∉ ch → a ∉ Fs1 i) H2 σ' (restore ch s1 s2) (fun i => if i ∈ ch then Fs2 i else Fs1 i) := by
  have keep1 : ∀ a o, H1 a = some o → (∀ i ∈ ch, a ∉ Fs1 i) → H2 a = some o := fun a o e n => t.ev a o e fun i hi ha => n i hi (f01 i a ha)
  have fb2 : ∀ i ∈ ch, ∀ a ∈ Fs2 i, H1 a = none ∨ ∃ j ∈ ch, a ∈ Fs1 j := fun i hi a ha => (t.fb i hi a ha).imp id fun ⟨j, hj, z⟩ => ⟨j, hj, f01 j a z⟩
  have z12 : ∀ a, Z1 a → Z2 a := fun a z => t.zm a (.inl z)
  refine ⟨⟨keep1, t.dom, fun a z => ⟨z12 a z, fun i _ ha => g1.nz i a ha z⟩, fun a z => ?_, fun i hi => if_neg hi, fun i hi a ha => ?_⟩, ⟨?_, fun i d k es => ?_, fun i => ?_, fun i j ne a ha hb => ?_, fun i a ha z => ?_, fun i a ha => ?_, fun a z => g2.zt a z.1⟩⟩
  · obtain ⟨z, zn⟩ := z
    rcases t.zb a z with (z | ⟨i, hi, z⟩) | z | ⟨i, hi, z⟩
    · exact .inl z
    · exact absurd z (zn i (fvch i hi))
    · exact .inr (.inl z)
    · exact .inr (.inr ⟨i, hi, f01 i a z⟩)
  · rw [if_pos hi] at ha
    exact fb2 i hi a ha
  · unfold restore
    rw [List.length_mapIdx, g1.len, hl]
  · unfold restore at es
    rw [List.getElem?_mapIdx] at es
    cases q1 : s1[i]? with
    | none => rw [q1] at es; cases es
    | some o1 =>
      rw [q1] at es
      have es' : (if i ∈ ch then keepFull ((s2[i]?).getD none) else o1) = some (d, k) := Option.some.inj es
      by_cases m : i ∈ ch
      · rw [if_pos m] at es' ⊢
        unfold keepFull at es'
        split at es'
        · next y ey =>
          split at es'
          · next f =>
            cases es'
            have e2 : s2[i]? = some (some (d, k)) := by
              cases q2 : s2[i]? with
              | none => rw [q2] at ey; cases ey
              | some o => rw [q2] at ey; exact congrArg some ey
            obtain ⟨v, ev, ow⟩ := g2.own i d k e2
            exact ⟨v, (h2 i m).trans ev, Own.lift d ow (full_iff.mp f) (full_iff.mp f)⟩
          · cases es'
        · cases es'
      · rw [if_neg m] at es' ⊢
        subst es'
        obtain ⟨v, ev, ow⟩ := g1.own i d k q1
        refine ⟨v, (h1 i m).trans ev, Own.zmono d (Own.keep d ow fun a o e z => keep1 a o e fun j hj ha => ?_) fun a z => ⟨z12 a z, fun j _ ha => g1.nz j a ha z⟩⟩
        rcases z with (z | z) | z
        · exact g1.dj i j (fun e => m (e ▸ hj)) a z ha
        · exact g1.nz j a ha z
        · obtain ⟨o', e', c⟩ := g1.isl j a ha
          rw [e] at e'; cases e'
          exact z c
  · by_cases m : i ∈ ch
    · rw [if_pos m]; exact g2.nd i
    · rw [if_neg m]; exact g1.nd i
  · have cross : ∀ {i j : Nat}, i ∈ ch → j ∉ ch → a ∈ Fs2 i → a ∈ Fs1 j → False := fun {i j} mi mj h1 h2 => by
      rcases fb2 i mi a h1 with z | ⟨l, hl, z⟩
      · obtain ⟨o, e, _⟩ := g1.isl j a h2; rw [z] at e; cases e
      · exact g1.dj j l (fun e => mj (e ▸ hl)) a h2 z
    by_cases m : i ∈ ch
    · rw [if_pos m] at ha
      by_cases m2 : j ∈ ch
      · rw [if_pos m2] at hb; exact g2.dj i j ne a ha hb
      · rw [if_neg m2] at hb; exact cross m m2 ha hb
    · rw [if_neg m] at ha
      by_cases m2 : j ∈ ch
      · rw [if_pos m2] at hb; exact cross m2 m hb ha
      · rw [if_neg m2] at hb; exact g1.dj i j ne a ha hb
  · by_cases m : i ∈ ch
    · rw [if_pos m] at ha; exact g2.nz i a ha z.1
    · rw [if_neg m] at ha; exact z.2 i m ha
  · by_cases m : i ∈ ch
    · rw [if_pos m] at ha; exact g2.isl i a ha
    · rw [if_neg m] at ha
      obtain ⟨o, e, c⟩ := g1.isl i a ha
      exact ⟨o, keep1 a o e fun j hj h => g1.dj i j (fun e => m (e ▸ hj)) a ha h, c⟩
theorem wipe_get (σ : L2.St) (i : Nat) : ∀ vs : List Nat, i ∉ vs → (wipe σ vs)[i]? = σ[i]?
  | [], _ => rfl
  | v :: vs, h => by
    unfold wipe
    rw [List.getElem?_set_ne fun e => h (by rw [e]; exact List.mem_cons_self ..)]
    exact wipe_get σ i vs fun m => h (List.mem_cons_of_mem _ m)
theorem wipe_in (σ : L2.St) (i : Nat) : ∀ vs : List Nat, i ∈ vs → i < σ.length → (wipe σ vs)[i]? = some none
  | [], h, _ => by cases h
  | v :: vs, h, l => by
    unfold wipe
    by_cases q : v = i
    · subst q
      exact List.getElem?_set_self (by rw [wipe_length]; exact l)
    · rw [List.getElem?_set_ne q]
      rcases List.mem_cons.mp h with e | h
      · exact absurd e.symm q
      · exact wipe_in σ i vs h l
theorem wipe_eq (h : σ2.length = σ.length) (e : ∀ i, i ∉ vs → σ2[i]? = σ[i]?) : wipe σ2 vs = wipe σ vs := by
  refine List.ext_getElem? fun i => ?_
  by_cases m : i ∈ vs
  · by_cases l : i < σ.length
    · rw [wipe_in σ2 i vs m (by omega), wipe_in σ i vs m l]
    · rw [List.getElem?_eq_none (by rw [wipe_length]; omega), List.getElem?_eq_none (by rw [wipe_length]; omega)]
  · rw [wipe_get σ2 i vs m, wipe_get σ i vs m, e i m]
/-- the block's own names forgotten -/
theorem Good.wipe (g : Good K Z H σ2 s Fs) (hl : σ1.length = σ2.length) (e : ∀ i, i ∉ vs → σ1[i]? = σ2[i]?) : Good K Z H σ1 (wipeD vs s) Fs := by
  refine ⟨by unfold wipeD; rw [List.length_mapIdx, g.len, hl], fun i d k es => ?_, g.nd, g.dj, g.nz, g.isl, g.zt⟩
  unfold wipeD at es
  rw [List.getElem?_mapIdx] at es
  cases q1 : s[i]? with
  | none => rw [q1] at es; cases es
  | some o1 =>
    rw [q1] at es
    have es' : (if i ∈ vs then none else o1) = some (d, k) := Option.some.inj es
    by_cases m : i ∈ vs
    · rw [if_pos m] at es'; cases es'
    · rw [if_neg m] at es'
      subst es'
      obtain ⟨v, ev, ow⟩ := g.own i d k q1
      exact ⟨v, (e i m).trans ev, ow⟩
/-- an object beside all that is held is changed -/
theorem Good.beside {D : Addr} {l l' : List V} (g : Good K Z H σ s Fs) (hD : H D = some (.lst l)) (nF : ∀ i, D ∉ Fs i) (nZ : ¬ Z D) : Good K Z (upd H D (.lst l')) σ s Fs := by
  have kq : ∀ (S : Addr → Prop), (¬ S D) → Kp S H (upd H D (.lst l')) := fun S n a o e q => by
    rw [upd_ne]
    · exact e
    · rintro rfl
      rcases q with q | q
      · exact n q
      · rw [hD] at e; cases e; exact q trivial
  refine ⟨g.len, fun i d k e => ?_, g.nd, g.dj, g.nz, fun i a ha => ?_, fun a z => ?_⟩
  · obtain ⟨v, ev, ow⟩ := g.own i d k e
    exact ⟨v, ev, Own.keep d ow (kq _ fun z => z.elim (nF i) nZ)⟩
  · obtain ⟨o, e, c⟩ := g.isl i a ha
    exact ⟨o, by rw [upd_ne (show a ≠ D from fun z => nF i (z ▸ ha))]; exact e, c⟩
  · obtain ⟨o, e⟩ := g.zt a z
    exact ⟨o, by rw [upd_ne (show a ≠ D from fun q => nZ (q ▸ z))]; exact e⟩
theorem OwnL.app : ∀ {xs ys : List DV} {vs ws : List V} {F G : List Addr}, OwnL K Z H vs xs F → OwnL K Z H ws ys G → OwnL K Z H (vs ++ ws) (xs ++ ys) (F ++ G)
  | [], ys, vs, ws, F, G, h, h2 => by
    obtain ⟨rfl, rfl⟩ := h
    exact h2
  | x :: xs, ys, vs, ws, F, G, ⟨v, vs', F1, F2, e, h1, h2, e2⟩, h3 => by
    subst e e2
    exact ⟨v, vs' ++ ws, F1, F2 ++ G, rfl, h1, OwnL.app h2 h3, by rw [List.append_assoc]⟩
end
section
variable {X : Cx} {elt tg iter : Expr} {ifs : List Expr} {scope : Scope} {own : List (Str × Nat)} {pos : Pos} {fv mv tgs fvE mC mE : List Nat} {b : Bd} {it : Src} {c : Tst} {a : Ex}
theorem wipeD_out {vs ch : List Nat} {s1 s2 : SD} (h : ∀ i ∈ vs, i ∉ ch) : restore ch s1 (wipeD vs s2) = restore ch s1 s2 := by
  unfold restore
  refine List.ext_getElem? fun i => ?_
  rw [List.getElem?_mapIdx, List.getElem?_mapIdx]
  cases s1[i]? with
  | none => rfl
  | some o =>
    show some (if i ∈ ch then keepFull (((wipeD vs s2)[i]?).getD none) else o) = some (if i ∈ ch then keepFull ((s2[i]?).getD none) else o)
    by_cases m : i ∈ ch
    · rw [if_pos m, if_pos m]
      unfold wipeD
      rw [List.getElem?_mapIdx]
      cases s2[i]? with
      | none => rfl
      | some o2 =>
        show some (keepFull ((some (if i ∈ vs then none else o2)).getD none)) = _
        rw [if_neg fun z => h i z m]
    · rw [if_neg m, if_neg m]
/-- what the rules for comprehensions ask, from what it is worth -/
theorem lc_imp {K : PySem.W.Frag} {σ : L2.St} {H : Hp} {Q : VK} (hv : own.map (·.2) = tgs) (d1 : djn fv (mC ++ mE) = true) (d2 : djn fvE (mC ++ mE) = true) (d3 : djn tgs (mC ++ mE) = true)
    (h : tE K (fv ++ fvE) (mv ++ (mC ++ mE)) (evLc tgs fv (mC ++ mE) b it c a) σ H Q) : tLc (tI K fv mv it) (tG K tgs b) (tT K mC c) (tE K fvE mE a) (own.map (·.2)) σ H Q := by
  obtain ⟨Z, s, Fs, z, s', gd, e, q⟩ := h
  unfold evLc at e
  obtain ⟨⟨ds, s1⟩, ea, e⟩ := Res.bind_eq_ok.mp e
  obtain ⟨⟨ys, s2⟩, el, e⟩ := Res.bind_eq_ok.mp e
  simp only at e
  split at e
  · next sm =>
    cases e
    have sm := small_ok sm
    rw [hv]
    have fvch := djn_ok d1
    have fech := djn_ok d2
    have tgch := djn_ok d3
    refine ⟨Z, s, Fs, ds, s1, gd, ea, fun J H1 Z1 Fs1 p ok D hD => ?_⟩
    let Z0 : Zs := Zf Z1 Fs1 fv
    let Fs0 : Fp := fun i => if i ∈ fv ∨ i ∈ tgs then [] else Fs1 i
    have f01 : ∀ i a, a ∈ Fs0 i → a ∈ Fs1 i := fun i a ha => by
      have ha' : a ∈ (if i ∈ fv ∨ i ∈ tgs then [] else Fs1 i) := ha
      by_cases m : i ∈ fv ∨ i ∈ tgs
      · rw [if_pos m] at ha'; cases ha'
      · rw [if_neg m] at ha'; exact ha'
    have ft0 : ∀ i ∈ tgs, Fs0 i = [] := fun i hi => if_pos (.inr hi)
    have gd1 := p.good.demote fv
    have g0 : Good K Z0 H1 (wipe σ tgs) (wipeD tgs (demote fv s1)) Fs0 := by
      have gw := Good.wipe (vs := tgs) (σ1 := wipe σ tgs) gd1 (by rw [wipe_length]) fun i hi => wipe_get σ i tgs hi
      have sub : ∀ i a, a ∈ Fs0 i → a ∈ (fun i => if i ∈ fv then [] else Fs1 i) i := fun i a ha => by
        have ha' : a ∈ (if i ∈ fv ∨ i ∈ tgs then [] else Fs1 i) := ha
        show a ∈ (if i ∈ fv then [] else Fs1 i)
        by_cases m : i ∈ fv ∨ i ∈ tgs
        · rw [if_pos m] at ha'; cases ha'
        · rw [if_neg m] at ha'
          rw [if_neg fun h => m (.inl h)]
          exact ha'
      refine ⟨gw.len, fun i d k e => ?_, fun i => ?_, fun i j n a ha hb => gw.dj i j n a (sub i a ha) (sub j a hb), fun i a ha => gw.nz i a (sub i a ha), fun i a ha => gw.isl i a (sub i a ha), gw.zt⟩
      · obtain ⟨v, ev, ow⟩ := gw.own i d k e
        refine ⟨v, ev, ?_⟩
        have nt : i ∉ tgs := fun m => by
          unfold wipeD at e
          rw [List.getElem?_mapIdx] at e
          cases q1 : (demote fv s1)[i]? with
          | none => rw [q1] at e; cases e
          | some o =>
            rw [q1] at e
            have e' : (if i ∈ tgs then none else o) = some (d, k) := Option.some.inj e
            rw [if_pos m] at e'; cases e'
        have : Fs0 i = (fun i => if i ∈ fv then [] else Fs1 i) i := by
          show (if i ∈ fv ∨ i ∈ tgs then [] else Fs1 i) = (if i ∈ fv then [] else Fs1 i)
          by_cases m : i ∈ fv
          · rw [if_pos m, if_pos (.inl m)]
          · rw [if_neg m, if_neg fun h => h.elim m nt]
        rw [this]
        exact ow
      · show (if i ∈ fv ∨ i ∈ tgs then [] else Fs1 i).Nodup
        by_cases m : i ∈ fv ∨ i ∈ tgs
        · rw [if_pos m]; exact List.nodup_nil
        · rw [if_neg m]; exact p.good.nd i
    let ch := mC ++ mE
    -- between two turns
    let W : Nat → Hp → Prop := fun i H' => i ≤ ds.length ∧ ∃ Zb sb Fsb accV accX rest FA, Tr ch H1 Z0 Fs0 H' Zb Fsb ∧ Good K Zb H' (wipe σ tgs) (wipeD tgs sb) Fsb ∧ H' D = some (.lst accV) ∧ (∀ j, D ∉ Fsb j) ∧ ¬ Zb D ∧
      Held (PAll K accV accX) fvE H' Zb Fsb FA ∧ (∀ a ∈ FA, H1 a = none ∨ ∃ i ∈ ch, a ∈ Fs0 i) ∧ D ∉ FA ∧ loopC tgs b c a (ds.drop i) sb = .ok (rest, s2) ∧ accX ++ rest = ys
    refine ⟨fun i m H' => m = ds.length - i ∧ W i H', ⟨ds.length, rfl, Nat.zero_le _, Z0, demote fv s1, Fs0, [], [], ys, [], ?_, g0.laid hD, upd_same, fun j hj => ?_, fun z => ?_, ⟨⟨rfl, rfl⟩, List.nodup_nil, fun a ha => (by cases ha), fun a ha => (by cases ha)⟩, fun a ha => (by cases ha), fun ha => (by cases ha), el, rfl⟩, ?_⟩
    · exact ⟨fun a o e n => by rw [upd_ne (ne_of_none e hD)]; exact e, fun a e => by
        by_cases q : a = D
        · rw [q]; exact hD
        · rw [upd_ne q] at e; exact e, fun a z => z, fun a z => .inl z, fun i hi => rfl, fun i hi a ha => .inr ⟨i, hi, ha⟩⟩
    · obtain ⟨o, e, _⟩ := g0.isl j D hj; rw [hD] at e; cases e
    · obtain ⟨o, e⟩ := g0.zt D z; rw [hD] at e; cases e
    · rintro i m H2 ⟨rfl, hi, Zb, sb, Fsb, accV, accX, rest, FA, t, g, hDv, nF, nZ, hA, nA, dA, ev, ey⟩
      have ftb : ∀ j ∈ tgs, Fsb j = [] := fun j hj => (t.fo j (tgch j hj)).trans (ft0 j hj)
      have kp : Kp Z0 H1 H2 := Kp.of g0 t
      obtain ⟨go, stop⟩ := ok H2 kp
      by_cases lt : i < ds.length
      · have ed : ds[i]? = some ds[i] := List.getElem?_eq_getElem lt
        rw [List.drop_eq_getElem_cons lt] at ev
        unfold loopC at ev
        obtain ⟨s3, eb, ev⟩ := Res.bind_eq_ok.mp ev
        obtain ⟨⟨tt, s4⟩, ec, ev⟩ := Res.bind_eq_ok.mp ev
        obtain ⟨hgo, yl⟩ := go i _ ed
        refine .inr ⟨hgo, W (i + 1), fun H' w => ⟨ds.length - (i + 1), by omega, rfl, w⟩, fun x H3 y => ?_⟩
        obtain ⟨ow, ex⟩ := yl x H3 y
        have hD3 : H3 D = some (.lst accV) := by
          rcases ex with rfl | ⟨p', o', hp', rfl⟩
          · exact hDv
          · rw [upd_ne (ne_of_none hDv hp')]; exact hDv
        have hA3 : Held (PAll K accV accX) fvE H3 Zb Fsb FA := by
          rcases ex with rfl | ⟨p', o', hp', rfl⟩
          · exact hA
          · exact ⟨(stb_all K _ _).keep hA.pr (g.kp hp' _), hA.nd, hA.nf, hA.nz⟩
        have tw := t.ext ex
        refine ⟨Zb, _, Fsb, (ds[i], 0), s3, [], g.ext ex, held0 (Own.zmono _ ow t.zm), eb, fun σ3 Fs3 pg => ⟨?_, ?_⟩⟩
        · exact (wipe_eq (by rw [pg.ln]) fun j hj => pg.st j hj).trans (wipe_eq (by rw [wipe_length]) fun j hj => wipe_get σ j tgs hj)
        -- behind the binding no slot owns more
        have e3 : ∀ j, Fs3 j = Fsb j := fun j => by
          by_cases m : j ∈ tgs
          · rw [ftb j m]
            cases q1 : Fs3 j with
            | nil => rfl
            | cons x r => have := pg.fb j m x (by rw [q1]; exact List.mem_cons_self ..); cases this
          · exact pg.fo j m
        have e3' : Fs3 = Fsb := funext e3
        subst e3'
        refine ⟨Zb, s3, Fs3, tt, s4, pg.good, ec, fun H4 Z4 Fs4 p4 => ?_⟩
        have hA4 := hA3.on (stb_all K _ _) pg.good p4.tr fun j hj h => fech j hj (List.mem_append_left _ h)
        have hD4 : H4 D = some (.lst accV) := p4.tr.ev D _ hD3 fun j _ h => nF j h
        have nF4 : ∀ j, D ∉ Fs4 j := fun j h => by
          by_cases m : j ∈ mC
          · rcases p4.tr.fb j m D h with z | ⟨l, _, z⟩
            · rw [hD3] at z; cases z
            · exact nF l z
          · rw [p4.tr.fo j m] at h; exact nF j h
        have nZ4 : ¬ Z4 D := fun z => by
          rcases p4.tr.zb D z with z | z | ⟨l, _, z⟩
          · exact nZ z
          · rw [hD3] at z; cases z
          · exact nF l z
        have t4 : Tr ch H1 Z0 Fs0 H4 Z4 Fs4 := tw.trans p4.tr (fun j h => h) fun j h => List.mem_append_left _ h
        cases tt with
        | false =>
          show if false = true then _ else _
          rw [if_neg Bool.false_ne_true]
          refine ⟨lt, Z4, s4, Fs4, accV, accX, rest, FA, t4, ?_, hD4, nF4, nZ4, hA4, nA, dA, ev, ey⟩
          exact Good.wipe (σ1 := wipe σ tgs) p4.good (by rw [pg.ln]) fun j hj => (pg.st j hj).symm
        | true =>
          show if true = true then _ else _
          rw [if_pos rfl]
          obtain ⟨⟨y0, s5⟩, e5, ev⟩ := Res.bind_eq_ok.mp (show (a s4 >>= _) = _ from ev)
          obtain ⟨⟨yr, s6⟩, e6, ev⟩ := Res.bind_eq_ok.mp ev
          cases ev
          refine ⟨Z4, s4, Fs4, y0, s5, p4.good, e5, fun w H5 Z5 Fs5 Fy p5 => ?_⟩
          have hA5 := hA4.on (stb_all K _ _) p4.good p5.tr fun j hj h => fech j hj (List.mem_append_right _ h)
          have hD5 : H5 D = some (.lst accV) := p5.tr.ev D _ hD4 fun j _ h => nF4 j h
          have nF5 : ∀ j, D ∉ Fs5 j := fun j h => by
            by_cases m : j ∈ mE
            · rcases p5.tr.fb j m D h with z | ⟨l, _, z⟩
              · rw [hD4] at z; cases z
              · exact nF4 l z
            · rw [p5.tr.fo j m] at h; exact nF4 j h
          have nZ5 : ¬ Z5 D := fun z => by
            rcases p5.tr.zb D z with z | z | ⟨l, _, z⟩
            · exact nZ4 z
            · rw [hD4] at z; cases z
            · exact nF4 l z
          have nDy : D ∉ Fy := fun h => by
            rcases p5.new D h with z | ⟨l, _, z⟩
            · rw [hD4] at z; cases z
            · exact nF4 l z
          have dis : ∀ x ∈ FA, x ∉ Fy := fun x hx hy => by
            rcases p5.new x hy with z | ⟨l, _, z⟩
            · obtain ⟨o, e, _⟩ := (stb_all K _ _).isl hA4.pr x hx; rw [z] at e; cases e
            · exact hA4.nf x hx l z
          have la : accV.length = accX.length := OwnL.len hA.pr
          have ly : ys.length = accX.length + (yr.length + 1) := by rw [← ey]; simp
          have kq : ∀ (S : Addr → Prop), (¬ S D) → Kp S H5 (upd H5 D (.lst (accV ++ [w]))) := fun S n x o e q => by
            rw [upd_ne]
            · exact e
            · rintro rfl
              rcases q with q | q
              · exact n q
              · rw [hD5] at e; cases e; exact q trivial
          have nzf : ¬ Zf Z5 Fs5 fvE D := fun z => z.elim nZ5 fun ⟨l, _, z⟩ => nF5 l z
          refine ⟨accV, hD5, by omega, lt, Z5, s5, Fs5, accV ++ [w], accX ++ [y0], yr, FA ++ Fy, ?_, ?_, upd_same, nF5, nZ5, ⟨?_, List.nodup_append.mpr ⟨hA5.nd, p5.held.nd, fun x hx z hz e => dis x hx (e ▸ hz)⟩, fun x hx => ?_, fun x hx => ?_⟩, fun x hx => ?_, fun h => ?_, e6, by rw [List.append_assoc]; exact ey⟩
          · have t5 : Tr ch H1 Z0 Fs0 H5 Z5 Fs5 := t4.trans p5.tr (fun j h => h) fun j h => List.mem_append_right _ h
            refine ⟨fun x o e n => ?_, fun x e => ?_, t5.zm, t5.zb, t5.fo, t5.fb⟩
            · rw [upd_ne (show x ≠ D from fun z => by rw [z, hD] at e; cases e)]
              exact t5.ev x o e n
            · by_cases z : x = D
              · rw [z]; exact hD
              · rw [upd_ne z] at e; exact t5.dom x e
          · exact (Good.wipe (σ1 := wipe σ tgs) p5.good (by rw [pg.ln]) fun j hj => (pg.st j hj).symm).beside hD5 nF5 nZ5
          · refine OwnL.app ((stb_all K _ _).keep hA5.pr (kq _ fun z => z.elim dA nzf)) ?_
            refine ⟨w, [], Fy, [], rfl, (stb_one K w y0).keep p5.held.pr (kq _ fun z => z.elim nDy nzf), ⟨rfl, rfl⟩, by simp⟩
          · rcases List.mem_append.mp hx with h | h
            · exact hA5.nf x h
            · exact p5.held.nf x h
          · rcases List.mem_append.mp hx with h | h
            · exact hA5.nz x h
            · exact p5.held.nz x h
          · rcases List.mem_append.mp hx with h | h
            · exact nA x h
            · rcases p5.new x h with z | ⟨l, hl, z⟩
              · exact .inl (t4.dom x z)
              · by_cases m : l ∈ ch
                · exact t4.fb l m x z
                · exact absurd (List.mem_append_right _ hl) m
          · rcases List.mem_append.mp h with h | h
            · exact dA h
            · exact nDy h
      · have e : i = ds.length := by omega
        subst e
        rw [List.drop_length] at ev
        cases ev
        rw [List.append_nil] at ey
        subst ey
        refine .inl ⟨stop _ (Nat.le_refl _), ?_⟩
        obtain ⟨tr3, g3⟩ := restore_ok (σ' := σ) p.good fvch f01 t g rfl (fun _ _ => rfl) fun j hj => (wipe_get σ j tgs fun m => tgch j m hj).symm
        rw [wipeD_out tgch] at g3
        -- what is held, seen from outside
        have hz : ∀ x, Zf Zb Fsb fvE x → Zf (fun a => Zb a ∧ ∀ i, i ∉ ch → a ∉ Fs1 i) (fun i => if i ∈ ch then Fsb i else Fs1 i) (fv ++ fvE) x := fun x z => by
          rcases z with z | ⟨j, hj, z⟩
          · by_cases m : ∃ j, j ∉ ch ∧ x ∈ Fs1 j
            · obtain ⟨j, hj, mx⟩ := m
              have jf : j ∈ fv := by
                rcases t.zb x z with (z | ⟨l, hl, z⟩) | z | ⟨l, hl, z⟩
                · exact absurd z (p.good.nz j x mx)
                · by_cases e : j = l
                  · rw [e]; exact hl
                  · exact absurd z (p.good.dj j l e x mx)
                · obtain ⟨o, e, _⟩ := p.good.isl j x mx; rw [z] at e; cases e
                · exact absurd (f01 l x z) (p.good.dj j l (fun e => hj (e ▸ hl)) x mx)
              refine .inr ⟨j, List.mem_append_left _ jf, ?_⟩
              show x ∈ (if j ∈ ch then Fsb j else Fs1 j)
              rw [if_neg hj]
              exact mx
            · exact .inl ⟨z, fun j hj h => m ⟨j, hj, h⟩⟩
          · have nj := fech j hj
            refine .inr ⟨j, List.mem_append_right _ hj, ?_⟩
            show x ∈ (if j ∈ ch then Fsb j else Fs1 j)
            rw [if_neg nj]
            rw [t.fo j nj] at z
            exact f01 j x z
        have offF : ∀ x ∈ FA, ∀ j, x ∉ (if j ∈ ch then Fsb j else Fs1 j) := fun x hx j h => by
          by_cases m : j ∈ ch
          · rw [if_pos m] at h; exact hA.nf x hx j h
          · rw [if_neg m] at h
            rcases nA x hx with z | ⟨l, hl, z⟩
            · obtain ⟨o, e, _⟩ := p.good.isl j x h; rw [z] at e; cases e
            · exact p.good.dj j l (fun e => m (e ▸ hl)) x h (f01 l x z)
        have pp : Post K (PAll K accV accX) (fv ++ fvE) (mv ++ ch) H Z Fs σ (restore ch s1 s2) H2 (fun a => Zb a ∧ ∀ i, i ∉ ch → a ∉ Fs1 i) (fun i => if i ∈ ch then Fsb i else Fs1 i) FA :=
          ⟨p.tr.trans tr3 (fun j h => List.mem_append_left _ h) (fun j h => List.mem_append_right _ h), g3, ⟨(stb_all K _ _).zm hA.pr hz, hA.nd, offF, fun x hx z => hA.nz x hx z.1⟩, fun x hx => newBack p.tr ((nA x hx).imp id fun ⟨l, hl, z⟩ => ⟨l, hl, f01 l x z⟩)⟩
        obtain ⟨F', sb', qq⟩ := OwnL.to (m := minAll (accX.map dep)) pp.held.pr pp.held.nd (Nat.le_refl _)
        have p9 : Post K (fun Z H F => OwnAll K Z H (minAll (accX.map dep)) accV (accX.map (·.1)) F) (fv ++ fvE) (mv ++ ch) H Z Fs σ (restore ch s1 s2) H2 _ _ F' := pp.shared (stb_all K _ _) sb' (qq _ (fun a z => z.imp (fun z => .inl z) id) fun a ha hn => .inl (.inr ⟨ha, hn⟩))
        have nDs : ∀ j, D ∉ (if j ∈ ch then Fsb j else Fs1 j) := fun j h => by
          by_cases m : j ∈ ch
          · rw [if_pos m] at h; exact nF j h
          · rw [if_neg m] at h
            obtain ⟨o, e, _⟩ := p.good.isl j D h; rw [hD] at e; cases e
        refine q (.ref D) H2 _ _ (D :: F') ⟨p9.tr, p9.good, ⟨?_, List.nodup_cons.mpr ⟨fun h => dA (sb'.subset h), p9.held.nd⟩, fun x hx j h => ?_, fun x hx z => ?_⟩, fun x hx => ?_⟩
        · show Own K _ _ (minAll (accX.map dep) + 1) _ (.list (accX.map (·.1))) _
          unfold Own
          exact ⟨D, accV, F', rfl, hDv, p9.held.pr, rfl⟩
        · rcases List.mem_cons.mp hx with rfl | hx
          · exact nDs j h
          · exact p9.held.nf x hx j h
        · rcases List.mem_cons.mp hx with rfl | hx
          · rcases z with z | ⟨z, _⟩
            · exact nZ z.1
            · exact dA z
          · exact p9.held.nz x hx z
        · rcases List.mem_cons.mp hx with rfl | hx
          · exact .inl (p.tr.dom _ hD)
          · exact p9.new x hx
  · cases e
theorem re_lc (hc : X.calm = true) (hN : X.N.Nodup) (hi : PI X tg iter (tI X.K fv mv it)) (ok : BlkOk X.N X.env.scope scope own)
    (hg : ∀ (s : Shared) (H : Hp) (C : Addr) (cl : List (Str × Addr)) (fp : List Addr), PG (X.blk s H scope (compEnvC scope cl C X.env) fp) tg (tG X.K tgs b))
    (ht : ∀ (s : Shared) (H : Hp) (C : Addr) (cl : List (Str × Addr)) (fp : List Addr), PTs (X.blk s H scope (compEnvC scope cl C X.env) fp) ifs (tT X.K mC c))
    (he : ∀ (s : Shared) (H : Hp) (C : Addr) (cl : List (Str × Addr)) (fp : List Addr), PE (X.blk s H scope (compEnvC scope cl C X.env) fp) elt (tE X.K fvE mE a))
    (hv : own.map (·.2) = tgs := by rfl) (d1 : djn fv (mC ++ mE) = true := by rfl) (d2 : djn fvE (mC ++ mE) = true := by rfl) (d3 : djn tgs (mC ++ mE) = true := by rfl) (hs : ∀ x, foldedSetIterable iter X.env x = pure x := by intro _; rfl) :
    PE X (.ListComp elt [⟨tg, iter, ifs, 0⟩] scope pos) (tE X.K (fv ++ fvE) (mv ++ (mC ++ mE)) (evLc tgs fv (mC ++ mE) b it c a)) :=
  PE.of (pe_lc hc hN hi ok hg ht he hs) fun σ H Q h => lc_imp hv d1 d2 d3 h
theorem rts_nil : PTs X [] (tT X.K [] tYes2) := by
  refine ⟨fun pins s σ H Q I h => (pts_nil (X := X)).run pins s σ H Q I ?_⟩
  obtain ⟨Z, s, Fs, b, s', gd, e, q⟩ := h
  cases e
  exact q H Z Fs (Post.start gd)
theorem rts_one {ce : Expr} (h : PT X ce (tT X.K mC c)) : PTs X [ce] (tT X.K mC c) := pts_one h
/-- name = [..] on one line -/
theorem rs_asgLc {i : Nat} {y : Str} {py spos : Pos} (hc : X.calm = true) (hN : X.N.Nodup) (hy : X.N[i]? = some y) (hyl : X.env.scope.names.lookup y = some .local)
    (hsw : swapsWith (.ListComp elt [⟨tg, iter, ifs, 0⟩] scope pos) (some (.Name y py)) spos.line X.env = pure true) (hi : PI X tg iter (tI X.K fv mv it)) (ok : BlkOk X.N X.env.scope scope own)
    (hg : ∀ (s : Shared) (H : Hp) (C : Addr) (cl : List (Str × Addr)) (fp : List Addr), PG (X.blk s H scope (compEnvC scope cl C X.env) fp) tg (tG X.K tgs b))
    (ht : ∀ (s : Shared) (H : Hp) (C : Addr) (cl : List (Str × Addr)) (fp : List Addr), PTs (X.blk s H scope (compEnvC scope cl C X.env) fp) ifs (tT X.K mC c))
    (he : ∀ (s : Shared) (H : Hp) (C : Addr) (cl : List (Str × Addr)) (fp : List Addr), PE (X.blk s H scope (compEnvC scope cl C X.env) fp) elt (tE X.K fvE mE a))
    (hv : own.map (·.2) = tgs := by rfl) (d1 : djn fv (mC ++ mE) = true := by rfl) (d2 : djn fvE (mC ++ mE) = true := by rfl) (d3 : djn tgs (mC ++ mE) = true := by rfl) (hs : ∀ x, foldedSetIterable iter X.env x = pure x := by intro _; rfl) :
    PS X (.Assign [.Name y py] (.ListComp elt [⟨tg, iter, ifs, 0⟩] scope pos) spos) (tS X.K [i] ((mv ++ (mC ++ mE)) ++ (fv ++ fvE) ++ [i]) (sAsg i (fv ++ fvE) (evLc tgs fv (mC ++ mE) b it c a))) :=
  PS.of (ps_setLc hc hN hy hyl hsw hi ok hg ht he hs) fun D σ H h => lc_imp hv d1 d2 d3 (asg_imp h)
end
end Sq
end

section
namespace Sq
open PySem PySem.Spec L2
/-! ### isinstance -/
inductive Cl where
  | list | tuple | int | str | bool
def Cl.nm : Cl → String
  | .list => "list" | .tuple => "tuple" | .int => "int" | .str => "str" | .bool => "bool"
def isA : PyData → Cl → Bool
  | .bool _, .bool => true
  | .bool _, .int => true
  | .int _, .int => true
  | .str _, .str => true
  | .list _, .list => true
  | .tuple _, .tuple => true
  | _, _ => false
def tyN : PyData → String
  | .none => "NoneType" | .bool _ => "bool" | .int _ => "int" | .str _ => "str" | .list _ => "list" | .tuple _ => "tuple" | .dict _ => "dict"
theorem kit_isA : ∀ (d : PyData) (c : Cl), kitB (tyN d) c.nm = some (isA d c)
  | .none, .list => by decide +kernel | .none, .tuple => by decide +kernel | .none, .int => by decide +kernel | .none, .str => by decide +kernel | .none, .bool => by decide +kernel
  | .bool _, .list => by show kitB "bool" "list" = some false; decide +kernel
  | .bool _, .tuple => by show kitB "bool" "tuple" = some false; decide +kernel
  | .bool _, .int => by show kitB "bool" "int" = some true; decide +kernel
  | .bool _, .str => by show kitB "bool" "str" = some false; decide +kernel
  | .bool _, .bool => by show kitB "bool" "bool" = some true; decide +kernel
  | .int _, .list => by show kitB "int" "list" = some false; decide +kernel
  | .int _, .tuple => by show kitB "int" "tuple" = some false; decide +kernel
  | .int _, .int => by show kitB "int" "int" = some true; decide +kernel
  | .int _, .str => by show kitB "int" "str" = some false; decide +kernel
  | .int _, .bool => by show kitB "int" "bool" = some false; decide +kernel
  | .str _, .list => by show kitB "str" "list" = some false; decide +kernel
  | .str _, .tuple => by show kitB "str" "tuple" = some false; decide +kernel
  | .str _, .int => by show kitB "str" "int" = some false; decide +kernel
  | .str _, .str => by show kitB "str" "str" = some true; decide +kernel
  | .str _, .bool => by show kitB "str" "bool" = some false; decide +kernel
  | .list _, .list => by show kitB "list" "list" = some true; decide +kernel
  | .list _, .tuple => by show kitB "list" "tuple" = some false; decide +kernel
  | .list _, .int => by show kitB "list" "int" = some false; decide +kernel
  | .list _, .str => by show kitB "list" "str" = some false; decide +kernel
  | .list _, .bool => by show kitB "list" "bool" = some false; decide +kernel
  | .tuple _, .list => by show kitB "tuple" "list" = some false; decide +kernel
  | .tuple _, .tuple => by show kitB "tuple" "tuple" = some true; decide +kernel
  | .tuple _, .int => by show kitB "tuple" "int" = some false; decide +kernel
  | .tuple _, .str => by show kitB "tuple" "str" = some false; decide +kernel
  | .tuple _, .bool => by show kitB "tuple" "bool" = some false; decide +kernel
  | .dict _, .list => by show kitB "dict" "list" = some false; decide +kernel
  | .dict _, .tuple => by show kitB "dict" "tuple" = some false; decide +kernel
  | .dict _, .int => by show kitB "dict" "int" = some false; decide +kernel
  | .dict _, .str => by show kitB "dict" "str" = some false; decide +kernel
  | .dict _, .bool => by show kitB "dict" "bool" = some false; decide +kernel
def gIsA (cs : List Cl) (x : DV) : Res DV := .ok (.bool (cs.any (isA x.1)), 0)
section
variable {K : PySem.W.Frag} {Z : Zs} {H : Hp} {k : Nat} {v : V} {F : List Addr}
theorem own_ty {d : PyData} (h : Own K Z H k v d F) : TyX K H v (.type (tyN d)) := by
  cases d with
  | none => unfold Own at h; rw [h.1]; exact .base .non
  | bool b => unfold Own at h; rw [h.1]; exact .base (.bl _)
  | int i => unfold Own at h; rw [h.1]; exact .base (.int _)
  | str x => unfold Own at h; rw [h.1]; exact .base (.str _)
  | list ds =>
    obtain ⟨p, vs, F', rfl, r, _⟩ := h.rdL
    rcases r with r | ⟨o, r⟩
    · exact .base (.lst r)
    · exact .base (.frz r)
  | tuple ds =>
    unfold Own at h
    obtain ⟨p, vs, rfl, r, _⟩ := h
    rcases r with (r | ⟨o, r⟩) | ⟨o, its, n, e, c, _⟩
    · exact .base (.tup r)
    · exact .fTuple r
    · exact .kTuple e c
  | dict kvs => unfold Own at h; exact h.elim
end
section
variable {X : Cx} {a : Expr} {p pos : Pos} {fv mv : List Nat} {f : Ex}
theorem re_isi1 (c : Cl) {pc : Pos} (ha : PE X a (tE X.K fv mv f)) (hg : Gl X "isinstance") (hm : X.mg "isinstance" = none) (hc : PE X (.Name c.nm pc) (tC (.ty c.nm)))
    (he : starEach [a, .Name c.nm pc] X.env = (false, eval a X.env) :: starEach [.Name c.nm pc] X.env := by rfl) (he2 : starEach [.Name c.nm pc] X.env = (false, eval (.Name c.nm pc) X.env) :: starEach [] X.env := by rfl) (hpl : (backTo pos (starEach [.Name c.nm pc] X.env)).any (·.1) = false := by rfl) :
    PE X (.Call (.Name "isinstance" p) [a, .Name c.nm pc] [] pos) (tE X.K fv mv (ev1 (gIsA [c]) f)) := by
  refine PE.of (pe_callB call_isi hg hm (by decide +kernel) (pa_cons ha (pa_cons hc pa_nil he2) he) (he := he) (hpl := hpl)) fun σ H Q h => imp1 (r := fun x H1 Q => rIsi X.K [x, .ty c.nm] H1 Q) ?_ h
  intro fv mv H Z Fs σ s' H1 Z1 Fs1 F v x z Q e p q
  cases e
  refine ⟨v, .ty c.nm, .type (tyN x.1), .type c.nm, isA x.1 c, rfl, ?_, own_ty p.held.pr, kit_ty (kit_isA x.1 c), ?_⟩
  · first | exact .ty _ | exact ClsV.ty _ | constructor
  · have : [c].any (isA x.1) = isA x.1 c := by simp
    rw [this] at q
    exact q _ _ _ _ (p.sc bl_own)
theorem re_isi2 (c d : Cl) {pc pd pt : Pos} {kt : Nat} (ha : PE X a (tE X.K fv mv f)) (hg : Gl X "isinstance") (hm : X.mg "isinstance" = none) (hc : PE X (.Name c.nm pc) (tC (.ty c.nm))) (hd : PE X (.Name d.nm pd) (tC (.ty d.nm)))
    (he : starEach [a, .Tuple [.Name c.nm pc, .Name d.nm pd] kt pt] X.env = (false, eval a X.env) :: starEach [.Tuple [.Name c.nm pc, .Name d.nm pd] kt pt] X.env := by rfl) (he2 : starEach [.Tuple [.Name c.nm pc, .Name d.nm pd] kt pt] X.env = (false, eval (.Tuple [.Name c.nm pc, .Name d.nm pd] kt pt) X.env) :: starEach [] X.env := by rfl)
    (he3 : starEach [.Name c.nm pc, .Name d.nm pd] X.env = (false, eval (.Name c.nm pc) X.env) :: starEach [.Name d.nm pd] X.env := by rfl) (he4 : starEach [.Name d.nm pd] X.env = (false, eval (.Name d.nm pd) X.env) :: starEach [] X.env := by rfl) (hpl : (backTo pos (starEach [.Tuple [.Name c.nm pc, .Name d.nm pd] kt pt] X.env)).any (·.1) = false := by rfl) :
    PE X (.Call (.Name "isinstance" p) [a, .Tuple [.Name c.nm pc, .Name d.nm pd] kt pt] [] pos) (tE X.K fv mv (ev1 (gIsA [c, d]) f)) := by
  refine PE.of (pe_callB call_isiT hg hm (by decide +kernel) (pa_cons ha (pa_cons (pe_tup (pa_cons hc (pa_cons hd pa_nil he4) he3)) pa_nil he2) he) (he := he) (hpl := hpl)) fun σ H Q h => imp1 (r := fun x H1 Q => 2 ≤ sizeLine ∧ ∀ tp, H1 tp = none → rIsiT X.K [x, .ref tp] (upd H1 tp (.tup [.ty c.nm, .ty d.nm])) Q) ?_ h
  intro fv mv H Z Fs σ s' H1 Z1 Fs1 F v x z Q e p q
  cases e
  refine ⟨by decide, fun tp ht => ?_⟩
  have p2 := p.newO (stb_one _ _ _) (o := .tup [.ty c.nm, .ty d.nm]) ht
  refine ⟨v, tp, [.ty c.nm, .ty d.nm], .type (tyN x.1), [.type c.nm, .type d.nm], isA x.1 c || isA x.1 d, rfl, upd_same, ?_, own_ty p2.held.pr, ?_, ?_⟩
  · exact .cons (by first | exact .ty _ | exact ClsV.ty _ | constructor) (.cons (by first | exact .ty _ | exact ClsV.ty _ | constructor) .nil)
  · refine kitAny_cons (kit_ty (kit_isA x.1 c)) (fun h => ?_) (fun h => by rw [h]; rfl)
    rw [h, Bool.false_or]
    refine kitAny_cons (kit_ty (kit_isA x.1 d)) (fun h => ?_) (fun h => h)
    rw [h]
    rfl
  · have : [c, d].any (isA x.1) = (isA x.1 c || isA x.1 d) := by simp
    rw [this] at q
    exact q _ _ _ _ (p2.sc bl_own)
end
end Sq
end

section
namespace Sq
open PySem PySem.Spec L2
/-! ### a loop that changes the items of an own list -/
def loopM (x : Nat) (body : Sx) (k : Nat) : List PyData → SD → Res (List DV × SD)
  | [], s => .ok ([], s)
  | d :: ds, s => do
    let (fl, s) ← body (s.set x (some (d, k)))
    match fl with
    | .next => do
      let y ← slot s x
      let (ys, s) ← loopM x body k ds (s.set x none)
      .ok (y :: ys, s)
    | _ => .bad
def sForM (x y : Nat) (body : Sx) : Sx := fun s => do
  let z ← slot s y
  match z.1 with
  | .list ds =>
    if 0 < z.2 then (do
      let (ys, s2) ← loopM x body (z.2 - 1) ds (s.set y none)
      .ok (.next, s2.set y (some (.list (ys.map (·.1)), minAll (ys.map dep) + 1))))
    else .bad
  | _ => .bad
section
variable {K : PySem.W.Frag}
/-- the list at p, what is done and what is still to be walked -/
def PM (K : PySem.W.Frag) (p : Addr) (vs : List V) (i k : Nat) (xs : List DV) (ds : List PyData) : Pr := fun Z H F => ∃ F1 F2, F = p :: (F1 ++ F2) ∧ H p = some (.lst vs) ∧ OwnL K Z H (vs.take i) xs F1 ∧ OwnAll K Z H k (vs.drop i) ds F2
theorem stb_pm (p : Addr) (vs : List V) (i k : Nat) (xs : List DV) (ds : List PyData) : Stb (PM K p vs i k xs ds) where
  keep := fun {Z H H' F} ⟨F1, F2, e, h, o1, o2⟩ kp => by
    subst e
    exact ⟨F1, F2, rfl, kp _ _ h (.inl (.inl (List.mem_cons_self ..))), OwnL.keep o1 fun a o e q => kp a o e (q.imp (fun q => q.imp (fun q => List.mem_cons_of_mem _ (List.mem_append_left _ q)) id) id), OwnAll.keep _ o2 fun a o e q => kp a o e (q.imp (fun q => q.imp (fun q => List.mem_cons_of_mem _ (List.mem_append_right _ q)) id) id)⟩
  zm := fun {Z Z' H F} ⟨F1, F2, e, h, o1, o2⟩ m => ⟨F1, F2, e, h, OwnL.zmono m o1, OwnAll.zmono _ o2 m⟩
  isl := fun {Z H F} ⟨F1, F2, e, h, o1, o2⟩ a ha => by
    subst e
    rcases List.mem_cons.mp ha with rfl | ha
    · exact ⟨_, h, trivial⟩
    · rcases List.mem_append.mp ha with ha | ha
      · exact OwnL.isl o1 a ha
      · exact OwnAll.isl _ o2 a ha
theorem Held.weakF {P P' : Pr} {fv : List Nat} {H : Hp} {Z : Zs} {Fs Fs' : Fp} {F F' : List Addr} (h : Held P fv H Z Fs F) (sb : ∀ a ∈ F', a ∈ F) (nd : F'.Nodup) (pr : P' (Zf Z Fs' fv) H F') (fs : ∀ a ∈ F', ∀ i, a ∈ Fs' i → a ∈ Fs i) : Held P' fv H Z Fs' F' := ⟨pr, nd, fun a ha i hb => h.nf a (sb a ha) i (fs a ha i hb), fun a ha => h.nz a (sb a ha)⟩
end
section
variable {X : Cx} {px py pos : Pos} {aB mB : List Nat} {x y : Nat} {nx ny : Str} {body : Sx} {sts : List Stmt}
theorem rs_forM (hp : PassesOwn (model X.prog X.w) X.A X.env X.xe) (hc : X.calm = true) (hN : X.N.Nodup) (hx : X.N[x]? = some nx) (hxl : Loc X.env.scope nx) (hy : X.N[y]? = some ny) (hyv : Vis X.env.scope ny) (hb : PSs X sts (tS X.K aB mB body)) (d : djn [x, y] aB = true := by rfl) (d2 : djn [y] mB = true := by rfl) (nxy : (x == y) = false := by rfl)
    (hf : X.fn nx = true ∨ X.env.scope.names.lookup nx = some .local := by first | exact .inl rfl | exact .inr rfl | assumption) (hd : (ny == ("__debug__" : Str)) = false := by decide) (hcd : (ny == ("__classdict__" : Str)) = false := by decide) (hs : ∀ x, foldedSetIterable (.Name ny py) X.env x = pure x := by intro _; rfl) :
    PS X (.For (.Name nx px) (.Name ny py) sts [] pos) (tS X.K (x :: aB) (x :: y :: mB) (sForM x y body)) := by
  refine PS.of (ps_for hp hc (pi_list (pe_var hy hyv hd hcd)) (pg_name hN hx hxl hf) hb hs) fun D σ H h => ?_
  obtain ⟨Z, s, Fs, fl, sf, gd, e, q⟩ := h
  unfold sForM at e
  obtain ⟨⟨zd, zk⟩, ez, e⟩ := Res.bind_eq_ok.mp e
  obtain ⟨es, v, ev, ow⟩ := gd.slotAt ez
  cases zd with
  | list ds =>
    simp only at e
    split at e
    · next lk =>
      obtain ⟨⟨ys, s2⟩, el, e⟩ := Res.bind_eq_ok.mp e
      cases e
      obtain ⟨k, rfl⟩ : ∃ k, zk = k + 1 := ⟨zk - 1, by omega⟩
      have nyx : y ≠ x := fun e => by
        rw [e] at nxy
        simp at nxy
      have nyB : y ∉ mB := djn_ok d2 y (List.mem_singleton.mpr rfl)
      have nxA : x ∉ aB := djn_ok d x (List.mem_cons_self ..)
      have nyA : y ∉ aB := djn_ok d y (List.mem_cons_of_mem _ (List.mem_singleton.mpr rfl))
      unfold Own at ow
      obtain ⟨p, vs, F0, rfl, hpv, oA, eF⟩ := ow
      have lv := OwnAll.len _ oA
      have tk := gd.take (x := (.list ds, k + 1)) ev (by unfold Own; exact ⟨p, vs, F0, rfl, hpv, oA, eF⟩)
      refine ⟨.ref p, ev, p, rfl, ⟨vs, .inl (.inl hpv)⟩, ?_⟩
      let Fy : Fp := fun j => if j = y then [] else Fs j
      let mv := x :: y :: mB
      -- between two turns
      let W : Nat → L2.St → Hp → Prop := fun i σ' H' => i ≤ ds.length ∧ ∃ Z' s' Fs' xs rest F', Tr mv H Z Fs H' Z' Fs' ∧ Good X.K Z' H' σ' s' Fs' ∧ (∀ j, j ∉ x :: aB → σ'[j]? = σ[j]?) ∧ σ'.length = σ.length ∧ Held (PM X.K p vs i k xs (ds.drop i)) [] H' Z' Fs' F' ∧ (∀ a ∈ F', H a = none ∨ ∃ j ∈ mv, a ∈ Fs j) ∧ loopM x body k (ds.drop i) s' = .ok (rest, s2) ∧ xs ++ rest = ys
      have my : y ∈ mv := List.mem_cons_of_mem _ (List.mem_cons_self ..)
      have mx : x ∈ mv := List.mem_cons_self ..
      have mb : ∀ j ∈ mB, j ∈ mv := fun j h => List.mem_cons_of_mem _ (List.mem_cons_of_mem _ h)
      refine ⟨fun i m σ' H' => m = ds.length - i ∧ W i σ' H', ⟨ds.length, rfl, Nat.zero_le _, Z, s.set y none, Fy, [], ys, Fs y, tk.tr.weak fun j hj => by rw [List.mem_singleton.mp hj]; exact my, tk.good, fun _ _ => rfl, rfl, ⟨⟨[], F0, by rw [eF]; rfl, hpv, ⟨rfl, rfl⟩, OwnAll.zmono _ oA fun a z => .inl z⟩, gd.nd y, fun a ha i hb => tk.held.nf a ha i hb, fun a ha => gd.nz y a ha⟩, fun a ha => .inr ⟨y, my, ha⟩, el, rfl⟩, ?_⟩
      rintro i m σ1 H1 ⟨rfl, hi, Z1, s1, Fs1, xs, rest, F1, t, g, st, ln, hd1, new1, ev1, ey⟩
      obtain ⟨FD, FT, eF1, hp1, oD, oT⟩ := hd1.pr
      by_cases lt : i < ds.length
      · have ltv : i < vs.length := by omega
        have ed : ds.drop i = ds[i] :: ds.drop (i + 1) := List.drop_eq_getElem_cons lt
        have edv : vs.drop i = vs[i] :: vs.drop (i + 1) := List.drop_eq_getElem_cons ltv
        rw [ed] at ev1 oT
        rw [edv] at oT
        unfold OwnAll at oT
        obtain ⟨w, vs', Fi, FT', e1, oi, oR, rfl⟩ := oT
        obtain ⟨rfl, rfl⟩ := List.cons.inj e1
        unfold loopM at ev1
        obtain ⟨⟨fl1, s3⟩, eb, ev1⟩ := Res.bind_eq_ok.mp ev1
        cases fl1 with
        | next =>
          obtain ⟨yv, ey1, ev1⟩ := Res.bind_eq_ok.mp ev1
          obtain ⟨⟨ys', s4⟩, er, ev1⟩ := Res.bind_eq_ok.mp ev1
          cases ev1
          subst eF1
          have nd1 := hd1.nd
          obtain ⟨np, nDT⟩ := List.nodup_cons.mp nd1
          obtain ⟨nD, nT, dDT⟩ := List.nodup_append.mp nDT
          obtain ⟨ni, nR, diR⟩ := List.nodup_append.mp nT
          refine .inr ⟨⟨vs, vs[i], .inl (.inl hp1), List.getElem?_eq_getElem ltv⟩, W (i + 1), fun σ' H' w => ⟨ds.length - (i + 1), by omega, rfl, w⟩, fun v' H' yl => ?_⟩
          obtain ⟨rfl, yv'⟩ := yl
          have evi : v' = vs[i] := by
            have := yv' vs (.inl (.inl hp1))
            rw [List.getElem?_eq_getElem ltv] at this
            exact (Option.some.inj this).symm
          subst evi
          -- the item bound
          have hI : Held (POne X.K vs[i] (ds[i], k)) [] H' Z1 Fs1 Fi := ⟨oi, ni, fun a ha => hd1.nf a (List.mem_cons_of_mem _ (List.mem_append_right _ (List.mem_append_left _ ha))), fun a ha => hd1.nz a (List.mem_cons_of_mem _ (List.mem_append_right _ (List.mem_append_left _ ha)))⟩
          have pg := name_ok (i := x) g hI
          let Fs2 : Fp := fun j => if j = x then Fi else Fs1 j
          let PR : Pr := fun Z H F => ∃ F1 F2, F = p :: (F1 ++ F2) ∧ H p = some (.lst vs) ∧ OwnL X.K Z H (vs.take i) xs F1 ∧ OwnAll X.K Z H k (vs.drop (i + 1)) (ds.drop (i + 1)) F2
          have sPR : Stb PR := by
            refine ⟨fun {Z H H' F} ⟨F1, F2, e, h, o1, o2⟩ kp => ?_, fun {Z Z' H F} ⟨F1, F2, e, h, o1, o2⟩ m => ⟨F1, F2, e, h, OwnL.zmono m o1, OwnAll.zmono _ o2 m⟩, fun {Z H F} ⟨F1, F2, e, h, o1, o2⟩ a ha => ?_⟩
            · subst e
              exact ⟨F1, F2, rfl, kp _ _ h (.inl (.inl (List.mem_cons_self ..))), OwnL.keep o1 fun a o e q => kp a o e (q.imp (fun q => q.imp (fun q => List.mem_cons_of_mem _ (List.mem_append_left _ q)) id) id), OwnAll.keep _ o2 fun a o e q => kp a o e (q.imp (fun q => q.imp (fun q => List.mem_cons_of_mem _ (List.mem_append_right _ q)) id) id)⟩
            · subst e
              rcases List.mem_cons.mp ha with rfl | ha
              · exact ⟨_, h, trivial⟩
              · rcases List.mem_append.mp ha with ha | ha
                · exact OwnL.isl o1 a ha
                · exact OwnAll.isl _ o2 a ha
          have sub : ∀ a ∈ p :: (FD ++ FT'), a ∈ p :: (FD ++ (Fi ++ FT')) := fun a ha => by
            rcases List.mem_cons.mp ha with rfl | ha
            · exact List.mem_cons_self ..
            · rcases List.mem_append.mp ha with ha | ha
              · exact List.mem_cons_of_mem _ (List.mem_append_left _ ha)
              · exact List.mem_cons_of_mem _ (List.mem_append_right _ (List.mem_append_right _ ha))
          have ndR : (p :: (FD ++ FT')).Nodup := List.nodup_cons.mpr ⟨fun h => np ((List.mem_append.mp h).elim (fun h => List.mem_append_left _ h) fun h => List.mem_append_right _ (List.mem_append_right _ h)), List.nodup_append.mpr ⟨nD, nR, fun a ha b hb e => dDT a ha b (List.mem_append_right _ hb) e⟩⟩
          have offI : ∀ a ∈ p :: (FD ++ FT'), a ∉ Fi := fun a ha hb => by
            rcases List.mem_cons.mp ha with rfl | ha
            · exact np (List.mem_append_right _ (List.mem_append_left _ hb))
            · rcases List.mem_append.mp ha with ha | ha
              · exact dDT a ha a (List.mem_append_left _ hb) rfl
              · exact diR a hb a ha rfl
          have hR : Held PR [] H' Z1 Fs2 (p :: (FD ++ FT')) := by
            refine ⟨⟨FD, FT', rfl, hp1, OwnL.zmono (fun a z => .inl (zf0 z)) oD, OwnAll.zmono _ oR fun a z => .inl (zf0 z)⟩, ndR, fun a ha j hb => ?_, fun a ha => hd1.nz a (sub a ha)⟩
            have hb' : a ∈ (if j = x then Fi else Fs1 j) := hb
            by_cases m : j = x
            · rw [if_pos m] at hb'; exact offI a ha hb'
            · rw [if_neg m] at hb'; exact hd1.nf a (sub a ha) j hb'
          refine ⟨Z1, _, Fs2, .next, s3, pg.good, eb, fun σ3 H3 Z3 Fs3 p3 => ?_⟩
          have hR3 := hR.on sPR pg.good p3.tr fun j hj => (by cases hj)
          obtain ⟨ex3, vx, evx, ox⟩ := p3.good.slotAt ey1
          have hxl : x < σ1.length := by
            refine Nat.lt_of_not_le fun h => ?_
            have hn : (σ1.set x (some vs[i]))[x]? = none := List.getElem?_eq_none (by simpa using h)
            have := (p3.st x nxA).trans hn
            rw [evx] at this
            cases this
          have evi : vx = vs[i] := by
            have := evx.symm.trans ((p3.st x nxA).trans (List.getElem?_set_self hxl))
            exact Option.some.inj (Option.some.inj this)
          subst evi
          have tk3 := p3.good.take evx ox
          obtain ⟨F1', F2', eR, hp3, oD3, oR3⟩ := hR3.pr
          have noX : ∀ a ∈ p :: (FD ++ FT'), a ∉ Fs3 x := fun a ha => hR3.nf a ha x
          -- what the slots own from the start on
          have t2 : Tr mv H Z Fs H' Z1 Fs2 := by
            refine ⟨t.ev, t.dom, t.zm, t.zb, fun j hj => ?_, fun j hj a ha => ?_⟩
            · show (if j = x then Fi else Fs1 j) = Fs j
              rw [if_neg fun e => hj (by rw [e]; exact mx)]
              exact t.fo j hj
            · have ha' : a ∈ (if j = x then Fi else Fs1 j) := ha
              by_cases m : j = x
              · rw [if_pos m] at ha'
                exact new1 a (List.mem_cons_of_mem _ (List.mem_append_right _ (List.mem_append_left _ ha')))
              · rw [if_neg m] at ha'
                exact t.fb j hj a ha'
          have t3 : Tr mv H Z Fs H3 Z3 Fs3 := t2.trans p3.tr (fun j h => h) mb
          have t4 : Tr mv H Z Fs H3 Z3 (fun j => if j = x then [] else Fs3 j) := t3.trans tk3.tr (fun j h => h) fun j h => by rw [List.mem_singleton.mp h]; exact mx
          have eL : (F1' ++ F2').length = (F1' ++ F2').length := rfl
          have eRR : F1' ++ F2' = FD ++ FT' := (List.cons.inj eR).2.symm
          have inR : ∀ a, a ∈ p :: (F1' ++ F2') → a ∈ p :: (FD ++ FT') := fun a ha => by rw [← eRR]; exact ha
          have ndR' : (p :: (F1' ++ F2')).Nodup := by rw [eRR]; exact ndR
          obtain ⟨np', nFF⟩ := List.nodup_cons.mp ndR'
          obtain ⟨n1', n2', d12⟩ := List.nodup_append.mp nFF
          have newN : ∀ a ∈ Fs3 x, H a = none ∨ ∃ j ∈ mv, a ∈ Fs j := fun a ha => t3.fb x mx a ha
          refine ⟨lt, Z3, s3.set x none, fun j => if j = x then [] else Fs3 j, xs ++ [yv], ys', p :: ((F1' ++ Fs3 x) ++ F2'), t4, tk3.good, fun j hj => ?_, ?_, ⟨⟨F1' ++ Fs3 x, F2', rfl, hp3, ?_, OwnAll.zmono _ oR3 fun a z => .inl (zf0 z)⟩, ?_, fun a ha j hb => ?_, fun a ha => ?_⟩, fun a ha => ?_, er, by rw [List.append_assoc]; exact ey⟩
          · rw [p3.st j fun h => hj (List.mem_cons_of_mem _ h), List.getElem?_set_ne fun e => hj (by rw [← e]; exact List.mem_cons_self ..)]
            exact st j hj
          · rw [p3.ln, List.length_set, ln]
          · have et : vs.take (i + 1) = vs.take i ++ [vs[i]] := by
              rw [List.take_succ, List.getElem?_eq_getElem ltv]
              rfl
            rw [et]
            exact OwnL.app (OwnL.zmono (fun a z => .inl (zf0 z)) oD3) ⟨vs[i], [], Fs3 x, [], rfl, Own.zmono _ ox fun a z => .inl z, ⟨rfl, rfl⟩, by simp⟩
          · refine List.nodup_cons.mpr ⟨fun h => ?_, List.nodup_append.mpr ⟨List.nodup_append.mpr ⟨n1', p3.good.nd x, fun a ha b hb e => noX a (inR a (List.mem_cons_of_mem _ (List.mem_append_left _ ha))) (e ▸ hb)⟩, n2', fun a ha b hb e => ?_⟩⟩
            · rcases List.mem_append.mp h with h | h
              · rcases List.mem_append.mp h with h | h
                · exact np' (List.mem_append_left _ h)
                · exact noX p (List.mem_cons_self ..) h
              · exact np' (List.mem_append_right _ h)
            · subst e
              rcases List.mem_append.mp ha with ha | ha
              · exact d12 a ha a hb rfl
              · exact noX a (inR a (List.mem_cons_of_mem _ (List.mem_append_right _ hb))) ha
          · have hb' : a ∈ (if j = x then [] else Fs3 j) := hb
            by_cases m : j = x
            · rw [if_pos m] at hb'; cases hb'
            · rw [if_neg m] at hb'
              rcases List.mem_cons.mp ha with rfl | ha
              · exact hR3.nf a (List.mem_cons_self ..) j hb'
              · rcases List.mem_append.mp ha with ha | ha
                · rcases List.mem_append.mp ha with ha | ha
                  · exact hR3.nf a (inR a (List.mem_cons_of_mem _ (List.mem_append_left _ ha))) j hb'
                  · exact p3.good.dj x j (Ne.symm m) a ha hb'
                · exact hR3.nf a (inR a (List.mem_cons_of_mem _ (List.mem_append_right _ ha))) j hb'
          · rcases List.mem_cons.mp ha with rfl | ha
            · exact hR3.nz a (List.mem_cons_self ..)
            · rcases List.mem_append.mp ha with ha | ha
              · rcases List.mem_append.mp ha with ha | ha
                · exact hR3.nz a (inR a (List.mem_cons_of_mem _ (List.mem_append_left _ ha)))
                · exact p3.good.nz x a ha
              · exact hR3.nz a (inR a (List.mem_cons_of_mem _ (List.mem_append_right _ ha)))
          · have old : ∀ b, b ∈ p :: (F1' ++ F2') → H b = none ∨ ∃ j ∈ mv, b ∈ Fs j := fun b hb => new1 b (sub b (inR b hb))
            rcases List.mem_cons.mp ha with rfl | ha
            · exact old a (List.mem_cons_self ..)
            · rcases List.mem_append.mp ha with ha | ha
              · rcases List.mem_append.mp ha with ha | ha
                · exact old a (List.mem_cons_of_mem _ (List.mem_append_left _ ha))
                · exact newN a ha
              · exact old a (List.mem_cons_of_mem _ (List.mem_append_right _ ha))
        | ret x => cases ev1
        | brk => cases ev1
        | cont => cases ev1
      · have e : i = ds.length := by omega
        subst e
        rw [List.drop_length] at ev1 oT
        cases ev1
        rw [List.append_nil] at ey
        subst ey
        have tv : vs.take ds.length = vs := List.take_of_length_le (by omega)
        have dv : vs.drop ds.length = [] := List.drop_eq_nil_of_le (by omega)
        rw [dv] at oT
        unfold OwnAll at oT
        obtain ⟨_, rfl⟩ := oT
        rw [tv] at oD
        rw [List.append_nil] at eF1
        subst eF1
        refine .inl ⟨⟨vs, .inl (.inl hp1), by omega⟩, ?_⟩
        obtain ⟨np, nD⟩ := List.nodup_cons.mp hd1.nd
        obtain ⟨F', sb, qq⟩ := OwnL.to (m := minAll (xs.map dep)) oD nD (Nat.le_refl _)
        -- back into the slot
        have pp : Post X.K (PM X.K p vs ds.length k xs []) [] mv H Z Fs σ1 _ H1 Z1 Fs1 (p :: FD) := ⟨t, g, ⟨by
            have := hd1.pr
            rw [List.drop_length] at this
            exact this, hd1.nd, hd1.nf, hd1.nz⟩, new1⟩
        have p2 : Post X.K (POne X.K (.ref p) (.list (xs.map (·.1)), minAll (xs.map dep) + 1)) [] mv H Z Fs σ1 _ H1 _ Fs1 (p :: F') := pp.shared (stb_pm _ _ _ _ _ _) (sb.cons₂ p) (by
          show Own X.K _ _ (minAll (xs.map dep) + 1) _ (.list (xs.map (·.1))) _
          unfold Own
          refine ⟨p, vs, F', rfl, hp1, qq _ (fun a z => .inl (.inl (zf0 z))) fun a ha hn => .inl (.inr ⟨List.mem_cons_of_mem _ ha, fun h => ?_⟩), rfl⟩
          rcases List.mem_cons.mp h with h | h
          · exact np (h ▸ ha)
          · exact hn h)
        have p3 := p2.put y
        have eσ : σ1.set y (some (.ref p)) = σ1 := by
          refine List.ext_getElem? fun j => ?_
          by_cases m : y = j
          · subst m
            have ey1 : σ1[y]? = some (some (.ref p)) := (st y (by
              intro h
              rcases List.mem_cons.mp h with h | h
              · exact nyx h
              · exact nyA h)).trans ev
            rw [List.getElem?_set_self (List.getElem?_eq_some_iff.mp ey1).1, ey1]
          · rw [List.getElem?_set_ne m]
        rw [eσ] at p3
        refine q σ1 H1 _ _ ⟨p3.tr.weak fun j hj => ?_, p3.good, st, ln⟩
        rcases List.mem_append.mp hj with h | h
        · exact h
        · rw [List.mem_singleton.mp h]; exact my
    · cases e
  | _ => cases e
end
end Sq
end

section
namespace Sq
open PySem PySem.Spec L2
/-! ### the head, with a further look at what the top wrote -/
abbrev AlB : Type := Bool × He.AlD
def obsB (B : PySem.W.Frag → Bool) (fa : List He.Fa) (fn : List He.DefD) (K : PySem.W.Frag) : AlB := (B K, He.obsD fa fn K)
def SaysB (B : PySem.W.Frag → Bool) (fa : List He.Fa) (fn : List He.DefD) (K : PySem.W.Frag) : Prop := obsB B fa fn K = (true, He.valD fn)
def obsBG (B : PySem.W.Frag → Bool) (n : Nat) (fa : List He.Fa) (fn : List He.DefD) (g : Addr → Option Obj) : AlB := obsB B fa fn (He.frG g (He.asD g n))
def hookB (B : PySem.W.Frag → Bool) (n : Nat) (fa : List He.Fa) (fn : List He.DefD) : PySem.W.Hook where
  α := AlB
  obs := fun s => obsBG B n fa fn s.heap.get?
  val := fun _ => (true, He.valD fn)
  says := fun _ h => ∃ K : PySem.W.Frag, K.In h ∧ SaysB B fa fn K
  of := fun _ _ e => ⟨_, He.frG_in, e⟩
  keeps := fun _ _ _ ⟨K, hK, c⟩ k => ⟨K, PySem.W.Frag.In.keeps hK k, c⟩
theorem obsBG_eq {B : PySem.W.Frag → Bool} {n : Nat} {fa : List He.Fa} {fn : List He.DefD} {g : Addr → Option Obj} {s : Shared} (h : ∀ a, g a = s.heap.get? a) : obsBG B n fa fn g = (hookB B n fa fn).obs s := by
  have e : g = s.heap.get? := funext h
  rw [e] <;> rfl
theorem SaysB.d {B : PySem.W.Frag → Bool} {fa : List He.Fa} {fn : List He.DefD} {K : PySem.W.Frag} (h : SaysB B fa fn K) : He.SaysD fa fn K := congrArg (fun z : AlB => z.2) h
theorem SaysB.b {B : PySem.W.Frag → Bool} {fa : List He.Fa} {fn : List He.DefD} {K : PySem.W.Frag} (h : SaysB B fa fn K) : B K = true := congrArg (fun z : AlB => z.1) h
/-- no list of the top's has an int first, or nothing at all -/
def lstOff (o : Obj) : Bool := match o.data with
  | .seq its _ => (match its.toList with
    | .str _ _ :: _ => true
    | .ref _ :: _ => true
    | _ => false)
  | _ => true
def noIntL (K : PySem.W.Frag) : Bool := K.all fun p => !(decide (p.2.cls = .type "list")) || lstOff p.2
theorem lk_mem {a : Addr} {o : Obj} : ∀ {l : List (Addr × Obj)}, l.lookup a = some o → (a, o) ∈ l
  | [], h => by cases h
  | (b, u) :: r, h => by
    have h2 : (match a == b with | true => some u | false => r.lookup a) = some o := h
    cases q : (a == b) with
    | true =>
      rw [q] at h2
      have e : u = o := Option.some.inj h2
      rw [beq_iff_eq.mp q, e]
      exact List.mem_cons_self
    | false =>
      rw [q] at h2
      exact List.mem_cons_of_mem _ (lk_mem h2)
theorem script_rd {K : PySem.W.Frag} {H : Hp} {a : Addr} {ns : List Int} (b : noIntL K = true) (h : SqL K H a (ns.map V.int)) : Rd H a (.lst (ns.map V.int)) := by
  rcases h with h | ⟨o, its, n, lk, hc, _, hd, _, hv⟩
  · exact h
  · exfalso
    have q := List.all_eq_true.mp b (a, o) (lk_mem lk)
    simp only [hc, decide_true, Bool.not_true, Bool.false_or] at q
    unfold lstOff at q
    rw [hd] at q
    cases ns with
    | nil =>
      rw [List.map_nil] at hv
      have : its.toList = [] := by
        cases e : its.toList with
        | nil => rfl
        | cons x r => rw [e] at hv; cases hv
      simp only [this] at q
      cases q
    | cons i ns =>
      rw [List.map_cons] at hv
      cases e : its.toList with
      | nil => rw [e] at hv; cases hv
      | cons x r =>
        rw [e] at hv
        cases hv with
        | cons r1 r2 =>
          obtain ⟨t, rfl⟩ := (show ∃ t, x = Value.int i t from r1)
          simp only [e] at q
          cases q
theorem ints_own {K : PySem.W.Frag} {Z : Zs} {H : Hp} : ∀ ns : List Int, OwnAll K Z H 0 (ns.map V.int) (ns.map PyData.int) []
  | [] => by
    show OwnAll K Z H 0 [] [] []
    unfold OwnAll
    exact ⟨rfl, rfl⟩
  | n :: ns => by
    rw [List.map_cons, List.map_cons]
    unfold OwnAll
    exact ⟨.int n, ns.map V.int, [], [], rfl, int_own, ints_own ns, rfl⟩
/-- the law's promise from what it is worth -/
theorem law_sp {K : PySem.W.Frag} {H : Hp} {a : Addr} {ns : List Int} {g : Fn} {E : XK} (b : noIntL K = true) (h : SqL K H a (ns.map V.int)) (hg : ∃ kk fin, g [(.list (ns.map .int), 0)] = .ok ((.bool true, kk), fin)) : spF K 1 g [.ref a] H (fun v _ => v = .bl true) E := by
  obtain ⟨kk, fin, e⟩ := hg
  have r := script_rd b h
  refine ⟨rfl, fun p => p = a, [(.list (ns.map .int), 0)], fun _ => [], _, fin, ⟨rfl, fun i d k es => ?_, fun i => List.nodup_nil, fun i j n x hx => (by cases hx), fun i x hx => (by cases hx), fun i x hx => (by cases hx), fun x z => ?_⟩, e, fun v H' Z' Fa' F p => ?_⟩
  · cases i with
    | zero =>
      have es' : ((PyData.list (ns.map .int), 0) : DV) = (d, k) := Option.some.inj (Option.some.inj es)
      cases es'
      refine ⟨.ref a, rfl, ?_⟩
      unfold Own
      exact ⟨a, ns.map V.int, rfl, ⟨rfl, r⟩, ints_own ns⟩
    | succ i => simp at es
  · subst z
    rcases r with r | ⟨o, r⟩
    · exact ⟨_, r⟩
    · exact ⟨_, r⟩
  · exact own_bl p.held.pr
/-! ### defs by levels -/
abbrev FnP (K : PySem.W.Frag) (x : Str) (st : Stmt) (f : Addr) (fd : FuncData) : Prop := FunD K x x (defArgs st) (defBody st) (defScope st) [] [] f fd
theorem fn0 {P : Program} {w : World} {K : PySem.W.Frag} {mg : Str → Option Value} {base : Heap} {CX : CXT} {k : Nat} {f : Addr} {fd : FuncData} {ps : List Str} {n : Nat} {g : Fn} (hg : ∀ xs, g xs = .bad) (hl : n = ps.length) : FnOk P w K mg base CX k f fd ps (spF K n g) :=
  ⟨fun vs H Q E h => h.1.trans hl, fun A outer s H args us vs Q E _ _ _ _ h => by
    obtain ⟨_, Z, ds, Fa, z, fin, _, e, _⟩ := h
    rw [hg] at e
    cases e⟩
def subs (a b : List Nat) : Bool := a.all fun i => b.contains i
theorem subs_ok {a b : List Nat} (h : subs a b = true) : ∀ i ∈ a, i ∈ b := fun i hi => by
  unfold subs at h
  rw [List.all_eq_true] at h
  simpa using h i hi
theorem tS_weak {K : PySem.W.Frag} {a1 a2 m : List Nat} {f : Sx} {D : Ends} {σ : L2.St} {H : Hp} (ha : ∀ i ∈ a1, i ∈ a2) (h : tS K a2 m f D σ H) : tS K a1 m f D σ H := by
  obtain ⟨Z, s, Fs, fl, s', g, e, q⟩ := h
  exact ⟨Z, s, Fs, fl, s', g, e, q.weak ha fun i h => h⟩
/-- THE RULE for a def -/
theorem fn_step {P : Program} {w : World} {K : PySem.W.Frag} {mg : Str → Option Value} {base : Heap} {x : Str} {st : Stmt} {f : Addr} {fd : FuncData} {N ps : List Str} {k n np : Nat} {asg : List Nat} {body : Sx} (F : FnP K x st f fd) (S : FnScope N ps (defScope st)) (hN : N.length = n) (hp : ps.length = np)
    (hb : ∀ (cdv : Value) (A : Around) (outer : List Env) (s : Shared) (H : Hp) (E : XK), Room k (A.deeper (PyProof.Rows.envOfC x (defScope st) s.heap.objs.size f cdv)) →
      ∃ a m, PSs (cxOf CX0 P w K mg base N x (defScope st) f cdv A outer s H E).nox (defBody st) (tS K a m body) ∧ subs a asg = true) : FnOk P w K mg base CX0 (k + 1) f fd ps (spF K np (defn n np asg body)) := by
  refine F.ok S (fun vs H Q E h => h.1.trans hp.symm) (fun cdv A outer s H vs Q E hr h => ?_)
  obtain ⟨a, m, hps, hs⟩ := hb cdv A outer s H E hr
  refine ⟨_, PSs.nox hps, ?_⟩
  have := def_ok (mv := m) h fun _ _ => .inr trivial
  rw [← hN] at this
  exact tS_weak (subs_ok hs) this
theorem hu64 {A : Around} {k : Nat} (hr : Room k A) : A.units + 64 < cLine := by have := hr.un; omega
theorem hu65 {A : Around} {k : Nat} (hr : Room k A) : A.units + 65 < cLine := by have := hr.un; omega
end Sq
end

section
namespace Sq
open PySem PySem.Spec L2
/-! ### short words for derivations -/
def gSub : DV → DV → Res DV := gI fun i j => i - j
def gXor : DV → DV → Res DV := gI Builtin.bitXor
def gLt : DV → DV → Res DV := gB fun i j => decide (i < j)
def gLe : DV → DV → Res DV := gB fun i j => decide (i ≤ j)
def gGt : DV → DV → Res DV := gB fun i j => decide (j < i)
def gGe : DV → DV → Res DV := gB fun i j => decide (j ≤ i)
section
variable {X : Cx} {e a b : Expr} {es : List Expr} {pos p : Pos} {fv mv fva mva fvb mvb : List Nat} {f fa fb : Ex} {fs : Exs} {io : List (Nat × Nat)} {k : Nat}
theorem xv (i : Nat) {x : Str} {pos : Pos} (hN : X.N[i]? = some x := by rfl) (hv : Vis X.env.scope x := by first | exact Or.inl rfl | exact Or.inr (Or.inl rfl) | exact Or.inr (Or.inr rfl)) (hd : (x == ("__debug__" : Str)) = false := by decide) (hcd : (x == ("__classdict__" : Str)) = false := by decide) : PE X (.Name x pos) (tE X.K [i] [] (eVar i)) := re_var hN hv hd hcd
theorem xm (i : Nat) {x : Str} {pos : Pos} (hN : X.N[i]? = some x := by rfl) (hv : Vis X.env.scope x := by first | exact Or.inl rfl | exact Or.inr (Or.inl rfl) | exact Or.inr (Or.inr rfl)) (hd : (x == ("__debug__" : Str)) = false := by decide) (hcd : (x == ("__classdict__" : Str)) = false := by decide) : PE X (.Name x pos) (tE X.K [] [i] (eMove i)) := re_move hN hv hd hcd
theorem xp (i : Nat) {x : Str} {pos : Pos} (hN : X.N[i]? = some x := by rfl) (hv : Vis X.env.scope x := by first | exact Or.inl rfl | exact Or.inr (Or.inl rfl) | exact Or.inr (Or.inr rfl)) (hd : (x == ("__debug__" : Str)) = false := by decide) (hcd : (x == ("__classdict__" : Str)) = false := by decide) : PE X (.Name x pos) (tP X.K i [] (pSlot i)) := rp_slot hN hv hd hcd
theorem xio (i : Nat) {x : Str} {pos : Pos} (hr : PA X es (tA X.K fvb mvb io fs)) (hN : X.N[i]? = some x := by rfl) (hv : Vis X.env.scope x := by first | exact Or.inl rfl | exact Or.inr (Or.inl rfl) | exact Or.inr (Or.inr rfl)) (hs : starEach (.Name x pos :: es) X.env = (false, eval (.Name x pos) X.env) :: starEach es X.env := by rfl) (hd : (x == ("__debug__" : Str)) = false := by decide) (hcd : (x == ("__classdict__" : Str)) = false := by decide) : PA X (.Name x pos :: es) (tA X.K fvb (i :: mvb) ((0, i) :: ioUp io) (eCons (eMove i) fs)) := ra_io hN hv hr hs hd hcd
theorem xadd (ha : PE X a (tE X.K fva mva fa)) (hb : PE X b (tE X.K fvb mvb fb)) (d : djn fva mvb = true := by rfl) : PE X (.BinOp a .Add b pos) (tE X.K (fva ++ fvb) (mva ++ mvb) (ev2 gAdd fa fb)) := re_op op_addX ok_add ha hb d
theorem xsub (ha : PE X a (tE X.K fva mva fa)) (hb : PE X b (tE X.K fvb mvb fb)) (d : djn fva mvb = true := by rfl) : PE X (.BinOp a .Sub b pos) (tE X.K (fva ++ fvb) (mva ++ mvb) (ev2 gSub fa fb)) := re_op op_sub ok_gI0 ha hb d
theorem xmul (ha : PE X a (tE X.K fva mva fa)) (hb : PE X b (tE X.K fvb mvb fb)) (d : djn fva mvb = true := by rfl) : PE X (.BinOp a .Mult b pos) (tE X.K (fva ++ fvb) (mva ++ mvb) (ev2 gMul fa fb)) := re_op op_mulX ok_mul ha hb d
theorem xfdiv (ha : PE X a (tE X.K fva mva fa)) (hb : PE X b (tE X.K fvb mvb fb)) (d : djn fva mvb = true := by rfl) : PE X (.BinOp a .FloorDiv b pos) (tE X.K (fva ++ fvb) (mva ++ mvb) (ev2 gFdiv fa fb)) := re_op op_fdiv ok_fdiv ha hb d
theorem xmod (ha : PE X a (tE X.K fva mva fa)) (hb : PE X b (tE X.K fvb mvb fb)) (d : djn fva mvb = true := by rfl) : PE X (.BinOp a .Mod b pos) (tE X.K (fva ++ fvb) (mva ++ mvb) (ev2 gMod fa fb)) := re_op op_mod ok_mod ha hb d
theorem xpow (ha : PE X a (tE X.K fva mva fa)) (hb : PE X b (tE X.K fvb mvb fb)) (d : djn fva mvb = true := by rfl) : PE X (.BinOp a .Pow b pos) (tE X.K (fva ++ fvb) (mva ++ mvb) (ev2 gPow fa fb)) := re_op op_pow ok_pow ha hb d
theorem xxor (ha : PE X a (tE X.K fva mva fa)) (hb : PE X b (tE X.K fvb mvb fb)) (d : djn fva mvb = true := by rfl) : PE X (.BinOp a .BitXor b pos) (tE X.K (fva ++ fvb) (mva ++ mvb) (ev2 gXor fa fb)) := re_op op_xor ok_gI0 ha hb d
theorem xeq (hr : Room k X.A) (ha : PE X a (tE X.K fva mva fa)) (hb : PE X b (tE X.K fvb mvb fb)) (d : djn fva mvb = true := by rfl) (hm : behindInMarks .Eq b = false := by rfl) : PE X (.Compare a [.Eq] [b] pos) (tE X.K (fva ++ fvb) (mva ++ mvb) (ev2 gEq fa fb)) := re_cmp (op_eqD (hu64 hr)) ok_eq ha hb d hm
theorem xne (hr : Room k X.A) (ha : PE X a (tE X.K fva mva fa)) (hb : PE X b (tE X.K fvb mvb fb)) (d : djn fva mvb = true := by rfl) (hm : behindInMarks .NotEq b = false := by rfl) : PE X (.Compare a [.NotEq] [b] pos) (tE X.K (fva ++ fvb) (mva ++ mvb) (ev2 gNe fa fb)) := re_cmp (op_neD (hu64 hr)) ok_ne ha hb d hm
theorem xin (hr : Room k X.A) (ha : PE X a (tE X.K fva mva fa)) (hb : PE X b (tE X.K fvb mvb fb)) (d : djn fva mvb = true := by rfl) (hm : behindInMarks .In b = false := by rfl) : PE X (.Compare a [.In] [b] pos) (tE X.K (fva ++ fvb) (mva ++ mvb) (ev2 gIn fa fb)) := re_cmp (op_inD (hu65 hr)) ok_in ha hb d hm
theorem xnotin (hr : Room k X.A) (ha : PE X a (tE X.K fva mva fa)) (hb : PE X b (tE X.K fvb mvb fb)) (d : djn fva mvb = true := by rfl) (hm : behindInMarks .NotIn b = false := by rfl) : PE X (.Compare a [.NotIn] [b] pos) (tE X.K (fva ++ fvb) (mva ++ mvb) (ev2 gNotIn fa fb)) := re_cmp (op_notInD (hu65 hr)) ok_notIn ha hb d hm
theorem xlt (ha : PE X a (tE X.K fva mva fa)) (hb : PE X b (tE X.K fvb mvb fb)) (d : djn fva mvb = true := by rfl) (hm : behindInMarks .Lt b = false := by rfl) : PE X (.Compare a [.Lt] [b] pos) (tE X.K (fva ++ fvb) (mva ++ mvb) (ev2 gLt fa fb)) := re_cmp op_lt ok_gB0 ha hb d hm
theorem xle (ha : PE X a (tE X.K fva mva fa)) (hb : PE X b (tE X.K fvb mvb fb)) (d : djn fva mvb = true := by rfl) (hm : behindInMarks .LtE b = false := by rfl) : PE X (.Compare a [.LtE] [b] pos) (tE X.K (fva ++ fvb) (mva ++ mvb) (ev2 gLe fa fb)) := re_cmp op_le ok_gB0 ha hb d hm
theorem xgt (ha : PE X a (tE X.K fva mva fa)) (hb : PE X b (tE X.K fvb mvb fb)) (d : djn fva mvb = true := by rfl) (hm : behindInMarks .Gt b = false := by rfl) : PE X (.Compare a [.Gt] [b] pos) (tE X.K (fva ++ fvb) (mva ++ mvb) (ev2 gGt fa fb)) := re_cmp op_gt ok_gB0 ha hb d hm
theorem xge (ha : PE X a (tE X.K fva mva fa)) (hb : PE X b (tE X.K fvb mvb fb)) (d : djn fva mvb = true := by rfl) (hm : behindInMarks .GtE b = false := by rfl) : PE X (.Compare a [.GtE] [b] pos) (tE X.K (fva ++ fvb) (mva ++ mvb) (ev2 gGe fa fb)) := re_cmp op_ge ok_gB0 ha hb d hm
theorem zeq (hr : Room k X.A) (ha : PE X a (tE X.K fva mva fa)) (hb : PE X b (tE X.K fvb mvb fb)) (d : djn fva mvb = true := by rfl) (hm : behindInMarks .Eq b = false := by rfl) : PT X (.Compare a [.Eq] [b] pos) (tT X.K (mva ++ mvb) (tst (ev2 gEq fa fb))) := rt_cmp (op_eqD (hu64 hr)) ok_eq ha hb d hm
theorem zne (hr : Room k X.A) (ha : PE X a (tE X.K fva mva fa)) (hb : PE X b (tE X.K fvb mvb fb)) (d : djn fva mvb = true := by rfl) (hm : behindInMarks .NotEq b = false := by rfl) : PT X (.Compare a [.NotEq] [b] pos) (tT X.K (mva ++ mvb) (tst (ev2 gNe fa fb))) := rt_cmp (op_neD (hu64 hr)) ok_ne ha hb d hm
theorem zin (hr : Room k X.A) (ha : PE X a (tE X.K fva mva fa)) (hb : PE X b (tE X.K fvb mvb fb)) (d : djn fva mvb = true := by rfl) (hm : behindInMarks .In b = false := by rfl) : PT X (.Compare a [.In] [b] pos) (tT X.K (mva ++ mvb) (tst (ev2 gIn fa fb))) := rt_cmp (op_inD (hu65 hr)) ok_in ha hb d hm
theorem znotin (hr : Room k X.A) (ha : PE X a (tE X.K fva mva fa)) (hb : PE X b (tE X.K fvb mvb fb)) (d : djn fva mvb = true := by rfl) (hm : behindInMarks .NotIn b = false := by rfl) : PT X (.Compare a [.NotIn] [b] pos) (tT X.K (mva ++ mvb) (tst (ev2 gNotIn fa fb))) := rt_cmp (op_notInD (hu65 hr)) ok_notIn ha hb d hm
theorem zlt (ha : PE X a (tE X.K fva mva fa)) (hb : PE X b (tE X.K fvb mvb fb)) (d : djn fva mvb = true := by rfl) (hm : behindInMarks .Lt b = false := by rfl) : PT X (.Compare a [.Lt] [b] pos) (tT X.K (mva ++ mvb) (tst (ev2 gLt fa fb))) := rt_cmp op_lt ok_gB0 ha hb d hm
theorem zle (ha : PE X a (tE X.K fva mva fa)) (hb : PE X b (tE X.K fvb mvb fb)) (d : djn fva mvb = true := by rfl) (hm : behindInMarks .LtE b = false := by rfl) : PT X (.Compare a [.LtE] [b] pos) (tT X.K (mva ++ mvb) (tst (ev2 gLe fa fb))) := rt_cmp op_le ok_gB0 ha hb d hm
theorem zgt (ha : PE X a (tE X.K fva mva fa)) (hb : PE X b (tE X.K fvb mvb fb)) (d : djn fva mvb = true := by rfl) (hm : behindInMarks .Gt b = false := by rfl) : PT X (.Compare a [.Gt] [b] pos) (tT X.K (mva ++ mvb) (tst (ev2 gGt fa fb))) := rt_cmp op_gt ok_gB0 ha hb d hm
theorem zge (ha : PE X a (tE X.K fva mva fa)) (hb : PE X b (tE X.K fvb mvb fb)) (d : djn fva mvb = true := by rfl) (hm : behindInMarks .GtE b = false := by rfl) : PT X (.Compare a [.GtE] [b] pos) (tT X.K (mva ++ mvb) (tst (ev2 gGe fa fb))) := rt_cmp op_ge ok_gB0 ha hb d hm
theorem xlen (hm : X.mg "len" = none) (ha : PA X [e] (tA X.K fv mv io fs)) (hg : Gl X "len" := by rfl) (he : starEach [e] X.env = (false, eval e X.env) :: starEach [] X.env := by rfl) (hpl : (backTo pos (starEach [] X.env)).any (·.1) = false := by rfl) : PE X (.Call (.Name "len" p) [e] [] pos) (tE X.K fv mv (evN gLen fs)) := re_callB (CallR.or call_len_seq call_len_str) ok_len hg hm PySem.boot_len ha (by decide) (by decide) he hpl
theorem xabs (hm : X.mg "abs" = none) (ha : PA X [e] (tA X.K fv mv io fs)) (hg : Gl X "abs" := by rfl) (he : starEach [e] X.env = (false, eval e X.env) :: starEach [] X.env := by rfl) (hpl : (backTo pos (starEach [] X.env)).any (·.1) = false := by rfl) : PE X (.Call (.Name "abs" p) [e] [] pos) (tE X.K fv mv (evN gAbs fs)) := re_callB call_abs ok_abs hg hm (by decide +kernel) ha (by decide) (by decide) he hpl
theorem xint (hm : X.mg "int" = none) (ha : PA X [e] (tA X.K fv mv io fs)) (hg : Gl X "int" := by rfl) (he : starEach [e] X.env = (false, eval e X.env) :: starEach [] X.env := by rfl) (hpl : (backTo pos (starEach [] X.env)).any (·.1) = false := by rfl) : PE X (.Call (.Name "int" p) [e] [] pos) (tE X.K fv mv (evN gInt fs)) := re_callT call_int1 ok_int hg hm (by decide +kernel) ha (by decide) (by decide) he hpl
theorem xset {i : Nat} {x : Str} {pos' : Pos} (hN : X.N.Nodup) (he : PE X e (tE X.K fv mv f)) (hi : X.N[i]? = some x := by rfl) (hx : L2.Loc X.env.scope x := by first | exact Or.inl rfl | exact Or.inr rfl) (hs : swapsWith e (some (.Name x pos')) pos.line X.env = pure false := by rfl) (hf : X.fn x = true ∨ X.env.scope.names.lookup x = some .local := by first | exact .inl rfl | exact .inr rfl | assumption) :
    PS X (.Assign [.Name x pos'] e pos) (tS X.K [i] (mv ++ fv ++ [i]) (sAsg i fv f)) := rs_asg hN hi hx he hs hf
theorem xg (i : Nat) {x : Str} {pos : Pos} (hN : X.N.Nodup) (hi : X.N[i]? = some x := by rfl) (hx : L2.Loc X.env.scope x := by first | exact Or.inl rfl | exact Or.inr rfl) (hf : X.fn x = true ∨ X.env.scope.names.lookup x = some .local := by first | exact .inl rfl | exact .inr rfl | assumption) : PG X (.Name x pos) (tG X.K [i] (bName i)) := rg_name hN hi hx hf
theorem xty (c : Cl) {pos : Pos} (hm : X.mg c.nm = none) (hg : Gl X c.nm := by rfl) : PE X (.Name c.nm pos) (tC (.ty c.nm)) :=
  pe_bltn (u := .type c.nm) hg hm (by cases c <;> decide +kernel) (by cases c <;> rfl) (by cases c <;> decide) (by cases c <;> decide)
end
end Sq
end

section
namespace Sq
open PySem PySem.Spec L2
/-! ### plain reckoning with the worths -/
section
variable {s : SD} {i : Nat} {fv mv : List Nat} {a b : Ex} {as : Exs} {g2 : DV → DV → Res DV} {g1 : DV → Res DV} {gn : List DV → Res DV} {x : DV} {c d : Tst} {p q : Sx}
@[simp] theorem qC (t : PyData) : eC t s = .ok ((t, 0), s) := rfl
@[simp] theorem qVar : eVar i s = (slot s i >>= fun x => .ok ((x.1, 0), s)) := rfl
@[simp] theorem qMove : eMove i s = (slot s i >>= fun x => .ok (x, s.set i none)) := rfl
@[simp] theorem q2 : ev2 g2 a b s = (a s >>= fun x => b x.2 >>= fun y => g2 x.1 y.1 >>= fun z => .ok (z, y.2)) := rfl
@[simp] theorem q1 : ev1 g1 a s = (a s >>= fun x => g1 x.1 >>= fun z => .ok (z, x.2)) := rfl
@[simp] theorem qN : evN gn as s = (as s >>= fun x => gn x.1 >>= fun z => .ok (z, x.2)) := rfl
@[simp] theorem qNil : eNil s = .ok ([], s) := rfl
@[simp] theorem qCons : eCons a as s = (a s >>= fun x => as x.2 >>= fun y => .ok (x.1 :: y.1, y.2)) := rfl
@[simp] theorem qCall {g : Fn} {bk : List (Nat × Nat)} : evCall g bk as s = (as s >>= fun x => g x.1 >>= fun z => .ok (z.1, putBack z.2 bk x.2)) := rfl
@[simp] theorem qTst : tst a s = (a s >>= fun x => match x.1.1 with | .bool b => .ok (b, x.2) | _ => .bad) := rfl
@[simp] theorem qAnd2 : tAnd2 c d s = (c s >>= fun x => if x.1 then d x.2 else .ok (false, x.2)) := rfl
@[simp] theorem qOr2 : tOr2 c d s = (c s >>= fun x => if x.1 then .ok (true, x.2) else d x.2) := rfl
@[simp] theorem qNot2 : tNot2 c s = (c s >>= fun x => .ok (!x.1, x.2)) := rfl
@[simp] theorem qYes2 : tYes2 s = .ok (true, s) := rfl
@[simp] theorem qAnd : evAnd a b s = (a s >>= fun x => match x.1.1 with | .bool true => b x.2 | .bool false => .ok ((.bool false, 0), x.2) | _ => .bad) := rfl
@[simp] theorem qOr : evOr a b s = (a s >>= fun x => match x.1.1 with | .bool true => .ok ((.bool true, 0), x.2) | .bool false => b x.2 | _ => .bad) := rfl
@[simp] theorem qAsg : sAsg i fv a s = (a s >>= fun x => .ok (.next, (settle fv x.1 x.2).set i (some x.1))) := rfl
@[simp] theorem qExpr : sExpr a s = (a s >>= fun x => .ok (.next, x.2)) := rfl
@[simp] theorem qRet : sRet fv a s = (a s >>= fun x => .ok (.ret x.1, settle fv x.1 x.2)) := rfl
@[simp] theorem qSkip : sSkip s = .ok (.next, s) := rfl
@[simp] theorem qIf : sIf c p q s = (c s >>= fun t => if t.1 then p t.2 else q t.2) := rfl
theorem qSeq : sSeq p q s = (p s >>= fun t => match t.1 with | .next => q t.2 | fl => .ok (fl, t.2)) := rfl
theorem seq_next {s' : SD} (h : p s = .ok (.next, s')) : sSeq p q s = q s' := by rw [qSeq, h]; rfl
theorem seq_ret {s' : SD} (h : p s = .ok (.ret x, s')) : sSeq p q s = .ok (.ret x, s') := by rw [qSeq, h]; rfl
@[simp] theorem qFor {bd : Bd} {it : Src} : sFor bd fv it p s = (it s >>= fun x => loopF bd p x.1 (demote fv x.2)) := rfl
@[simp] theorem full_int (n : Int) (k : Nat) : full (.int n, k) = true := by simp [full, hgt]
@[simp] theorem full_bl (n : Bool) (k : Nat) : full (.bool n, k) = true := by simp [full, hgt]
@[simp] theorem full_str (n : Str) (k : Nat) : full (.str n, k) = true := by simp [full, hgt]
@[simp] theorem full_none (k : Nat) : full (.none, k) = true := by simp [full, hgt]
@[simp] theorem dep_int (n : Int) (k : Nat) : dep (.int n, k) = 9 := by simp [dep]
@[simp] theorem dep_bl (n : Bool) (k : Nat) : dep (.bool n, k) = 9 := by simp [dep]
@[simp] theorem dep_str (n : Str) (k : Nat) : dep (.str n, k) = 9 := by simp [dep]
@[simp] theorem slot0 {o : DV} {r : SD} : slot (some o :: r) 0 = .ok o := rfl
@[simp] theorem slotS {o : Option DV} {r : SD} : slot (o :: r) (i + 1) = slot r i := by simp [slot]
theorem settle_full (h : full x = true) : settle fv x s = s := by simp [settle, h]
@[simp] theorem settle_int (n : Int) (k : Nat) : settle fv (.int n, k) s = s := settle_full (full_int ..)
@[simp] theorem settle_bl (n : Bool) (k : Nat) : settle fv (.bool n, k) s = s := settle_full (full_bl ..)
@[simp] theorem putBack0 (f : SD) : putBack f [] s = s := rfl
@[simp] theorem putBack1 (f : SD) (j : Nat) : putBack f [(j, i)] s = s.set i (keepFull ((f[j]?).getD none)) := rfl
theorem keep_full (h : full x = true) : keepFull (some x) = some x := by simp [keepFull, h]
@[simp] theorem hgtAll_ints (ns : List Int) : hgtAll (ns.map .int) = 0 := by
  induction ns with
  | nil => rfl
  | cons n ns ih => simp [hgtAll, hgt, ih]
@[simp] theorem hgt_ints (ns : List Int) : hgt (.list (ns.map .int)) = 1 := by simp [hgt]
/-- a loop that holds an invariant and never ends early -/
theorem loopF_inv {bd : Bd} {body : Sx} (I : SD → Prop) (ds : List PyData) (step : ∀ d ∈ ds, ∀ s, I s → ∃ s1 s2, bd (d, 0) s = .ok s1 ∧ body s1 = .ok (.next, s2) ∧ I s2) : ∀ s, I s → ∃ s', loopF bd body ds s = .ok (.next, s') ∧ I s' := by
  induction ds with
  | nil => exact fun s h => ⟨s, rfl, h⟩
  | cons d ds ih =>
    intro s h
    obtain ⟨s1, s2, e1, e2, h2⟩ := step d (List.mem_cons_self ..) s h
    obtain ⟨s', e, h'⟩ := ih (fun d hd => step d (List.mem_cons_of_mem _ hd)) s2 h2
    exact ⟨s', by rw [loopF, e1, Res.bind_ok, e2]; exact e, h'⟩
theorem defn_ret {n np : Nat} {asg : List Nat} {xs : List DV} {s0 s' : SD} (h0 : start1 n xs = s0) (h : p s0 = .ok (.ret x, s')) (hl : xs.length = np := by rfl) : defn n np asg p xs = .ok (x, finP np asg s') := by
  unfold defn
  rw [if_pos hl, h0, h]
  rfl
theorem seq_assoc {r : Sx} : sSeq (sSeq p q) r s = sSeq p (sSeq q r) s := by
  rw [qSeq, qSeq, qSeq]
  cases h : p s with
  | ok t =>
    obtain ⟨fl, t⟩ := t
    cases fl <;> simp only [Res.bind_ok, qSeq]
  | exc c p => rfl
  | bad => rfl
theorem seq_assocF {r : Sx} : sSeq (sSeq p q) r = sSeq p (sSeq q r) := funext fun _ => seq_assoc
/-- what is left when a run goes on -/
def nx (r : Res (Fl × SD)) : Option SD := match r with
  | .ok (.next, s) => some s
  | _ => none
theorem nx_ok {r : Res (Fl × SD)} {s' : SD} (h : nx r = some s') : r = .ok (.next, s') := by
  unfold nx at h
  split at h
  · cases h; rfl
  · cases h
theorem nx_view {α : Type} {r : Res (Fl × SD)} {f : SD → α} {a : α} (h : (nx r).map f = some a) : ∃ s', r = .ok (.next, s') ∧ f s' = a := by
  cases e : nx r with
  | none => rw [e] at h; cases h
  | some s' => rw [e] at h; exact ⟨s', nx_ok e, Option.some.inj h⟩
end
end Sq
end

section
namespace Lw
open PySem PySem.Spec L2 Sq
/-- round_square: 0 n, 1 r, 2 c -/
def m_round_square : Nat → Fn
  | 0 => fun _ => .bad
  | k + 1 => defn 3 1 [] (sRet [0, 0, 1, 2, 0] (evLc [1] [0] [] (bName 1) (iR1 (eCons (eVar 0) eNil)) tYes2 (evLc [2] [0] [] (bName 2) (iR1 (eCons (eVar 0) eNil)) tYes2 (ev2 gMod (ev2 gAdd (eVar 1) (eVar 2)) (eVar 0)))))
/-- _law_mixed: 0 _law_cell, 1 _law_k, 2 _law_number -/
def m_l_mixed : Nat → Fn
  | 0 => fun _ => .bad
  | k + 1 => defn 3 2 [2] (sSeq (sAsg 2 [0, 1] (ev2 gMod (ev2 gAdd (ev2 gAdd (ev2 gMul (ev2 gMod (eVar 0) (eC (.int 2147483647))) (eC (.int 48271))) (ev2 gMul (eVar 1) (eC (.int 69621)))) (eC (.int 11))) (eC (.int 2147483647))))
  (sSeq (sAsg 2 [2, 2] (ev2 gMod (ev2 gMul (eVar 2) (eVar 2)) (eC (.int 2147483629))))
  (sRet [2, 2] (ev2 gFdiv (ev2 gMod (ev2 gMul (eVar 2) (eVar 2)) (eC (.int 2147483587))) (eC (.int 64))))))
/-- _law_pile: 0 _law_script, 1 _law_k, 2 _law_cell -/
def m_l_pile : Nat → Fn
  | 0 => fun _ => .bad
  | k + 1 => defn 3 2 [2] (sSeq (sAsg 2 [] (eC (.int 0)))
  (sSeq (sIf (tst (ev2 gLt (eVar 1) (evN gLen (eCons (eVar 0) eNil))))
  (sAsg 2 [0, 1] (ev2 gIx (eVar 0) (eVar 1)))
  sSkip)
  (sRet [2, 2, 2, 1] (evN gList (eCons (ev2 gIx (evN gList (eCons (eC (.int 0)) (eCons (eVar 2) eNil))) (evN gInt (eCons (ev2 gGe (evN gAbs (eCons (eVar 2) eNil)) (ev2 gPow (eC (.int 10)) (eC (.int 18)))) eNil))) (eCons (eVar 2) (eCons (ev2 gMul (eC (.int 97)) (eVar 1)) eNil)))))))
/-- _law_take: 0 _law_pile_here, 1 _law_many, 2 _law_digit -/
def m_l_take : Nat → Fn
  | 0 => fun _ => .bad
  | k + 1 => defn 3 2 [2] (sSeq (sIf (tst (ev2 gIn (ev2 gIx (eVar 0) (eC (.int 0))) (evN gList (eCons (eC (.int 0)) (eCons (ev1 gNeg (eC (.int 1))) eNil)))))
  (sSeq (sSet 0 [0] (ev2 gAdd (ev2 gIx (eVar 0) (eC (.int 2))) (eC (.int 1))) (pSlot 0) (eC (.int 2)))
  (sRet [0, 0, 1] (ev2 gMod (evCall (m_l_mixed k) [] (eCons (ev2 gIx (eVar 0) (eC (.int 1))) (eCons (ev2 gIx (eVar 0) (eC (.int 2))) eNil))) (eVar 1))))
  sSkip)
  (sSeq (sAsg 2 [0, 1] (ev2 gMod (ev2 gIx (eVar 0) (eC (.int 0))) (eVar 1)))
  (sSeq (sSet 0 [0, 1] (ev2 gFdiv (ev2 gIx (eVar 0) (eC (.int 0))) (eVar 1)) (pSlot 0) (eC (.int 0)))
  (sRet [] (eMove 2)))))
/-- _law_plain: 0 _law_found, 1 _law_one -/
def m_l_plain : Nat → Fn
  | 0 => fun _ => .bad
  | k + 1 => defn 2 1 [] (sSeq (sIf (tst (ev1 (gIsA [.list, .tuple]) (eVar 0)))
  (sRet [0, 1] (ev2 gEq (evLc [1] [0] [] (bName 1) (iL (eVar 0)) (tNot2 (tst (evCall (m_l_plain k) [] (eCons (eVar 1) eNil)))) (eVar 1)) (evN gList eNil)))
  sSkip)
  (sRet [0] (evAnd (ev1 (gIsA [.int, .str]) (eVar 0)) (ev1 gNot (ev1 (gIsA [.bool]) (eVar 0))))))
/-- _law_same: 0 _law_found, 1 _law_due -/
def m_l_same : Nat → Fn
  | 0 => fun _ => .bad
  | k + 1 => defn 2 2 [] (sSeq (sIf (tOr2 (tst (ev2 gNe (ev1 (gIsA [.list]) (eVar 0)) (ev1 (gIsA [.list]) (eVar 1)))) (tst (ev2 gNe (eVar 0) (eVar 1))))
  (sRet [] (eC (.bool false)))
  sSkip)
  (sRet [0] (evCall (m_l_plain k) [] (eCons (eVar 0) eNil))))
def p_law_1_1 (k : Nat) : Sx := (sAsg 2 [0, 1] (evCall (m_l_pile k) [] (eCons (eVar 0) (eCons (eVar 1) eNil))))
def p_law_1_2 (k : Nat) : Sx := (sAsg 3 [] (ev2 gAdd (eC (.int 1)) (evCall (m_l_take k) [(0, 2)] (eCons (eMove 2) (eCons (eC (.int 9)) eNil)))))
def p_law_1_3 (k : Nat) : Sx := (sAsg 4 [3] (evCall (m_round_square k) [] (eCons (eVar 3) eNil)))
def p_law_1_4 (k : Nat) : Sx := (sAsg 5 [3, 3, 7, 8, 3] (evLc [7] [3] [] (bName 7) (iR1 (eCons (eVar 3) eNil)) tYes2 (evLc [8] [3] [] (bName 8) (iR1 (eCons (eVar 3) eNil)) tYes2 (ev2 gMod (ev2 gAdd (eVar 7) (eVar 8)) (eVar 3)))))
def p_law_1_5 (k : Nat) : Sx := (sIf (tOr2 (tNot2 (tst (evCall (m_l_same k) [] (eCons (eVar 4) (eCons (eVar 5) eNil))))) (tst (ev2 gNe (evLc [6] [4] [] (bName 6) (iL (eVar 4)) (tNot2 (tst (ev1 (gIsA [.list]) (eVar 6)))) (eVar 6)) (evN gList eNil))))
  (sRet [] (eC (.bool false)))
  sSkip)
def p_law_1_6 (k : Nat) : Sx := (sIf (tst (ev2 gNe (evLc [7] [3] [] (bName 7) (iR2 (eCons (eC (.int 1)) (eCons (eVar 3) eNil))) (tst (ev2 gNe (ev2 gIx (eVar 4) (eVar 7)) (ev2 gAdd (evSl (ev2 gIx (eVar 4) (ev2 gSub (eVar 7) (eC (.int 1)))) (oSome (eC (.int 1))) oNone) (evSl (ev2 gIx (eVar 4) (ev2 gSub (eVar 7) (eC (.int 1)))) oNone (oSome (eC (.int 1))))))) (eVar 7)) (evN gList eNil)))
  (sRet [] (eC (.bool false)))
  sSkip)
def p_law_1_7 (k : Nat) : Sx := (sExpr (evCall (m_round_square k) [] (eCons (ev2 gAdd (eC (.int 1)) (evCall (m_l_take k) [(0, 2)] (eCons (eMove 2) (eCons (eC (.int 9)) eNil)))) eNil)))
def p_law_1_8 (k : Nat) : Sx := (sIf (tOr2 (tst (ev2 gNe (eVar 4) (eVar 5))) (tOr2 (tst (ev2 gNe (evCall (m_round_square k) [] (eCons (eVar 3) eNil)) (eVar 5))) (tst (ev2 gNe (eVar 4) (eVar 5)))))
  (sRet [] (eC (.bool false)))
  sSkip)
def p_law_1_10 (k : Nat) : Sx := (sIf (tst (ev2 gNe (evLc [6] [4] [] (bName 6) (iL (eVar 4)) (tst (ev2 gNe (evN gLen (eCons (eVar 6) eNil)) (ev2 gAdd (eVar 3) (eC (.int 1))))) (eVar 6)) (evN gList eNil)))
  (sRet [] (eC (.bool false)))
  sSkip)
def p_law_1_12 (k : Nat) : Sx := (sIf (tst (ev2 gNe (evCall (m_round_square k) [] (eCons (eVar 3) eNil)) (eVar 5)))
  (sRet [] (eC (.bool false)))
  sSkip)
def p_law_1 (k : Nat) : Sx := (sFor (bName 1) [] (iR1 (eCons (eC (.int 9)) eNil))
  (sSeq (p_law_1_1 k)
  (sSeq (p_law_1_2 k)
  (sSeq (p_law_1_3 k)
  (sSeq (p_law_1_4 k)
  (sSeq (p_law_1_5 k)
  (sSeq (p_law_1_6 k)
  (sSeq (p_law_1_7 k)
  (sSeq (p_law_1_8 k)
  (sSeq (sForM 6 4 (sApp 6 (pSlot 6) [] (eC (.int 0))))
  (sSeq (p_law_1_10 k)
  (sSeq (sApp 4 (pSlot 4) [] (evN gList eNil))
  (p_law_1_12 k)))))))))))))
/-- law: 0 _law_script, 1 _law_start, 2 _law_pile_here, 3 _law_n, 4 _law_told, 5 _law_due, 6 _law_row, 7 _law_r, 8 _law_c -/
def m_law : Nat → Fn
  | 0 => fun _ => .bad
  | k + 1 => defn 9 1 [1, 2, 3, 4, 5, 6] (sSeq (p_law_1 k)
  (sRet [] (eC (.bool true))))
end Lw
end

section
namespace Lw
open PySem PySem.Spec L2 Sq
/-! ### the text -/
def top (i : Nat) : Stmt := PySem.Challenge.pw_squaremates_k17_round_squares.main.body.getD i (.Pass ⟨0, 0, 0, 0⟩)
abbrev t_round_square : Stmt := top 1
theorem sc_round_square : FnScope ["n", "r", "c"] ["n"] (defScope t_round_square) := ⟨rfl, rfl, rfl, by decide +kernel, rfl, by decide +kernel, by decide +kernel⟩
theorem m_round_square_len : ∀ k xs r, m_round_square k xs = .ok r → xs.length = 1 := by
  intro k xs r h
  cases k with
  | zero => exact nomatch (show (Res.bad : Res (DV × SD)) = .ok r by rw [m_round_square] at h; exact h)
  | succ k => rw [m_round_square] at h; exact defn_len h
abbrev t_l_mixed : Stmt := top 3
theorem sc_l_mixed : FnScope ["_law_cell", "_law_k", "_law_number"] ["_law_cell", "_law_k"] (defScope t_l_mixed) := ⟨rfl, rfl, rfl, by decide +kernel, rfl, by decide +kernel, by decide +kernel⟩
theorem m_l_mixed_len : ∀ k xs r, m_l_mixed k xs = .ok r → xs.length = 2 := by
  intro k xs r h
  cases k with
  | zero => exact nomatch (show (Res.bad : Res (DV × SD)) = .ok r by rw [m_l_mixed] at h; exact h)
  | succ k => rw [m_l_mixed] at h; exact defn_len h
abbrev t_l_pile : Stmt := top 4
theorem sc_l_pile : FnScope ["_law_script", "_law_k", "_law_cell"] ["_law_script", "_law_k"] (defScope t_l_pile) := ⟨rfl, rfl, rfl, by decide +kernel, rfl, by decide +kernel, by decide +kernel⟩
theorem m_l_pile_len : ∀ k xs r, m_l_pile k xs = .ok r → xs.length = 2 := by
  intro k xs r h
  cases k with
  | zero => exact nomatch (show (Res.bad : Res (DV × SD)) = .ok r by rw [m_l_pile] at h; exact h)
  | succ k => rw [m_l_pile] at h; exact defn_len h
abbrev t_l_take : Stmt := top 5
theorem sc_l_take : FnScope ["_law_pile_here", "_law_many", "_law_digit"] ["_law_pile_here", "_law_many"] (defScope t_l_take) := ⟨rfl, rfl, rfl, by decide +kernel, rfl, by decide +kernel, by decide +kernel⟩
theorem m_l_take_len : ∀ k xs r, m_l_take k xs = .ok r → xs.length = 2 := by
  intro k xs r h
  cases k with
  | zero => exact nomatch (show (Res.bad : Res (DV × SD)) = .ok r by rw [m_l_take] at h; exact h)
  | succ k => rw [m_l_take] at h; exact defn_len h
abbrev t_l_plain : Stmt := top 6
theorem sc_l_plain : FnScope ["_law_found", "_law_one"] ["_law_found"] (defScope t_l_plain) := ⟨rfl, rfl, rfl, by decide +kernel, rfl, by decide +kernel, by decide +kernel⟩
theorem m_l_plain_len : ∀ k xs r, m_l_plain k xs = .ok r → xs.length = 1 := by
  intro k xs r h
  cases k with
  | zero => exact nomatch (show (Res.bad : Res (DV × SD)) = .ok r by rw [m_l_plain] at h; exact h)
  | succ k => rw [m_l_plain] at h; exact defn_len h
abbrev t_l_same : Stmt := top 7
theorem sc_l_same : FnScope ["_law_found", "_law_due"] ["_law_found", "_law_due"] (defScope t_l_same) := ⟨rfl, rfl, rfl, by decide +kernel, rfl, by decide +kernel, by decide +kernel⟩
theorem m_l_same_len : ∀ k xs r, m_l_same k xs = .ok r → xs.length = 2 := by
  intro k xs r h
  cases k with
  | zero => exact nomatch (show (Res.bad : Res (DV × SD)) = .ok r by rw [m_l_same] at h; exact h)
  | succ k => rw [m_l_same] at h; exact defn_len h
abbrev t_law : Stmt := top 8
theorem sc_law : FnScope ["_law_script", "_law_start", "_law_pile_here", "_law_n", "_law_told", "_law_due", "_law_row", "_law_r", "_law_c"] ["_law_script"] (defScope t_law) := ⟨rfl, rfl, rfl, by decide +kernel, rfl, by decide +kernel, by decide +kernel⟩
theorem m_law_len : ∀ k xs r, m_law k xs = .ok r → xs.length = 1 := by
  intro k xs r h
  cases k with
  | zero => exact nomatch (show (Res.bad : Res (DV × SD)) = .ok r by rw [m_law] at h; exact h)
  | succ k => rw [m_law] at h; exact defn_len h
/-! ### what the top left -/
structure Tx (K : PySem.W.Frag) (mg : Str → Option Value) where
  a_round_square : Addr
  fd_round_square : FuncData
  F_round_square : FnP K "round_square" t_round_square a_round_square fd_round_square
  g_round_square : mg "round_square" = some (.ref a_round_square)
  b_round_square : Binds K fd_round_square ["n"] []
  a_l_mixed : Addr
  fd_l_mixed : FuncData
  F_l_mixed : FnP K "_law_mixed" t_l_mixed a_l_mixed fd_l_mixed
  g_l_mixed : mg "_law_mixed" = some (.ref a_l_mixed)
  b_l_mixed : Binds K fd_l_mixed ["_law_cell", "_law_k"] []
  a_l_pile : Addr
  fd_l_pile : FuncData
  F_l_pile : FnP K "_law_pile" t_l_pile a_l_pile fd_l_pile
  g_l_pile : mg "_law_pile" = some (.ref a_l_pile)
  b_l_pile : Binds K fd_l_pile ["_law_script", "_law_k"] []
  a_l_take : Addr
  fd_l_take : FuncData
  F_l_take : FnP K "_law_take" t_l_take a_l_take fd_l_take
  g_l_take : mg "_law_take" = some (.ref a_l_take)
  b_l_take : Binds K fd_l_take ["_law_pile_here", "_law_many"] []
  a_l_plain : Addr
  fd_l_plain : FuncData
  F_l_plain : FnP K "_law_plain" t_l_plain a_l_plain fd_l_plain
  g_l_plain : mg "_law_plain" = some (.ref a_l_plain)
  b_l_plain : Binds K fd_l_plain ["_law_found"] []
  a_l_same : Addr
  fd_l_same : FuncData
  F_l_same : FnP K "_law_same" t_l_same a_l_same fd_l_same
  g_l_same : mg "_law_same" = some (.ref a_l_same)
  b_l_same : Binds K fd_l_same ["_law_found", "_law_due"] []
  a_law : Addr
  fd_law : FuncData
  F_law : FnP K "law" t_law a_law fd_law
  g_law : mg "law" = some (.ref a_law)
  b_law : Binds K fd_law ["_law_script"] []
  z_abs : mg "abs" = none
  z_bool : mg "bool" = none
  z_int : mg "int" = none
  z_isinstance : mg "isinstance" = none
  z_len : mg "len" = none
  z_list : mg "list" = none
  z_range : mg "range" = none
  z_str : mg "str" = none
  z_tuple : mg "tuple" = none
structure OkAll (P : Program) (w : World) (K : PySem.W.Frag) (mg : Str → Option Value) (base : Heap) (T : Tx K mg) (k : Nat) : Prop where
  f_round_square : FnOk P w K mg base CX0 k T.a_round_square T.fd_round_square ["n"] (spF K 1 (m_round_square k))
  f_l_mixed : FnOk P w K mg base CX0 k T.a_l_mixed T.fd_l_mixed ["_law_cell", "_law_k"] (spF K 2 (m_l_mixed k))
  f_l_pile : FnOk P w K mg base CX0 k T.a_l_pile T.fd_l_pile ["_law_script", "_law_k"] (spF K 2 (m_l_pile k))
  f_l_take : FnOk P w K mg base CX0 k T.a_l_take T.fd_l_take ["_law_pile_here", "_law_many"] (spF K 2 (m_l_take k))
  f_l_plain : FnOk P w K mg base CX0 k T.a_l_plain T.fd_l_plain ["_law_found"] (spF K 1 (m_l_plain k))
  f_l_same : FnOk P w K mg base CX0 k T.a_l_same T.fd_l_same ["_law_found", "_law_due"] (spF K 2 (m_l_same k))
  f_law : FnOk P w K mg base CX0 k T.a_law T.fd_law ["_law_script"] (spF K 1 (m_law k))
section
variable {P : Program} {w : World} {K : PySem.W.Frag} {mg : Str → Option Value} {base : Heap} {T : Tx K mg} {k : Nat}
set_option maxHeartbeats 4000000 in
theorem s_round_square (O : OkAll P w K mg base T k) : FnOk P w K mg base CX0 (k + 1) T.a_round_square T.fd_round_square ["n"] (spF K 1 (m_round_square (k + 1))) := by
  have sc := sc_round_square
  exact fn_step T.F_round_square sc rfl rfl fun cdv A outer s H E hr => ⟨_, _, (rs_one (rs_ret (re_lc (own := [("r", 1)]) (by rfl) sc.nd (ri_range1 (by rfl) T.z_range (ra_cons (xv 0) ra_nil)) (blkOk_by (by rfl)) (fun _ _ _ _ _ => (xg 1 sc.nd)) (fun _ _ _ _ _ => rts_nil) (fun _ _ _ _ _ => (re_lc (own := [("c", 2)]) (by rfl) sc.nd (ri_range1 (by rfl) T.z_range (ra_cons (xv 0) ra_nil)) (blkOk_by (by rfl)) (fun _ _ _ _ _ => (xg 2 sc.nd)) (fun _ _ _ _ _ => rts_nil) (fun _ _ _ _ _ => (xmod (xadd (xv 1) (xv 2)) (xv 0)))))))), by rfl⟩
set_option maxHeartbeats 4000000 in
theorem s_l_mixed (O : OkAll P w K mg base T k) : FnOk P w K mg base CX0 (k + 1) T.a_l_mixed T.fd_l_mixed ["_law_cell", "_law_k"] (spF K 2 (m_l_mixed (k + 1))) := by
  have sc := sc_l_mixed
  exact fn_step T.F_l_mixed sc rfl rfl fun cdv A outer s H E hr => ⟨_, _, (rs_cons (xset (i := 2) sc.nd (xmod (xadd (xadd (xmul (xmod (xv 0) re_int) re_int) (xmul (xv 1) re_int)) re_int) re_int))
  (rs_cons (xset (i := 2) sc.nd (xmod (xmul (xv 2) (xv 2)) re_int))
  (rs_one (rs_ret (xfdiv (xmod (xmul (xv 2) (xv 2)) re_int) re_int))))), by rfl⟩
set_option maxHeartbeats 4000000 in
theorem s_l_pile (O : OkAll P w K mg base T k) : FnOk P w K mg base CX0 (k + 1) T.a_l_pile T.fd_l_pile ["_law_script", "_law_k"] (spF K 2 (m_l_pile (k + 1))) := by
  have sc := sc_l_pile
  exact fn_step T.F_l_pile sc rfl rfl fun cdv A outer s H E hr => ⟨_, _, (rs_cons (xset (i := 2) sc.nd re_int)
  (rs_cons (rs_if (zlt (xv 1) (xlen T.z_len (ra_cons (xv 0) ra_nil)))
  (rs_one (xset (i := 2) sc.nd (re_ix (xv 0) (xv 1) (fun _ _ => (by rfl)))))
  rs_nil)
  (rs_one (rs_ret (re_list (ra_cons (re_ix (re_list (ra_cons re_int (ra_cons (xv 2) ra_nil))) (xint T.z_int (ra_cons (xge (xabs T.z_abs (ra_cons (xv 2) ra_nil)) (xpow re_int re_int)) ra_nil)) (fun _ _ => (by rfl))) (ra_cons (xv 2) (ra_cons (xmul re_int (xv 1)) ra_nil)))))))), by rfl⟩
set_option maxHeartbeats 4000000 in
theorem s_l_take (O : OkAll P w K mg base T k) : FnOk P w K mg base CX0 (k + 1) T.a_l_take T.fd_l_take ["_law_pile_here", "_law_many"] (spF K 2 (m_l_take (k + 1))) := by
  have sc := sc_l_take
  exact fn_step T.F_l_take sc rfl rfl fun cdv A outer s H E hr => ⟨_, _, (rs_cons (rs_if (zin hr (re_ix (xv 0) re_int (fun _ _ => (by rfl))) (re_list (ra_cons re_int (ra_cons (re_un un_neg ok_neg re_int) ra_nil))))
  (rs_cons (rs_setitem (xadd (re_ix (xv 0) re_int (fun _ _ => (by rfl))) re_int) (xp 0) re_int (hs := pg_sub (xp 0) re_int set_list))
  (rs_one (rs_ret (xmod (re_call O.f_l_mixed hr (by rfl) T.g_l_mixed T.F_l_mixed.kp T.b_l_mixed (E := E0) pass0 (m_l_mixed_len _) [] (ra_cons (re_ix (xv 0) re_int (fun _ _ => (by rfl))) (ra_cons (re_ix (xv 0) re_int (fun _ _ => (by rfl))) ra_nil))) (xv 1)))))
  rs_nil)
  (rs_cons (xset (i := 2) sc.nd (xmod (re_ix (xv 0) re_int (fun _ _ => (by rfl))) (xv 1)))
  (rs_cons (rs_setitem (xfdiv (re_ix (xv 0) re_int (fun _ _ => (by rfl))) (xv 1)) (xp 0) re_int (hs := pg_sub (xp 0) re_int set_list))
  (rs_one (rs_ret (xm 2)))))), by rfl⟩
set_option maxHeartbeats 4000000 in
theorem s_l_plain (O : OkAll P w K mg base T k) : FnOk P w K mg base CX0 (k + 1) T.a_l_plain T.fd_l_plain ["_law_found"] (spF K 1 (m_l_plain (k + 1))) := by
  have sc := sc_l_plain
  exact fn_step T.F_l_plain sc rfl rfl fun cdv A outer s H E hr => ⟨_, _, (rs_cons (rs_if (rt_val (re_isi2 .list .tuple (xv 0) (by rfl) T.z_isinstance (xty .list T.z_list) (xty .tuple T.z_tuple)))
  (rs_one (rs_ret (xeq hr (re_lc (own := [("_law_one", 1)]) (by rfl) sc.nd (ri_list (xv 0)) (blkOk_by (by rfl)) (fun _ _ _ _ _ => (xg 1 sc.nd)) (fun _ _ _ _ _ => (rts_one (rt_not (rt_val (re_call O.f_l_plain hr (by rfl) T.g_l_plain T.F_l_plain.kp T.b_l_plain (E := E0) pass0 (m_l_plain_len _) [] (ra_cons (xv 1) ra_nil)))))) (fun _ _ _ _ _ => (xv 1))) (re_list ra_nil))))
  rs_nil)
  (rs_one (rs_ret (re_and (re_isi2 .int .str (xv 0) (by rfl) T.z_isinstance (xty .int T.z_int) (xty .str T.z_str)) (re_one (re_not (re_isi1 .bool (xv 0) (by rfl) T.z_isinstance (xty .bool T.z_bool)))))))), by rfl⟩
set_option maxHeartbeats 4000000 in
theorem s_l_same (O : OkAll P w K mg base T k) : FnOk P w K mg base CX0 (k + 1) T.a_l_same T.fd_l_same ["_law_found", "_law_due"] (spF K 2 (m_l_same (k + 1))) := by
  have sc := sc_l_same
  exact fn_step T.F_l_same sc rfl rfl fun cdv A outer s H E hr => ⟨_, _, (rs_cons (rs_if (rt_w (rw_or (zne hr (re_isi1 .list (xv 0) (by rfl) T.z_isinstance (xty .list T.z_list)) (re_isi1 .list (xv 1) (by rfl) T.z_isinstance (xty .list T.z_list))) (rw_or1 (zne hr (xv 0) (xv 1)))))
  (rs_one (rs_ret re_bl))
  rs_nil)
  (rs_one (rs_ret (re_call O.f_l_plain hr (by rfl) T.g_l_plain T.F_l_plain.kp T.b_l_plain (E := E0) pass0 (m_l_plain_len _) [] (ra_cons (xv 0) ra_nil))))), by rfl⟩
set_option maxHeartbeats 4000000 in
theorem s_law (O : OkAll P w K mg base T k) : FnOk P w K mg base CX0 (k + 1) T.a_law T.fd_law ["_law_script"] (spF K 1 (m_law (k + 1))) := by
  have sc := sc_law
  exact fn_step T.F_law sc rfl rfl fun cdv A outer s H E hr => ⟨_, _, (rs_cons (rs_for PassesOwn.never (by rfl) (ri_range1 (by rfl) T.z_range (ra_cons re_int ra_nil)) (xg 1 sc.nd)
  (rs_cons (xset (i := 2) sc.nd (re_call O.f_l_pile hr (by rfl) T.g_l_pile T.F_l_pile.kp T.b_l_pile (E := E0) pass0 (m_l_pile_len _) [] (ra_cons (xv 0) (ra_cons (xv 1) ra_nil))))
  (rs_cons (xset (i := 3) sc.nd (xadd re_int (re_call O.f_l_take hr (by rfl) T.g_l_take T.F_l_take.kp T.b_l_take (E := E0) pass0 (m_l_take_len _) [(0, 2)] (xio 2 (ra_cons re_int ra_nil)))))
  (rs_cons (xset (i := 4) sc.nd (re_call O.f_round_square hr (by rfl) T.g_round_square T.F_round_square.kp T.b_round_square (E := E0) pass0 (m_round_square_len _) [] (ra_cons (xv 3) ra_nil)))
  (rs_cons (rs_asgLc (i := 5) (own := [("_law_r", 7)]) (by rfl) sc.nd (by rfl) (by rfl) (sw_true (by rfl) (by rfl) (by rfl) (by rfl)) (ri_range1 (by rfl) T.z_range (ra_cons (xv 3) ra_nil)) (blkOk_by (by rfl)) (fun _ _ _ _ _ => (xg 7 sc.nd)) (fun _ _ _ _ _ => rts_nil) (fun _ _ _ _ _ => (re_lc (own := [("_law_c", 8)]) (by rfl) sc.nd (ri_range1 (by rfl) T.z_range (ra_cons (xv 3) ra_nil)) (blkOk_by (by rfl)) (fun _ _ _ _ _ => (xg 8 sc.nd)) (fun _ _ _ _ _ => rts_nil) (fun _ _ _ _ _ => (xmod (xadd (xv 7) (xv 8)) (xv 3))))))
  (rs_cons (rs_if (rt_w (rw_or (rt_not (rt_val (re_call O.f_l_same hr (by rfl) T.g_l_same T.F_l_same.kp T.b_l_same (E := E0) pass0 (m_l_same_len _) [] (ra_cons (xv 4) (ra_cons (xv 5) ra_nil))))) (rw_or1 (zne hr (re_lc (own := [("_law_row", 6)]) (by rfl) sc.nd (ri_list (xv 4)) (blkOk_by (by rfl)) (fun _ _ _ _ _ => (xg 6 sc.nd)) (fun _ _ _ _ _ => (rts_one (rt_not (rt_val (re_isi1 .list (xv 6) (by rfl) T.z_isinstance (xty .list T.z_list)))))) (fun _ _ _ _ _ => (xv 6))) (re_list ra_nil)))))
  (rs_one (rs_ret re_bl))
  rs_nil)
  (rs_cons (rs_if (zne hr (re_lc (own := [("_law_r", 7)]) (by rfl) sc.nd (ri_range2 (by rfl) T.z_range (ra_cons re_int (ra_cons (xv 3) ra_nil))) (blkOk_by (by rfl)) (fun _ _ _ _ _ => (xg 7 sc.nd)) (fun _ _ _ _ _ => (rts_one (zne hr (re_ix (xv 4) (xv 7) (fun _ _ => (by rfl))) (xadd (re_slice (re_ix (xv 4) (xsub (xv 7) re_int) (fun _ _ => (by rfl))) (ro_some re_int) ro_none) (re_slice (re_ix (xv 4) (xsub (xv 7) re_int) (fun _ _ => (by rfl))) ro_none (ro_some re_int)))))) (fun _ _ _ _ _ => (xv 7))) (re_list ra_nil))
  (rs_one (rs_ret re_bl))
  rs_nil)
  (rs_cons (rs_expr (re_call O.f_round_square hr (by rfl) T.g_round_square T.F_round_square.kp T.b_round_square (E := E0) pass0 (m_round_square_len _) [] (ra_cons (xadd re_int (re_call O.f_l_take hr (by rfl) T.g_l_take T.F_l_take.kp T.b_l_take (E := E0) pass0 (m_l_take_len _) [(0, 2)] (xio 2 (ra_cons re_int ra_nil)))) ra_nil)))
  (rs_cons (rs_if (rt_w (rw_or (zne hr (xv 4) (xv 5)) (rw_or (zne hr (re_call O.f_round_square hr (by rfl) T.g_round_square T.F_round_square.kp T.b_round_square (E := E0) pass0 (m_round_square_len _) [] (ra_cons (xv 3) ra_nil)) (xv 5)) (rw_or1 (zne hr (xv 4) (xv 5))))))
  (rs_one (rs_ret re_bl))
  rs_nil)
  (rs_cons (rs_forM (x := 6) (y := 4) PassesOwn.never (by rfl) sc.nd (by rfl) (by first | exact Or.inl rfl | exact Or.inr rfl) (by rfl) (by first | exact Or.inl rfl | exact Or.inr (Or.inl rfl)) (rs_one (rs_append (xp 6) re_int)))
  (rs_cons (rs_if (zne hr (re_lc (own := [("_law_row", 6)]) (by rfl) sc.nd (ri_list (xv 4)) (blkOk_by (by rfl)) (fun _ _ _ _ _ => (xg 6 sc.nd)) (fun _ _ _ _ _ => (rts_one (zne hr (xlen T.z_len (ra_cons (xv 6) ra_nil)) (xadd (xv 3) re_int)))) (fun _ _ _ _ _ => (xv 6))) (re_list ra_nil))
  (rs_one (rs_ret re_bl))
  rs_nil)
  (rs_cons (rs_append (xp 4) (re_list ra_nil))
  (rs_one (rs_if (zne hr (re_call O.f_round_square hr (by rfl) T.g_round_square T.F_round_square.kp T.b_round_square (E := E0) pass0 (m_round_square_len _) [] (ra_cons (xv 3) ra_nil)) (xv 5))
  (rs_one (rs_ret re_bl))
  rs_nil))))))))))))))
  (rs_one (rs_ret re_bl))), by rfl⟩
theorem all_ok (T : Tx K mg) : ∀ k, OkAll P w K mg base T k
  | 0 => ⟨fn0 (fun _ => by rw [m_round_square]) rfl, fn0 (fun _ => by rw [m_l_mixed]) rfl, fn0 (fun _ => by rw [m_l_pile]) rfl, fn0 (fun _ => by rw [m_l_take]) rfl, fn0 (fun _ => by rw [m_l_plain]) rfl, fn0 (fun _ => by rw [m_l_same]) rfl, fn0 (fun _ => by rw [m_law]) rfl⟩
  | k + 1 => ⟨s_round_square (all_ok T k), s_l_mixed (all_ok T k), s_l_pile (all_ok T k), s_l_take (all_ok T k), s_l_plain (all_ok T k), s_l_same (all_ok T k), s_law (all_ok T k)⟩
end
/-! ### the head -/
def d_round_square : He.DefD := ⟨("round_square", none), "round_square", "round_square", defArgs t_round_square, defBody t_round_square, defScope t_round_square, [], []⟩
def d_l_mixed : He.DefD := ⟨("_law_mixed", none), "_law_mixed", "_law_mixed", defArgs t_l_mixed, defBody t_l_mixed, defScope t_l_mixed, [], []⟩
def d_l_pile : He.DefD := ⟨("_law_pile", none), "_law_pile", "_law_pile", defArgs t_l_pile, defBody t_l_pile, defScope t_l_pile, [], []⟩
def d_l_take : He.DefD := ⟨("_law_take", none), "_law_take", "_law_take", defArgs t_l_take, defBody t_l_take, defScope t_l_take, [], []⟩
def d_l_plain : He.DefD := ⟨("_law_plain", none), "_law_plain", "_law_plain", defArgs t_l_plain, defBody t_l_plain, defScope t_l_plain, [], []⟩
def d_l_same : He.DefD := ⟨("_law_same", none), "_law_same", "_law_same", defArgs t_l_same, defBody t_l_same, defScope t_l_same, [], []⟩
def d_law : He.DefD := ⟨("law", none), "law", "law", defArgs t_law, defBody t_law, defScope t_law, [], []⟩
def fn : List He.DefD := [d_round_square, d_l_mixed, d_l_pile, d_l_take, d_l_plain, d_l_same, d_law]
def fa : List He.Fa := [.glo "round_square", .glo "_law_mixed", .glo "_law_pile", .glo "_law_take", .glo "_law_plain", .glo "_law_same", .glo "law", .free "abs", .free "bool", .free "int", .free "isinstance", .free "len", .free "list", .free "range", .free "str", .free "tuple"]
abbrev R : PySem.W.OpenRow := PySem.W.OpenLaw.row PySem.Challenge.rw_squaremates_k17_round_squares
abbrev hk : PySem.W.Hook := hookB noIntL 4 fa fn
def ob (s : PySem.W.SharedT) : AlB := obsBG noIntL 4 fa fn (HandSHeadRun.getT s)
theorem ob_eq (s : PySem.W.SharedT) : ob s = hk.obs s.abs := obsBG_eq (HandSHeadRun.getT_eq s)
def loose : List Str := ["round_square", "_law_mixed", "_law_pile", "_law_take", "_law_plain", "_law_same"]
theorem run (w : World) : HandSHeadRun.RunEq R (PySem.W.view R.prog [8]) hk ob 4000 loose w := by
  intro os
  kernel_rfl
theorem facts {P : Program} {w : World} {K : PySem.W.Frag} {h : Heap} {mg : Str → Option Value} {f : Addr} (X : K.In h) (G : h.Ns mainGlobals mg) (hfa : mg ("law" : Str) = some (.ref f)) (c : SaysB noIntL fa fn K) :
    ∃ fd : FuncData, (∀ (s : Shared) (v : Value), BindsTo s fd ⟨[v], []⟩ [("_law_script", v)]) ∧ ∀ base : Heap, K.In base → base.Ns mainGlobals mg → FnOk P w K mg base CX0 60 f fd ["_law_script"] (spF K 1 (m_law 60)) := by
  have cd := c.d
  obtain ⟨fd_round_square, F_round_square⟩ := cd.def_ 0 (d := d_round_square) rfl
  obtain ⟨fd_l_mixed, F_l_mixed⟩ := cd.def_ 1 (d := d_l_mixed) rfl
  obtain ⟨fd_l_pile, F_l_pile⟩ := cd.def_ 2 (d := d_l_pile) rfl
  obtain ⟨fd_l_take, F_l_take⟩ := cd.def_ 3 (d := d_l_take) rfl
  obtain ⟨fd_l_plain, F_l_plain⟩ := cd.def_ 4 (d := d_l_plain) rfl
  obtain ⟨fd_l_same, F_l_same⟩ := cd.def_ 5 (d := d_l_same) rfl
  obtain ⟨fd_law, F_law⟩ := cd.def_ 6 (d := d_law) rfl
  have e := hfa.symm.trans (He.glo_ok X G (cd.fact 6 (f := .glo "law") rfl))
  cases e
  have b := FunD.bindsA (ps := ["_law_script"]) F_law fun _ _ _ _ _ _ us hl => match us, hl with | [_], _ => rfl
  exact ⟨fd_law, fun s v => b s [v] rfl, fun base _ _ => (all_ok (P := P) (w := w) (base := base) (⟨_, fd_round_square, F_round_square, He.glo_ok X G (cd.fact 0 (f := .glo "round_square") rfl), F_round_square.bindsN (fun _ _ _ _ _ _ us hl => match us, hl with | [_], _ => rfl),
    _, fd_l_mixed, F_l_mixed, He.glo_ok X G (cd.fact 1 (f := .glo "_law_mixed") rfl), F_l_mixed.bindsN (fun _ _ _ _ _ _ us hl => match us, hl with | [_, _], _ => rfl),
    _, fd_l_pile, F_l_pile, He.glo_ok X G (cd.fact 2 (f := .glo "_law_pile") rfl), F_l_pile.bindsN (fun _ _ _ _ _ _ us hl => match us, hl with | [_, _], _ => rfl),
    _, fd_l_take, F_l_take, He.glo_ok X G (cd.fact 3 (f := .glo "_law_take") rfl), F_l_take.bindsN (fun _ _ _ _ _ _ us hl => match us, hl with | [_, _], _ => rfl),
    _, fd_l_plain, F_l_plain, He.glo_ok X G (cd.fact 4 (f := .glo "_law_plain") rfl), F_l_plain.bindsN (fun _ _ _ _ _ _ us hl => match us, hl with | [_], _ => rfl),
    _, fd_l_same, F_l_same, He.glo_ok X G (cd.fact 5 (f := .glo "_law_same") rfl), F_l_same.bindsN (fun _ _ _ _ _ _ us hl => match us, hl with | [_, _], _ => rfl),
    _, fd_law, F_law, He.glo_ok X G (cd.fact 6 (f := .glo "law") rfl), F_law.bindsN (fun _ _ _ _ _ _ us hl => match us, hl with | [_], _ => rfl),
    He.free_ok X G (cd.fact 7 (f := .free "abs") rfl),
    He.free_ok X G (cd.fact 8 (f := .free "bool") rfl),
    He.free_ok X G (cd.fact 9 (f := .free "int") rfl),
    He.free_ok X G (cd.fact 10 (f := .free "isinstance") rfl),
    He.free_ok X G (cd.fact 11 (f := .free "len") rfl),
    He.free_ok X G (cd.fact 12 (f := .free "list") rfl),
    He.free_ok X G (cd.fact 13 (f := .free "range") rfl),
    He.free_ok X G (cd.fact 14 (f := .free "str") rfl),
    He.free_ok X G (cd.fact 15 (f := .free "tuple") rfl)⟩ : Tx K mg) 60).f_law⟩
end Lw
end

section
namespace Lw
open PySem PySem.Spec L2 Sq
theorem lo64_mod (x m : Int) (h : 0 < m) (h2 : m ≤ 2 ^ 64) : lo64 (x % m) = true := by
  have h3 := Int.emod_nonneg x (Int.ne_of_gt h)
  have h4 := Int.emod_lt_of_pos x h
  simp [lo64]
  omega
theorem mixed_ok (k : Nat) (x y : Int) (d e : Nat) : ∃ r fin, m_l_mixed (k + 1) [(.int x, d), (.int y, e)] = .ok ((.int r, 0), fin) := by
  rw [m_l_mixed]
  have h1 : lo64 (x % 2147483647) = true := lo64_mod _ _ (by decide) (by decide)
  have h3 : ∀ z : Int, lo64 (z % 2147483647) = true := fun z => lo64_mod _ _ (by decide) (by decide)
  have h4 : ∀ z : Int, lo64 (z % 2147483629) = true := fun z => lo64_mod _ _ (by decide) (by decide)
  have h2 : lo64 69621 = true := by decide
  simp [defn, start1, qSeq, gMod, gMul, gAdd, gFdiv, h1, h2, h3, h4, List.replicate]
theorem pile_ok (k : Nat) (ns : List Int) (i d e : Nat) : ∃ a b c fin, m_l_pile (k + 1) [(.list (ns.map .int), d), (.int i, e)] = .ok ((.list [.int a, .int b, .int c], 10), fin) := by
  rw [m_l_pile]
  have h2 : lo64 97 = true := by decide
  have h3 : lo64 10 = true := by decide
  have ix : ∀ (c : Int) (b : Bool), ∃ z : Int, gIx (.list [.int 0, .int c], 10) (.int (if b then 1 else 0), 0) = .ok (.int z, 9) := by
    intro c b
    cases b
    · exact ⟨0, rfl⟩
    · exact ⟨c, rfl⟩
  have fin_ : ∀ c : Int, ∃ a b cc fin, sRet [2, 2, 2, 1] (evN gList (eCons (ev2 gIx (evN gList (eCons (eC (.int 0)) (eCons (eVar 2) eNil))) (evN gInt (eCons (ev2 gGe (evN gAbs (eCons (eVar 2) eNil)) (ev2 gPow (eC (.int 10)) (eC (.int 18)))) eNil))) (eCons (eVar 2) (eCons (ev2 gMul (eC (.int 97)) (eVar 1)) eNil)))) [some (.list (ns.map .int), d), some (.int i, e), some (.int c, 0)] = .ok (.ret (.list [.int a, .int b, .int cc], 10), fin) := by
    intro c
    obtain ⟨z, hz⟩ := ix c (decide ((10 : Int) ^ 18 ≤ if c < 0 then -c else c))
    have hl : gList [(.int 0, 0), (.int c, 0)] = .ok (.list [.int 0, .int c], 10) := rfl
    have hl2 : ∀ z w u k1 k2 k3, gList [(.int z, k1), (.int w, k2), (.int u, k3)] = .ok (.list [.int z, .int w, .int u], 10) := fun _ _ _ _ _ _ => by simp [gList, small, minAll]
    have hp : gPow (.int 10, 0) (.int 18, 0) = .ok (.int (10 ^ 18), 0) := by simp [gPow, h3]
    simp only [qRet, qN, qCons, q2, qC, qVar, slotS, slot0, Res.bind_ok, hl, gAbs, hp, gGe, gB, gInt, hz, gMul, h2, Bool.true_or, if_true, hl2, qNil, List.cons_append]
    exact ⟨_, _, _, _, rfl⟩
  have hlt : evN gLen (eCons (eVar 0) eNil) [some (.list (ns.map .int), d), some (.int i, e), some (.int 0, 0)] = .ok ((.int ns.length, 0), [some (.list (ns.map .int), d), some (.int i, e), some (.int 0, 0)]) := by simp [gLen]
  by_cases hi : (i : Int) < ns.length
  · obtain ⟨a, b, c, fin, h⟩ := fin_ (ns[i]'(by omega))
    refine ⟨a, b, c, finP 2 [2] fin, ?_⟩
    have hx : gIx (.list (ns.map .int), 0) (.int i, 0) = .ok (.int (ns[i]'(by omega)), 0) := by
      have h5 : i < ns.length := by omega
      simp [gIx, atI, ixN, h5]
    refine defn_ret (s0 := [some (.list (ns.map .int), d), some (.int i, e), none]) rfl ?_
    rw [seq_next (s' := [some (.list (ns.map .int), d), some (.int i, e), some (.int 0, 0)]) (by simp), seq_next (s' := [some (.list (ns.map .int), d), some (.int i, e), some (.int (ns[i]'(by omega)), 0)]) (by
      rw [qIf, qTst, q2, qVar]
      simp only [qVar, slotS, slot0, Res.bind_ok, hlt, gLt, gB, hi, decide_true, if_true, qAsg, q2, hx, settle_int]
      rfl), h]
  · obtain ⟨a, b, c, fin, h⟩ := fin_ 0
    refine ⟨a, b, c, finP 2 [2] fin, ?_⟩
    refine defn_ret (s0 := [some (.list (ns.map .int), d), some (.int i, e), none]) rfl ?_
    rw [seq_next (s' := [some (.list (ns.map .int), d), some (.int i, e), some (.int 0, 0)]) (by simp), seq_next (s' := [some (.list (ns.map .int), d), some (.int i, e), some (.int 0, 0)]) (by
      rw [qIf, qTst, q2, qVar]
      simp only [slotS, slot0, Res.bind_ok, hlt, gLt, gB, hi, decide_false, if_false, Bool.false_eq_true, qSkip]), h]
theorem take_ok (k : Nat) (a b c m : Int) (e : Nat) (hm : 0 < m) (hm2 : m < 1073741824) : ∃ r a' b' c' f2, m_l_take (k + 2) [(.list [.int a, .int b, .int c], 10), (.int m, e)] = .ok ((.int r, 0), [some (.list [.int a', .int b', .int c'], 10), f2]) ∧ 0 ≤ r ∧ r < m := by
  rw [m_l_take]
  have h0 : start1 3 [(.list [.int a, .int b, .int c], 10), (.int m, e)] = [some (.list [.int a, .int b, .int c], 10), some (.int m, e), none] := rfl
  obtain ⟨r, fin, hmx⟩ := mixed_ok k b (c + 1) 0 0
  have x0 : ∀ a b c : Int, gIx (.list [.int a, .int b, .int c], 0) (.int 0, 0) = .ok (.int a, 0) := fun _ _ _ => rfl
  have x1 : ∀ a b c : Int, gIx (.list [.int a, .int b, .int c], 0) (.int 1, 0) = .ok (.int b, 0) := fun _ _ _ => rfl
  have x2 : ∀ a b c : Int, gIx (.list [.int a, .int b, .int c], 0) (.int 2, 0) = .ok (.int c, 0) := fun _ _ _ => rfl
  have gl : evN gList (eCons (eC (.int 0)) (eCons (ev1 gNeg (eC (.int 1))) eNil)) [some (.list [.int a, .int b, .int c], 10), some (.int m, e), none] = .ok ((.list [.int 0, .int (-1)], 10), [some (.list [.int a, .int b, .int c], 10), some (.int m, e), none]) := rfl
  have hin : gIn (.int a, 0) (.list [.int 0, .int (-1)], 10) = .ok (.bool (PyData.eqv (.int 0) (.int a) || (PyData.eqv (.int (-1)) (.int a) || false)), 0) := rfl
  have c2 : ∀ (s : SD) (z : Int), s = [some (.list [.int a, .int b, .int c], 10), some (.int m, e), none] → chg 0 [] 9 (opSet 2 (.int z)) s = .ok [some (.list [.int a, .int b, .int z], 10), some (.int m, e), none] := fun s z h => by subst h; rfl
  have c0 : ∀ (s : SD) (z w : Int), s = [some (.list [.int a, .int b, .int c], 10), some (.int m, e), some (.int w, 0)] → chg 0 [] 9 (opSet 0 (.int z)) s = .ok [some (.list [.int z, .int b, .int c], 10), some (.int m, e), some (.int w, 0)] := fun s z w h => by subst h; rfl
  by_cases hb : (PyData.eqv (.int 0) (.int a) || (PyData.eqv (.int (-1)) (.int a) || false)) = true
  · refine ⟨r % m, a, b, c + 1, some (.int m, e), ?_, Int.emod_nonneg _ (by omega), Int.emod_lt_of_pos _ hm⟩
    refine defn_ret (s' := [some (.list [.int a, .int b, .int (c + 1)], 10), some (.int m, e), none]) h0 ?_
    rw [seq_ret (x := (.int (r % m), 0)) (s' := [some (.list [.int a, .int b, .int (c + 1)], 10), some (.int m, e), none])]
    · rw [qIf, qTst, q2, q2, qVar]
      simp only [slot0, slotS, Res.bind_ok, qC, x0, gl, hin, hb, if_true]
      rw [seq_next (s' := [some (.list [.int a, .int b, .int (c + 1)], 10), some (.int m, e), none])]
      · simp only [qRet, q2, qCall, qCons, qNil, qVar, qC, slot0, slotS, Res.bind_ok, x1, x2, hmx, gMod, hm, decide_true, if_true, putBack0, settle_int]
      · unfold sSet
        simp only [q2, qVar, qC, slot0, slotS, Res.bind_ok, x2, gAdd, settle_int, dep_int]
        exact congrArg (fun z => z >>= fun s => Res.ok (Fl.next, s)) (c2 _ (c + 1) rfl)
  · refine ⟨a % m, a / m, b, c, some (.int m, e), ?_, Int.emod_nonneg _ (by omega), Int.emod_lt_of_pos _ hm⟩
    have hb' := Bool.eq_false_iff.mpr hb
    refine defn_ret (s' := [some (.list [.int (a / m), .int b, .int c], 10), some (.int m, e), none]) h0 ?_
    rw [seq_next (s' := [some (.list [.int a, .int b, .int c], 10), some (.int m, e), none])]
    · rw [seq_next (s' := [some (.list [.int a, .int b, .int c], 10), some (.int m, e), some (.int (a % m), 0)])]
      · rw [seq_next (s' := [some (.list [.int (a / m), .int b, .int c], 10), some (.int m, e), some (.int (a % m), 0)])]
        · rfl
        · unfold sSet
          simp only [q2, qVar, qC, slot0, slotS, Res.bind_ok, x0, gFdiv, hm, hm2, decide_true, Bool.and_self, if_true, settle_int, dep_int]
          exact congrArg (fun z => z >>= fun s => Res.ok (Fl.next, s)) (c0 _ (a / m) (a % m) rfl)
      · simp only [qAsg, q2, qVar, qC, slot0, slotS, Res.bind_ok, x0, gMod, hm, decide_true, if_true, settle_int]
        rfl
    · rw [qIf, qTst, q2, q2, qVar]
      simp only [slot0, slotS, Res.bind_ok, qC, x0, gl, hin, hb', Bool.false_eq_true, if_false, qSkip]
def sq (n : Nat) : PyData := .list ((List.range n).map fun r => .list ((List.range n).map fun c => .int (((r + c) % n : Nat) : Int)))
theorem nine {n : Int} (h : 1 ≤ n) (h2 : n ≤ 9) : n = 1 ∨ n = 2 ∨ n = 3 ∨ n = 4 ∨ n = 5 ∨ n = 6 ∨ n = 7 ∨ n = 8 ∨ n = 9 := by omega
theorem rs_ok {n : Int} (h : 1 ≤ n) (h2 : n ≤ 9) : m_round_square 59 [(.int n, 0)] = .ok ((sq n.toNat, 10), [some (.int n, 0)]) := by
  rcases nine h h2 with rfl | rfl | rfl | rfl | rfl | rfl | rfl | rfl | rfl <;> kernel_rfl
def segA : Sx := sSeq (p_law_1_3 59) (sSeq (p_law_1_4 59) (sSeq (p_law_1_5 59) (p_law_1_6 59)))
def segB : Sx := sSeq (p_law_1_8 59) (sSeq (sForM 6 4 (sApp 6 (pSlot 6) [] (eC (.int 0)))) (sSeq (p_law_1_10 59) (sSeq (sApp 4 (pSlot 4) [] (evN gList eNil)) (p_law_1_12 59))))
theorem segA_ok {n : Int} (h : 1 ≤ n) (h2 : n ≤ 9) (a b c o4 o5 o6 o7 o8 : Option DV) : nx (segA [a, b, c, some (.int n, 0), o4, o5, o6, o7, o8]) = some [a, b, c, some (.int n, 0), some (sq n.toNat, 10), some (sq n.toNat, 10), o6, o7, o8] := by
  rcases nine h h2 with rfl | rfl | rfl | rfl | rfl | rfl | rfl | rfl | rfl <;> kernel_rfl
theorem segB_ok {n : Int} (h : 1 ≤ n) (h2 : n ≤ 9) (a b c o6 o7 o8 : Option DV) : (nx (segB [a, b, c, some (.int n, 0), some (sq n.toNat, 10), some (sq n.toNat, 10), o6, o7, o8])).map (fun t => (t.length, t[0]?)) = some (9, some a) := by
  rcases nine h h2 with rfl | rfl | rfl | rfl | rfl | rfl | rfl | rfl | rfl <;> kernel_rfl
theorem law_holds (ns : List Int) (_ : ns.length ≤ 63) : ∃ kk fin, m_law 60 [(.list (ns.map .int), 0)] = .ok ((.bool true, kk), fin) := by
  rw [m_law]
  have key : ∃ s', p_law_1 59 [some (.list (ns.map .int), 0), none, none, none, none, none, none, none, none] = .ok (.next, s') ∧ (s'.length = 9 ∧ s'[0]? = some (some (.list (ns.map .int), 0))) := by
    rw [p_law_1, qFor]
    have hr : iR1 (eCons (eC (.int 9)) eNil) [some (.list (ns.map .int), 0), none, none, none, none, none, none, none, none] = .ok (rng 0 9, [some (.list (ns.map .int), 0), none, none, none, none, none, none, none, none]) := rfl
    rw [hr, Res.bind_ok]
    refine loopF_inv (fun s => s.length = 9 ∧ s[0]? = some (some (.list (ns.map .int), 0))) _ ?_ (demote [] [some (.list (ns.map .int), 0), none, none, none, none, none, none, none, none]) ⟨rfl, rfl⟩
    rintro d hd s ⟨hl, h0⟩
    obtain ⟨i, _, rfl⟩ := List.mem_map.mp hd
    obtain ⟨o0, o1, o2, o3, o4, o5, o6, o7, o8, rfl⟩ : ∃ o0 o1 o2 o3 o4 o5 o6 o7 o8, s = [o0, o1, o2, o3, o4, o5, o6, o7, o8] := by
      match s, hl with
      | [o0, o1, o2, o3, o4, o5, o6, o7, o8], _ => exact ⟨_, _, _, _, _, _, _, _, _, rfl⟩
    have h0 : o0 = some (.list (ns.map .int), 0) := Option.some.inj h0
    subst h0
    obtain ⟨a, b, c, pf, hp⟩ := pile_ok 58 ns i 0 0
    obtain ⟨n, a1, b1, c1, pf1, ht, hn0, hn9⟩ := take_ok 57 a b c 9 0 (by decide) (by decide)
    obtain ⟨n2, a2, b2, c2, pf2, ht2, hm0, hm9⟩ := take_ok 57 a1 b1 c1 9 0 (by decide) (by decide)
    have hA := nx_ok (segA_ok (n := 1 + n) (by omega) (by omega) (some (.list (ns.map .int), 0)) (some (.int i, 0)) (some (.list [.int a1, .int b1, .int c1], 10)) o4 o5 o6 o7 o8)
    obtain ⟨s', eB, hB⟩ := nx_view (segB_ok (n := 1 + n) (by omega) (by omega) (some (.list (ns.map .int), 0)) (some (.int i, 0)) (some (.list [.int a2, .int b2, .int c2], 10)) o6 o7 o8)
    obtain ⟨hB1, hB2⟩ := Prod.mk.inj hB
    have hz := rs_ok (n := 1 + n2) (by omega) (by omega)
    refine ⟨_, s', rfl, ?_, hB1, hB2⟩
    have fp : ∀ a b c : Int, keepFull (some (.list [.int a, .int b, .int c], 10)) = some (.list [.int a, .int b, .int c], 10) := fun _ _ _ => rfl
    rw [seq_next (s' := [some (.list (ns.map .int), 0), some (.int i, 0), some (.list [.int a, .int b, .int c], 10), o3, o4, o5, o6, o7, o8])]
    · rw [seq_next (s' := [some (.list (ns.map .int), 0), some (.int i, 0), some (.list [.int a1, .int b1, .int c1], 10), some (.int (1 + n), 0), o4, o5, o6, o7, o8])]
      · have hA' := seq_next (q := sSeq (p_law_1_7 59) segB) hA
        simp only [segA, seq_assocF] at hA'
        refine (show _ = _ from hA').trans ?_
        rw [seq_next (s' := [some (.list (ns.map .int), 0), some (.int i, 0), some (.list [.int a2, .int b2, .int c2], 10), some (.int (1 + n), 0), some (sq (1 + n).toNat, 10), some (sq (1 + n).toNat, 10), o6, o7, o8])]
        · exact eB
        · simp [p_law_1_7, ht2, gAdd, fp, hz]
      · simp [p_law_1_2, ht, gAdd, fp]
    · simp [p_law_1_1, hp]
      rfl
  obtain ⟨s', e, _, _⟩ := key
  exact ⟨0, _, defn_ret rfl (by
    rw [show start1 9 [(PyData.list (ns.map .int), 0)] = [some (.list (ns.map .int), 0), none, none, none, none, none, none, none, none] from rfl, seq_next e]; rfl)⟩
end Lw
end

section
open PySem PySem.W PySem.Calls PyProof.Rows
set_option maxHeartbeats 0 in
theorem PySem.Challenge.cw_squaremates_k17_round_squares_holds : PySem.Challenge.rw_squaremates_k17_round_squares.Holds := by
  w_on; o_law
  refine HandSHeadRun.head_any (r := OpenLaw.row PySem.Challenge.rw_squaremates_k17_round_squares) (q := view (OpenLaw.row PySem.Challenge.rw_squaremates_k17_round_squares).prog [8]) (H := Lw.hk) (ob := Lw.ob) (M := 4000) (loose := Lw.loose) (d := HandSHeadRun.topDef (OpenLaw.row PySem.Challenge.rw_squaremates_k17_round_squares).prog 8) (kwd := []) Lw.ob_eq
    (by kernel_rfl) (fun s => by kernel_rfl) Lw.run (by kernel_rfl) (by kernel_rfl) (by kernel_rfl) (by rfl) (by first | assumption | decide +kernel) (by decide +kernel) ⟨rfl, rfl, rfl, rfl, rfl, by decide +kernel⟩ ?hw ?hc
  case hw => w_witness2
  case hc =>
    refine L2.walk_ofE (l := PySem.Challenge.rw_squaremates_k17_round_squares) (n := 63) (k := 60) (x := "_law_script") (CX := L2.CX0) rfl (by decide) (by kernel_rfl) ⟨rfl, by decide, by decide⟩ ?F (fun _ _ _ _ z => z)
    intro w mg fa h Y G hmg0
    obtain ⟨K, KX, c⟩ := Y
    have hmg : mg ("law" : PySem.Str) = some (.ref fa) := by
      have e : (HandSHeadRun.topDef (OpenLaw.row PySem.Challenge.rw_squaremates_k17_round_squares).prog 8).name = ("law" : PySem.Str) := by kernel_rfl
      rw [← e]
      exact hmg0
    obtain ⟨fd, hb, hF⟩ := Lw.facts (P := (PySem.Challenge.rw_squaremates_k17_round_squares).prog) (w := w) KX G hmg c
    exact ⟨K, fd, Sq.spF K 1 (Lw.m_law 60), KX, hb, fun H a ns hl _ hS => Sq.law_sp c.b hS (Lw.law_holds ns hl), hF⟩
end
