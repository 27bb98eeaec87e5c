import PyProof.Rows.All
import PySem.PyData
import Wide.All
import OpenK.AllK
import Wide.FinOn
import HandS.ForMost
import HandS.Deep
import HandS.IsInst
import HandS.Wide
import HandS.Defaults
import HandS.NoneIn
import KE.KStateDown
import Lean
import HandS.WordsExc
import HandS.Head0
import HandS.Head1
import HandS.Head2
import HandS.HeadEnd
import HandS.HeadHook1
import HandS.HeadHook2
import HandS.SortInts
import HandS.Style
import HandS.More
import HandS.Conv
import HandS.Ends
import PyProof.ReprRoads
import PyProof.Ascii
import PyProof.FitsInt
import HandS.RaiseMore
import KE.KDictItemsList
import KE.KDictZip
import KE.KTurns
import HandS.ListItems
import HandS.Zip
import KE.SortData
import KE.DataEq
import KE.DataCmp
import HandS.List
import PyProof.CollectStr
import HandS.Text
import HandS.Replace
import HandS.TupSets
import HandS.SetFor
import HandS.Dict
import HandS.HeadHook3
import KE.GoesMore
import HandS.Iter
import PyProof.ExcBaseAll.ValueError
import PySem.Challenge.RW_squaremates_k68_whole_field_sets
set_option Elab.async false
set_option linter.all false
set_option maxRecDepth 100000

section
/-! Sq: what the program's text is worth: plain data, slots, and how expressions and statements act on them. -/
namespace Sq
open PySem

inductive Res (α : Type) where
  | ok (a : α)
  | exc (c : Nat) (p : PyData)
  | bad

namespace Res
def bind {α β : Type} (m : Res α) (f : α → Res β) : Res β := match m with
  | .ok a => f a
  | .exc c p => .exc c p
  | .bad => .bad
instance : Monad Res where
  pure := .ok
  bind := Res.bind
@[simp] theorem bind_ok {α β : Type} (a : α) (f : α → Res β) : ((Res.ok a) >>= f) = f a := rfl
@[simp] theorem bind_bad {α β : Type} (f : α → Res β) : ((Res.bad : Res α) >>= f) = .bad := rfl
@[simp] theorem bind_exc {α β : Type} (c : Nat) (p : PyData) (f : α → Res β) : ((Res.exc c p : Res α) >>= f) = .exc c p := rfl
@[simp] theorem pure_ok {α : Type} (a : α) : (pure a : Res α) = .ok a := rfl
theorem bind_eq_ok {α β : Type} {m : Res α} {f : α → Res β} {b : β} : (m >>= f) = .ok b ↔ ∃ a, m = .ok a ∧ f a = .ok b := by
  cases m with
  | ok a => exact ⟨fun h => ⟨a, rfl, h⟩, fun ⟨a', e, h⟩ => by cases e; exact h⟩
  | exc c p => exact ⟨fun h => (by cases h), fun ⟨a', e, h⟩ => by cases e⟩
  | bad => exact ⟨fun h => (by cases h), fun ⟨a', e, h⟩ => by cases e⟩
end Res

/-! hgt: how many levels of lists (and of tuples that hold lists) there are -/
mutual
def hgt : PyData → Nat
  | .none => 0
  | .bool _ => 0
  | .int _ => 0
  | .str _ => 0
  | .list ds => hgtAll ds + 1
  | .tuple ds => match hgtAll ds with
    | 0 => 0
    | n + 1 => n + 2
  | .dict kvs => hgtKv kvs + 1
def hgtAll : List PyData → Nat
  | [] => 0
  | d :: ds => max (hgt d) (hgtAll ds)
def hgtKv : List (PyData × PyData) → Nat
  | [] => 0
  | d :: ds => max (hgtP d) (hgtKv ds)
def hgtP : PyData × PyData → Nat
  | (_, d) => hgt d
end

/-- a value, and how deep it is one's own -/
abbrev DV := PyData × Nat
abbrev SD := List (Option DV)
def full (x : DV) : Bool := decide (hgt x.1 ≤ x.2)
/-- how deep, 9 for all of it -/
def dep (x : DV) : Nat := if full x then 9 else x.2
/-- how deep the items are one's own -/
def depI (x : DV) : Nat := if full x || decide (hgt x.1 ≤ 1) then 9 else x.2 - 1
def minAll : List Nat → Nat
  | [] => 9
  | n :: ns => min n (minAll ns)
def demote (is : List Nat) (s : SD) : SD := s.mapIdx fun i o => if i ∈ is then o.map fun x => (x.1, 0) else o

abbrev Ex := SD → Res (DV × SD)
abbrev Exs := SD → Res (List DV × SD)

def eC (d : PyData) : Ex := fun s => .ok ((d, 0), s)
def slot (s : SD) (i : Nat) : Res DV := match s[i]? with
  | some (some x) => .ok x
  | _ => .bad
def eVar (i : Nat) : Ex := fun s => do
  let x ← slot s i
  .ok ((x.1, 0), s)
def eMove (i : Nat) : Ex := fun s => do
  let x ← slot s i
  .ok (x, s.set i none)
def e1 (g : PyData → Res PyData) (a : Ex) : Ex := fun s => do
  let (x, s) ← a s
  let d ← g x.1
  .ok ((d, 0), s)
def e2 (g : PyData → PyData → Res PyData) (a b : Ex) : Ex := fun s => do
  let (x, s) ← a s
  let (y, s) ← b s
  let d ← g x.1 y.1
  .ok ((d, 0), s)
def eNil : Exs := fun s => .ok ([], s)
def eCons (a : Ex) (b : Exs) : Exs := fun s => do
  let (x, s) ← a s
  let (xs, s) ← b s
  .ok (x :: xs, s)
def eList (a : Exs) : Ex := fun s => do
  let (xs, s) ← a s
  .ok ((.list (xs.map (·.1)), minAll (xs.map dep) + 1), s)
def eTup (a : Exs) : Ex := fun s => do
  let (xs, s) ← a s
  .ok ((.tuple (xs.map (·.1)), minAll (xs.map dep) + 1), s)
end Sq
end

section
namespace Sq
open PySem PySem.Spec L2

/-- what can be changed -/
def Chg : HO → Prop
  | .lst _ => True
  | .dK _ => True
  | .dT _ => True
  | _ => False

/-- flat things as values -/
def flV : V → Option PyData
  | .bl b => some (.bool b)
  | .int i => some (.int i)
  | .str x => some (.str x)
  | .non => some .none
  | _ => none
def kyD : Key → PyData
  | .inl i => .int i
  | .inr x => .str x
/-- the entries of a dict -/
def kvD (es : List (Key × V)) (kvs : List (PyData × PyData)) : Prop := Paired (fun (e : Key × V) (q : PyData × PyData) => kyD e.1 = q.1 ∧ flV e.2 = some q.2) es kvs
mutual
/-- v is d; its first k levels are one's own, at F; what is shared lies in Z -/
def Own (K : PySem.W.Frag) (Z : Addr → Prop) (H : Hp) : Nat → V → PyData → List Addr → Prop
  | _, v, .none, F => v = .non ∧ F = []
  | _, v, .bool b, F => v = .bl b ∧ F = []
  | _, v, .int i, F => v = .int i ∧ F = []
  | _, v, .str x, F => v = .str x ∧ F = []
  | 0, v, .list ds, F => ∃ p vs, v = .ref p ∧ (Z p ∧ Rd H p (.lst vs)) ∧ OwnAll K Z H 0 vs ds F
  | k + 1, v, .list ds, F => ∃ p vs F', v = .ref p ∧ H p = some (.lst vs) ∧ OwnAll K Z H k vs ds F' ∧ F = p :: F'
  | k, v, .tuple ds, F => ∃ p vs, v = .ref p ∧ SqT K H p vs ∧ OwnAll K Z H (k - 1) vs ds F
  | 0, v, .dict kvs, F => ∃ p es, v = .ref p ∧ (Z p ∧ H p = some (.dK es)) ∧ kvD es kvs ∧ F = []
  | k + 1, v, .dict kvs, F => ∃ p es, v = .ref p ∧ H p = some (.dK es) ∧ kvD es kvs ∧ F = [p]
def OwnAll (K : PySem.W.Frag) (Z : Addr → Prop) (H : Hp) : Nat → List V → List PyData → List Addr → Prop
  | _, vs, [], F => vs = [] ∧ F = []
  | k, vs, d :: ds, F => ∃ v vs' F1 F2, vs = v :: vs' ∧ Own K Z H k v d F1 ∧ OwnAll K Z H k vs' ds F2 ∧ F = F1 ++ F2
end

section
variable {K : PySem.W.Frag} {Z Z' : Addr → Prop} {H H' : Hp}

/-- what must stay so that Own stays -/
def Kp (S : Addr → Prop) (H H' : Hp) : Prop := ∀ a o, H a = some o → (S a ∨ ¬ Chg o) → H' a = some o

theorem Rd.kp {S : Addr → Prop} (h : Kp S H H') {p : Addr} {vs : List V} (z : S p) (r : Rd H p (.lst vs)) : Rd H' p (.lst vs) := by
  rcases r with r | ⟨o, r⟩
  · exact .inl (h _ _ r (.inl z))
  · exact .inr ⟨o, h _ _ r (.inl z)⟩
theorem SqT.kp {S : Addr → Prop} (h : Kp S H H') {p : Addr} {vs : List V} (r : SqT K H p vs) : SqT K H' p vs := by
  rcases r with (r | ⟨o, r⟩) | r
  · exact .inl (.inl (h _ _ r (.inr fun z => z)))
  · exact .inl (.inr ⟨o, h _ _ r (.inr fun z => z)⟩)
  · exact .inr r
mutual
theorem Own.keep : ∀ (d : PyData) {k : Nat} {v : V} {F : List Addr}, Own K Z H k v d F → Kp (fun a => a ∈ F ∨ Z a) H H' → Own K Z H' k v d F
  | .none, _, _, _, h, _ => by unfold Own at h ⊢; exact h
  | .bool _, _, _, _, h, _ => by unfold Own at h ⊢; exact h
  | .int _, _, _, _, h, _ => by unfold Own at h ⊢; exact h
  | .str _, _, _, _, h, _ => by unfold Own at h ⊢; exact h
  | .list ds, 0, _, _, h, kp => by
    unfold Own at h ⊢
    obtain ⟨p, vs, e, r, hs⟩ := h
    exact ⟨p, vs, e, ⟨r.1, Rd.kp kp (.inr r.1) r.2⟩, OwnAll.keep ds hs kp⟩
  | .list ds, k + 1, _, _, h, kp => by
    unfold Own at h ⊢
    obtain ⟨p, vs, F', e, r, hs, rfl⟩ := h
    exact ⟨p, vs, F', e, kp _ _ r (.inl (.inl (List.mem_cons_self ..))), OwnAll.keep ds hs (fun a o e z => kp a o e (z.imp (fun z => z.imp (fun z => List.mem_cons_of_mem _ z) id) id)), rfl⟩
  | .tuple ds, _, _, _, h, kp => by
    unfold Own at h ⊢
    obtain ⟨p, vs, e, r, hs⟩ := h
    exact ⟨p, vs, e, SqT.kp kp r, OwnAll.keep ds hs kp⟩
  | .dict _, 0, _, _, h, kp => by
    unfold Own at h ⊢
    obtain ⟨p, es, e, r, hs, rfl⟩ := h
    exact ⟨p, es, e, ⟨r.1, kp _ _ r.2 (.inl (.inr r.1))⟩, hs, rfl⟩
  | .dict _, k + 1, _, _, h, kp => by
    unfold Own at h ⊢
    obtain ⟨p, es, e, r, hs, rfl⟩ := h
    exact ⟨p, es, e, kp _ _ r (.inl (.inl (List.mem_cons_self ..))), hs, rfl⟩
theorem OwnAll.keep : ∀ (ds : List PyData) {k : Nat} {vs : List V} {F : List Addr}, OwnAll K Z H k vs ds F → Kp (fun a => a ∈ F ∨ Z a) H H' → OwnAll K Z H' k vs ds F
  | [], _, _, _, h, _ => by unfold OwnAll at h ⊢; exact h
  | d :: ds, _, _, _, h, kp => by
    unfold OwnAll at h ⊢
    obtain ⟨v, vs', F1, F2, e, h1, h2, rfl⟩ := h
    exact ⟨v, vs', F1, F2, e, Own.keep d h1 (fun a o e z => kp a o e (z.imp (fun z => z.imp (fun z => List.mem_append_left _ z) id) id)), OwnAll.keep ds h2 (fun a o e z => kp a o e (z.imp (fun z => z.imp (fun z => List.mem_append_right _ z) id) id)), rfl⟩
end

mutual
theorem Own.zmono : ∀ (d : PyData) {k : Nat} {v : V} {F : List Addr}, Own K Z H k v d F → (∀ a, Z a → Z' a) → Own K Z' H k v d F
  | .none, _, _, _, h, _ => by unfold Own at h ⊢; exact h
  | .bool _, _, _, _, h, _ => by unfold Own at h ⊢; exact h
  | .int _, _, _, _, h, _ => by unfold Own at h ⊢; exact h
  | .str _, _, _, _, h, _ => by unfold Own at h ⊢; exact h
  | .list ds, 0, _, _, h, m => by
    unfold Own at h ⊢
    obtain ⟨p, vs, e, r, hs⟩ := h
    exact ⟨p, vs, e, ⟨m _ r.1, r.2⟩, OwnAll.zmono ds hs m⟩
  | .list ds, k + 1, _, _, h, m => by
    unfold Own at h ⊢
    obtain ⟨p, vs, F', e, r, hs, e2⟩ := h
    exact ⟨p, vs, F', e, r, OwnAll.zmono ds hs m, e2⟩
  | .tuple ds, _, _, _, h, m => by
    unfold Own at h ⊢
    obtain ⟨p, vs, e, r, hs⟩ := h
    exact ⟨p, vs, e, r, OwnAll.zmono ds hs m⟩
  | .dict _, 0, _, _, h, m => by
    unfold Own at h ⊢
    obtain ⟨p, es, e, r, hs⟩ := h
    exact ⟨p, es, e, ⟨m _ r.1, r.2⟩, hs⟩
  | .dict _, k + 1, _, _, h, m => by
    unfold Own at h ⊢
    exact h
theorem OwnAll.zmono : ∀ (ds : List PyData) {k : Nat} {vs : List V} {F : List Addr}, OwnAll K Z H k vs ds F → (∀ a, Z a → Z' a) → OwnAll K Z' H k vs ds F
  | [], _, _, _, h, _ => by unfold OwnAll at h ⊢; exact h
  | d :: ds, _, _, _, h, m => by
    unfold OwnAll at h ⊢
    obtain ⟨v, vs', F1, F2, e, h1, h2, e2⟩ := h
    exact ⟨v, vs', F1, F2, e, Own.zmono d h1 m, OwnAll.zmono ds h2 m, e2⟩
end
mutual
/-- what is all one's own is so at every depth, whatever is shared -/
theorem Own.lift : ∀ (d : PyData) {k j : Nat} {v : V} {F : List Addr}, Own K Z H k v d F → hgt d ≤ k → hgt d ≤ j → Own K Z' H j v d F
  | .none, _, _, _, _, h, _, _ => by unfold Own at h ⊢; exact h
  | .bool _, _, _, _, _, h, _, _ => by unfold Own at h ⊢; exact h
  | .int _, _, _, _, _, h, _, _ => by unfold Own at h ⊢; exact h
  | .str _, _, _, _, _, h, _, _ => by unfold Own at h ⊢; exact h
  | .list ds, 0, _, _, _, h, l, _ => by unfold hgt at l; exact absurd l (by omega)
  | .list ds, k + 1, 0, _, _, h, _, l => by unfold hgt at l; exact absurd l (by omega)
  | .list ds, k + 1, j + 1, _, _, h, l, l' => by
    unfold Own at h ⊢
    unfold hgt at l l'
    obtain ⟨p, vs, F', e, r, hs, e2⟩ := h
    exact ⟨p, vs, F', e, r, OwnAll.lift ds hs (by omega) (by omega), e2⟩
  | .tuple ds, k, j, _, _, h, l, l' => by
    unfold Own at h ⊢
    unfold hgt at l l'
    obtain ⟨p, vs, e, r, hs⟩ := h
    refine ⟨p, vs, e, r, OwnAll.lift ds hs ?_ ?_⟩
    · split at l <;> omega
    · split at l' <;> omega
  | .dict kvs, 0, _, _, _, h, l, _ => by unfold hgt at l; exact absurd l (by omega)
  | .dict kvs, k + 1, 0, _, _, h, _, l => by unfold hgt at l; exact absurd l (by omega)
  | .dict kvs, k + 1, j + 1, _, _, h, l, l' => by
    unfold Own at h ⊢
    exact h
theorem OwnAll.lift : ∀ (ds : List PyData) {k j : Nat} {vs : List V} {F : List Addr}, OwnAll K Z H k vs ds F → hgtAll ds ≤ k → hgtAll ds ≤ j → OwnAll K Z' H j vs ds F
  | [], _, _, _, _, h, _, _ => by unfold OwnAll at h ⊢; exact h
  | d :: ds, _, _, _, _, h, l, l' => by
    unfold OwnAll at h ⊢
    unfold hgtAll at l l'
    obtain ⟨v, vs', F1, F2, e, h1, h2, e2⟩ := h
    exact ⟨v, vs', F1, F2, e, Own.lift d h1 (by omega) (by omega), OwnAll.lift ds h2 (by omega) (by omega), e2⟩
end
mutual
/-- less deep: the rest is shared from then on -/
theorem Own.lower : ∀ (d : PyData) {k j : Nat} {v : V} {F : List Addr}, Own K Z H k v d F → F.Nodup → j ≤ k → ∃ F' : List Addr, F'.Sublist F ∧ ∀ Z' : Addr → Prop, (∀ a, Z a → Z' a) → (∀ a ∈ F, a ∉ F' → Z' a) → Own K Z' H j v d F'
  | .none, _, _, _, _, h, _, _ => ⟨[], List.nil_sublist _, fun _ _ _ => by unfold Own at h ⊢; exact ⟨h.1, rfl⟩⟩
  | .bool _, _, _, _, _, h, _, _ => ⟨[], List.nil_sublist _, fun _ _ _ => by unfold Own at h ⊢; exact ⟨h.1, rfl⟩⟩
  | .int _, _, _, _, _, h, _, _ => ⟨[], List.nil_sublist _, fun _ _ _ => by unfold Own at h ⊢; exact ⟨h.1, rfl⟩⟩
  | .str _, _, _, _, _, h, _, _ => ⟨[], List.nil_sublist _, fun _ _ _ => by unfold Own at h ⊢; exact ⟨h.1, rfl⟩⟩
  | .list ds, 0, 0, _, F, h, _, _ => ⟨F, List.Sublist.refl _, fun Z' m _ => Own.zmono _ h m⟩
  | .list ds, 0, j + 1, _, F, h, _, l => absurd l (by omega)
  | .list ds, k + 1, 0, _, _, h, nd, _ => by
    unfold Own at h
    obtain ⟨p, vs, F', e, r, hs, rfl⟩ := h
    obtain ⟨G, sb, q⟩ := OwnAll.lower (j := 0) ds hs (List.nodup_cons.mp nd).2 (Nat.zero_le _)
    refine ⟨G, (sb.cons _), fun Z' m m2 => ?_⟩
    unfold Own
    refine ⟨p, vs, e, ⟨m2 p (List.mem_cons_self ..) (fun z => (List.nodup_cons.mp nd).1 (sb.subset z)), .inl r⟩, q Z' m fun a ha hn => m2 a (List.mem_cons_of_mem _ ha) hn⟩
  | .list ds, k + 1, j + 1, _, _, h, nd, l => by
    unfold Own at h
    obtain ⟨p, vs, F', e, r, hs, rfl⟩ := h
    obtain ⟨G, sb, q⟩ := OwnAll.lower (j := j) ds hs (List.nodup_cons.mp nd).2 (by omega)
    refine ⟨p :: G, sb.cons₂ _, fun Z' m m2 => ?_⟩
    unfold Own
    refine ⟨p, vs, G, e, r, q Z' m fun a ha hn => m2 a (List.mem_cons_of_mem _ ha) fun z => ?_, rfl⟩
    rcases List.mem_cons.mp z with rfl | z
    · exact (List.nodup_cons.mp nd).1 ha
    · exact hn z
  | .tuple ds, k, j, _, _, h, nd, l => by
    unfold Own at h
    obtain ⟨p, vs, e, r, hs⟩ := h
    obtain ⟨G, sb, q⟩ := OwnAll.lower (j := j - 1) ds hs nd (by omega)
    refine ⟨G, sb, fun Z' m m2 => ?_⟩
    unfold Own
    exact ⟨p, vs, e, r, q Z' m m2⟩
  | .dict kvs, 0, 0, _, F, h, _, _ => ⟨F, List.Sublist.refl _, fun Z' m _ => Own.zmono _ h m⟩
  | .dict kvs, 0, j + 1, _, F, h, _, l => absurd l (by omega)
  | .dict kvs, k + 1, 0, _, _, h, nd, _ => by
    unfold Own at h
    obtain ⟨p, es, e, r, hs, rfl⟩ := h
    refine ⟨[], List.nil_sublist _, fun Z' m m2 => ?_⟩
    unfold Own
    exact ⟨p, es, e, ⟨m2 p (List.mem_cons_self ..) (fun z => nomatch z), r⟩, hs, rfl⟩
  | .dict kvs, k + 1, j + 1, _, F, h, nd, l => ⟨F, List.Sublist.refl _, fun Z' m _ => by
    unfold Own at h ⊢
    exact h⟩
theorem OwnAll.lower : ∀ (ds : List PyData) {k j : Nat} {vs : List V} {F : List Addr}, OwnAll K Z H k vs ds F → F.Nodup → j ≤ k → ∃ F' : List Addr, F'.Sublist F ∧ ∀ Z' : Addr → Prop, (∀ a, Z a → Z' a) → (∀ a ∈ F, a ∉ F' → Z' a) → OwnAll K Z' H j vs ds F'
  | [], _, _, _, F, h, _, _ => ⟨[], List.nil_sublist _, fun _ _ _ => by unfold OwnAll at h ⊢; exact ⟨h.1, rfl⟩⟩
  | d :: ds, _, j, _, _, h, nd, l => by
    unfold OwnAll at h
    obtain ⟨v, vs', F1, F2, e, h1, h2, rfl⟩ := h
    obtain ⟨n1, n2, n3⟩ := List.nodup_append.mp nd
    obtain ⟨G1, s1, q1⟩ := Own.lower (j := j) d h1 n1 l
    obtain ⟨G2, s2, q2⟩ := OwnAll.lower (j := j) ds h2 n2 l
    refine ⟨G1 ++ G2, s1.append s2, fun Z' m m2 => ?_⟩
    unfold OwnAll
    refine ⟨v, vs', G1, G2, e, q1 Z' m fun a ha hn => m2 a (List.mem_append_left _ ha) fun z => ?_, q2 Z' m fun a ha hn => m2 a (List.mem_append_right _ ha) fun z => ?_, rfl⟩
    · rcases List.mem_append.mp z with z | z
      · exact hn z
      · exact n3 a ha a (s2.subset z) rfl
    · rcases List.mem_append.mp z with z | z
      · exact n3 a (s1.subset z) a ha rfl
      · exact hn z
end
mutual
theorem Own.nil0 : ∀ (d : PyData) {v : V} {F : List Addr}, Own K Z H 0 v d F → F = []
  | .none, _, _, h => by unfold Own at h; exact h.2
  | .bool _, _, _, h => by unfold Own at h; exact h.2
  | .int _, _, _, h => by unfold Own at h; exact h.2
  | .str _, _, _, h => by unfold Own at h; exact h.2
  | .list ds, _, _, h => by
    unfold Own at h
    obtain ⟨p, vs, e, r, hs⟩ := h
    exact OwnAll.nil0 ds hs
  | .tuple ds, _, _, h => by
    unfold Own at h
    obtain ⟨p, vs, e, r, hs⟩ := h
    exact OwnAll.nil0 ds hs
  | .dict _, _, _, h => by
    unfold Own at h
    obtain ⟨p, es, e, r, hs, rfl⟩ := h
    rfl
theorem OwnAll.nil0 : ∀ (ds : List PyData) {vs : List V} {F : List Addr}, OwnAll K Z H 0 vs ds F → F = []
  | [], _, _, h => by unfold OwnAll at h; exact h.2
  | d :: ds, _, _, h => by
    unfold OwnAll at h
    obtain ⟨v, vs', F1, F2, e, h1, h2, rfl⟩ := h
    rw [Own.nil0 d h1, OwnAll.nil0 ds h2]
    rfl
end
mutual
theorem Own.isl : ∀ (d : PyData) {k : Nat} {v : V} {F : List Addr}, Own K Z H k v d F → ∀ a ∈ F, ∃ o, H a = some o ∧ Chg o
  | .none, _, _, _, h, a, m => by unfold Own at h; rw [h.2] at m; cases m
  | .bool _, _, _, _, h, a, m => by unfold Own at h; rw [h.2] at m; cases m
  | .int _, _, _, _, h, a, m => by unfold Own at h; rw [h.2] at m; cases m
  | .str _, _, _, _, h, a, m => by unfold Own at h; rw [h.2] at m; cases m
  | .list ds, 0, _, _, h, a, m => by
    unfold Own at h
    obtain ⟨p, vs, e, r, hs⟩ := h
    exact OwnAll.isl ds hs a m
  | .list ds, k + 1, _, _, h, a, m => by
    unfold Own at h
    obtain ⟨p, vs, F', e, r, hs, rfl⟩ := h
    rcases List.mem_cons.mp m with rfl | m
    · exact ⟨_, r, trivial⟩
    · exact OwnAll.isl ds hs a m
  | .tuple ds, _, _, _, h, a, m => by
    unfold Own at h
    obtain ⟨p, vs, e, r, hs⟩ := h
    exact OwnAll.isl ds hs a m
  | .dict _, 0, _, _, h, a, m => by
    unfold Own at h
    obtain ⟨p, es, e, r, hs, rfl⟩ := h
    cases m
  | .dict _, k + 1, _, _, h, a, m => by
    unfold Own at h
    obtain ⟨p, es, e, r, hs, rfl⟩ := h
    rw [List.mem_singleton.mp m]
    exact ⟨_, r, trivial⟩
theorem OwnAll.isl : ∀ (ds : List PyData) {k : Nat} {vs : List V} {F : List Addr}, OwnAll K Z H k vs ds F → ∀ a ∈ F, ∃ o, H a = some o ∧ Chg o
  | [], _, _, _, h, a, m => by unfold OwnAll at h; rw [h.2] at m; cases m
  | d :: ds, _, _, _, h, a, m => by
    unfold OwnAll at h
    obtain ⟨v, vs', F1, F2, e, h1, h2, rfl⟩ := h
    rcases List.mem_append.mp m with m | m
    · exact Own.isl d h1 a m
    · exact OwnAll.isl ds h2 a m
end
mutual
/-- no dict in it -/
def ndc : PyData → Bool
  | .list ds => ndcAll ds
  | .tuple ds => ndcAll ds
  | .dict _ => false
  | _ => true
def ndcAll : List PyData → Bool
  | [] => true
  | d :: ds => ndc d && ndcAll ds
end
mutual
theorem ndc_lay : ∀ d : PyData, PyData.canLay0 d = true → ndc d = true
  | .none, _ => rfl
  | .bool _, _ => rfl
  | .int _, _ => rfl
  | .str _, _ => rfl
  | .list ds, h => by
    rw [PyData.canLay0] at h
    rw [ndc]
    exact ndcAll_lay ds h
  | .tuple ds, h => by
    rw [PyData.canLay0] at h
    rw [ndc]
    exact ndcAll_lay ds h
  | .dict _, h => by rw [PyData.canLay0] at h; cases h
theorem ndcAll_lay : ∀ ds : List PyData, PyData.canLayAll0 ds = true → ndcAll ds = true
  | [], _ => rfl
  | d :: ds, h => by
    rw [PyData.canLayAll0, Bool.and_eq_true] at h
    rw [ndcAll, ndc_lay d h.1, ndcAll_lay ds h.2]
    rfl
end
theorem ndc_shaped {d : PyData} (h : SeqAt.shaped d = true) : ndc d = true := by
  unfold SeqAt.shaped at h
  rw [Bool.and_eq_true] at h
  exact ndc_lay d h.1
theorem ndc_ints : ∀ ns : List Int, ndcAll (ns.map .int) = true
  | [] => rfl
  | n :: ns => by rw [List.map_cons, ndcAll, ndc_ints ns]; rfl
mutual
theorem Own.dp : ∀ (d : PyData) {k : Nat} {v : V} {F : List Addr}, Own K Z H k v d F → ndc d = true → Dp K H v d
  | .none, _, _, _, h, _ => by unfold Own at h; rw [h.1]; exact .non
  | .bool _, _, _, _, h, _ => by unfold Own at h; rw [h.1]; exact .bl _
  | .int _, _, _, _, h, _ => by unfold Own at h; rw [h.1]; exact .int _
  | .str _, _, _, _, h, _ => by unfold Own at h; rw [h.1]; exact .str _
  | .list ds, 0, _, _, h, n => by
    unfold Own at h
    rw [ndc] at n
    obtain ⟨p, vs, rfl, r, hs⟩ := h
    exact .lst (.inl r.2) (OwnAll.dp ds hs n)
  | .list ds, k + 1, _, _, h, n => by
    unfold Own at h
    rw [ndc] at n
    obtain ⟨p, vs, F', rfl, r, hs, rfl⟩ := h
    exact .lst (SqL.of r) (OwnAll.dp ds hs n)
  | .tuple ds, _, _, _, h, n => by
    unfold Own at h
    rw [ndc] at n
    obtain ⟨p, vs, rfl, r, hs⟩ := h
    exact .tup r (OwnAll.dp ds hs n)
  | .dict _, _, _, _, h, n => by rw [ndc] at n; cases n
theorem OwnAll.dp : ∀ (ds : List PyData) {k : Nat} {vs : List V} {F : List Addr}, OwnAll K Z H k vs ds F → ndcAll ds = true → DpAll K H vs ds
  | [], _, _, _, h, _ => by unfold OwnAll at h; rw [h.1]; exact .nil
  | d :: ds, _, _, _, h, n => by
    unfold OwnAll at h
    rw [ndcAll, Bool.and_eq_true] at n
    obtain ⟨v, vs', F1, F2, rfl, h1, h2, rfl⟩ := h
    exact .cons (Own.dp d h1 n.1) (OwnAll.dp ds h2 n.2)
end
theorem Own.dicR {k : Nat} {v : V} {kvs : List (PyData × PyData)} {F : List Addr} (h : Own K Z H k v (.dict kvs) F) : ∃ p es, v = .ref p ∧ H p = some (.dK es) ∧ kvD es kvs ∧ ((k = 0 ∧ F = [] ∧ Z p) ∨ (k ≠ 0 ∧ F = [p])) := by
  cases k with
  | zero =>
    unfold Own at h
    obtain ⟨p, es, e, r, hs, rfl⟩ := h
    exact ⟨p, es, e, r.2, hs, .inl ⟨rfl, rfl, r.1⟩⟩
  | succ k =>
    unfold Own at h
    obtain ⟨p, es, e, r, hs, rfl⟩ := h
    exact ⟨p, es, e, r, hs, .inr ⟨Nat.succ_ne_zero _, rfl⟩⟩
theorem OwnAll.len : ∀ (ds : List PyData) {k : Nat} {vs : List V} {F : List Addr}, OwnAll K Z H k vs ds F → vs.length = ds.length
  | [], _, _, _, h => by unfold OwnAll at h; rw [h.1]; rfl
  | d :: ds, _, _, _, h => by
    unfold OwnAll at h
    obtain ⟨v, vs', F1, F2, rfl, h1, h2, rfl⟩ := h
    exact congrArg Nat.succ (OwnAll.len ds h2)
/-- the list behind a value -/
theorem Own.rdL {k : Nat} {v : V} {ds : List PyData} {F : List Addr} (h : Own K Z H k v (.list ds) F) : ∃ p vs F', v = .ref p ∧ Rd H p (.lst vs) ∧ OwnAll K Z H (k - 1) vs ds F' ∧ ((k = 0 ∧ F' = F ∧ Z p) ∨ (k ≠ 0 ∧ F = p :: F' ∧ H p = some (.lst vs))) := by
  cases k with
  | zero =>
    unfold Own at h
    obtain ⟨p, vs, rfl, r, hs⟩ := h
    exact ⟨p, vs, F, rfl, r.2, hs, .inl ⟨rfl, rfl, r.1⟩⟩
  | succ k =>
    unfold Own at h
    obtain ⟨p, vs, F', rfl, r, hs, rfl⟩ := h
    exact ⟨p, vs, F', rfl, .inl r, hs, .inr ⟨by omega, rfl, r⟩⟩
theorem Own.sub {k : Nat} {v : V} {ds : List PyData} {F : List Addr} (h : Own K Z H k v (.list ds) F) : ∃ p vs F', v = .ref p ∧ Rd H p (.lst vs) ∧ OwnAll K Z H (k - 1) vs ds F' ∧ F'.Sublist F := by
  obtain ⟨p, vs, F', e, r, hs, q⟩ := h.rdL
  refine ⟨p, vs, F', e, r, hs, ?_⟩
  rcases q with ⟨_, rfl, _⟩ | ⟨_, rfl, _⟩
  · exact List.Sublist.refl _
  · exact List.sublist_cons_self _ _
/-- one item of several -/
theorem OwnAll.get : ∀ (ds : List PyData) {k : Nat} {vs : List V} {F : List Addr} (i : Nat) {d : PyData}, OwnAll K Z H k vs ds F → ds[i]? = some d → ∃ v F', vs[i]? = some v ∧ Own K Z H k v d F' ∧ F'.Sublist F
  | [], _, _, _, i, _, _, e => by simp at e
  | d :: ds, _, _, _, 0, _, h, e => by
    unfold OwnAll at h
    obtain ⟨v, vs', F1, F2, rfl, h1, h2, rfl⟩ := h
    simp only [List.getElem?_cons_zero, Option.some.injEq] at e
    subst e
    exact ⟨v, F1, rfl, h1, List.sublist_append_left _ _⟩
  | d :: ds, _, _, _, i + 1, _, h, e => by
    unfold OwnAll at h
    obtain ⟨v, vs', F1, F2, rfl, h1, h2, rfl⟩ := h
    simp only [List.getElem?_cons_succ] at e
    obtain ⟨w, F', e1, q, sb⟩ := OwnAll.get ds i h2 e
    exact ⟨w, F', by simpa using e1, q, sb.trans (List.sublist_append_right _ _)⟩
end
end Sq
end

section
namespace Sq
open PySem PySem.Spec L2

abbrev Zs := Addr → Prop
abbrev Fp := Nat → List Addr

/-- the slots are what they are told to be -/
structure Good (K : PySem.W.Frag) (Z : Zs) (H : Hp) (σ : St) (s : SD) (Fs : Fp) : Prop where
  len : s.length = σ.length
  own : ∀ (i : Nat) d k, s[i]? = some (some (d, k)) → ∃ v, σ[i]? = some (some v) ∧ Own K Z H k v d (Fs i)
  nd : ∀ i, (Fs i).Nodup
  dj : ∀ i j, i ≠ j → ∀ a ∈ Fs i, a ∉ Fs j
  nz : ∀ i, ∀ a ∈ Fs i, ¬ Z a
  isl : ∀ i, ∀ a ∈ Fs i, ∃ o, H a = some o ∧ Chg o
  zt : ∀ a, Z a → ∃ o, H a = some o

/-- from one moment to a later one: only what the slots mv own may be changed -/
structure Tr (mv : List Nat) (H : Hp) (Z : Zs) (Fs : Fp) (H' : Hp) (Z' : Zs) (Fs' : Fp) : Prop where
  ev : ∀ a o, H a = some o → (∀ i ∈ mv, a ∉ Fs i) → H' a = some o
  dom : ∀ a, H' a = none → H a = none
  zm : ∀ a, Z a → Z' a
  zb : ∀ a, Z' a → Z a ∨ H a = none ∨ ∃ i ∈ mv, a ∈ Fs i
  fo : ∀ i, i ∉ mv → Fs' i = Fs i
  fb : ∀ i ∈ mv, ∀ a ∈ Fs' i, H a = none ∨ ∃ j ∈ mv, a ∈ Fs j

theorem Tr.refl {H : Hp} {Z : Zs} {Fs : Fp} (mv : List Nat) : Tr mv H Z Fs H Z Fs :=
  ⟨fun _ _ e _ => e, fun _ e => e, fun _ z => z, fun _ z => .inl z, fun _ _ => rfl, fun i hi a ha => .inr ⟨i, hi, ha⟩⟩
theorem Tr.weak {mv mv' : List Nat} {H H' : Hp} {Z Z' : Zs} {Fs Fs' : Fp} (t : Tr mv H Z Fs H' Z' Fs') (h : ∀ i ∈ mv, i ∈ mv') : Tr mv' H Z Fs H' Z' Fs' where
  ev := fun a o e n => t.ev a o e fun i hi => n i (h i hi)
  dom := t.dom
  zm := t.zm
  zb := fun a z => (t.zb a z).imp id (fun z => z.imp id fun ⟨i, hi, ha⟩ => ⟨i, h i hi, ha⟩)
  fo := fun i hi => t.fo i fun z => hi (h i z)
  fb := fun i hi a ha => by
    by_cases m : i ∈ mv
    · exact (t.fb i m a ha).imp id fun ⟨j, hj, q⟩ => ⟨j, h j hj, q⟩
    · rw [t.fo i m] at ha
      exact .inr ⟨i, hi, ha⟩
theorem Tr.trans {m1 m2 mv : List Nat} {H H1 H2 : Hp} {Z Z1 Z2 : Zs} {Fs Fs1 Fs2 : Fp} (t : Tr m1 H Z Fs H1 Z1 Fs1) (u : Tr m2 H1 Z1 Fs1 H2 Z2 Fs2) (h1 : ∀ i ∈ m1, i ∈ mv) (h2 : ∀ i ∈ m2, i ∈ mv) : Tr mv H Z Fs H2 Z2 Fs2 := by
  have t' := t.weak h1
  have u' := u.weak h2
  have bk : ∀ a, (∃ i ∈ mv, a ∈ Fs1 i) → H a = none ∨ ∃ j ∈ mv, a ∈ Fs j := fun a ⟨i, hi, ha⟩ => t'.fb i hi a ha
  refine ⟨fun a o e n => u'.ev a o (t'.ev a o e n) fun i hi ha => ?_, fun a e => t'.dom a (u'.dom a e), fun a z => u'.zm a (t'.zm a z), fun a z => ?_, fun i hi => (u'.fo i hi).trans (t'.fo i hi), fun i hi a ha => ?_⟩
  · rcases t'.fb i hi a ha with q | ⟨j, hj, q⟩
    · rw [e] at q; cases q
    · exact n j hj q
  · rcases u'.zb a z with q | q | q
    · exact t'.zb a q
    · exact .inr (.inl (t'.dom a q))
    · exact .inr (bk a q)
  · rcases u'.fb i hi a ha with q | q
    · exact .inl (t'.dom a q)
    · exact bk a q

/-- what is held beside the slots: P of what may be shared, the heap, and what is owned -/
abbrev Pr := Zs → Hp → List Addr → Prop
structure Stb (P : Pr) : Prop where
  keep : ∀ {Z : Zs} {H H' : Hp} {F : List Addr}, P Z H F → Kp (fun a => a ∈ F ∨ Z a) H H' → P Z H' F
  zm : ∀ {Z Z' : Zs} {H : Hp} {F : List Addr}, P Z H F → (∀ a, Z a → Z' a) → P Z' H F
  isl : ∀ {Z : Zs} {H : Hp} {F : List Addr}, P Z H F → ∀ a ∈ F, ∃ o, H a = some o ∧ Chg o

/-- what may be shared with the slots fv -/
def Zf (Z : Zs) (Fs : Fp) (fv : List Nat) : Zs := fun a => Z a ∨ ∃ i ∈ fv, a ∈ Fs i

structure Held (P : Pr) (fv : List Nat) (H : Hp) (Z : Zs) (Fs : Fp) (F : List Addr) : Prop where
  pr : P (Zf Z Fs fv) H F
  nd : F.Nodup
  nf : ∀ a ∈ F, ∀ i, a ∉ Fs i
  nz : ∀ a ∈ F, ¬ Z a

/-- held things stay while slots are changed that they share nothing with -/
theorem Held.on {K : PySem.W.Frag} {P : Pr} {fv mv : List Nat} {H H' : Hp} {Z Z' : Zs} {Fs Fs' : Fp} {F : List Addr} {σ : St} {s : SD} (S : Stb P) (h : Held P fv H Z Fs F) (g : Good K Z H σ s Fs) (t : Tr mv H Z Fs H' Z' Fs') (d : ∀ i ∈ fv, i ∉ mv) : Held P fv H' Z' Fs' F := by
  have out : ∀ a ∈ F, ∃ o, H a = some o := fun a ha => let ⟨o, e, _⟩ := S.isl h.pr a ha; ⟨o, e⟩
  refine ⟨S.zm (S.keep h.pr fun a o e q => ?_) (fun a z => ?_), h.nd, fun a ha i z => ?_, fun a ha z => ?_⟩
  · refine t.ev a o e fun i hi ha => ?_
    rcases q with (q | q | ⟨j, hj, q⟩) | q
    · exact h.nf a q i ha
    · exact g.nz i a ha q
    · exact g.dj j i (fun e => d j hj (e ▸ hi)) a q ha
    · obtain ⟨o', e', c⟩ := g.isl i a ha
      rw [e] at e'; cases e'
      exact q c
  · rcases z with z | ⟨i, hi, z⟩
    · exact .inl (t.zm a z)
    · exact .inr ⟨i, hi, by rw [t.fo i (d i hi)]; exact z⟩
  · by_cases m : i ∈ mv
    · rcases t.fb i m a z with q | ⟨j, _, q⟩
      · obtain ⟨o, e⟩ := out a ha
        rw [e] at q; cases q
      · exact h.nf a ha j q
    · rw [t.fo i m] at z
      exact h.nf a ha i z
  · rcases t.zb a z with q | q | ⟨i, _, q⟩
    · exact h.nz a ha q
    · obtain ⟨o, e⟩ := out a ha
      rw [e] at q; cases q
    · exact h.nf a ha i q

def POne (K : PySem.W.Frag) (v : V) (x : DV) : Pr := fun Z H F => Own K Z H x.2 v x.1 F
def OwnL (K : PySem.W.Frag) (Z : Zs) (H : Hp) : List V → List DV → List Addr → Prop
  | vs, [], F => vs = [] ∧ F = []
  | vs, x :: xs, F => ∃ v vs' F1 F2, vs = v :: vs' ∧ Own K Z H x.2 v x.1 F1 ∧ OwnL K Z H vs' xs F2 ∧ F = F1 ++ F2
def PAll (K : PySem.W.Frag) (vs : List V) (xs : List DV) : Pr := fun Z H F => OwnL K Z H vs xs F
theorem stb_one (K : PySem.W.Frag) (v : V) (x : DV) : Stb (POne K v x) := ⟨fun h k => Own.keep _ h k, fun h m => Own.zmono _ h m, fun h => Own.isl _ h⟩
theorem OwnL.keep {K : PySem.W.Frag} {Z : Zs} {H H' : Hp} : ∀ {xs : List DV} {vs : List V} {F : List Addr}, OwnL K Z H vs xs F → Kp (fun a => a ∈ F ∨ Z a) H H' → OwnL K Z H' vs xs F
  | [], _, _, h, _ => h
  | x :: xs, _, _, ⟨v, vs', F1, F2, e, h1, h2, e2⟩, k => by
    subst e2
    exact ⟨v, vs', F1, F2, e, Own.keep _ h1 fun a o e z => k a o e (z.imp (fun z => z.imp (fun z => List.mem_append_left _ z) id) id), OwnL.keep h2 fun a o e z => k a o e (z.imp (fun z => z.imp (fun z => List.mem_append_right _ z) id) id), rfl⟩
theorem OwnL.zmono {K : PySem.W.Frag} {Z Z' : Zs} {H : Hp} (m : ∀ a, Z a → Z' a) : ∀ {xs : List DV} {vs : List V} {F : List Addr}, OwnL K Z H vs xs F → OwnL K Z' H vs xs F
  | [], _, _, h => h
  | x :: xs, _, _, ⟨v, vs', F1, F2, e, h1, h2, e2⟩ => ⟨v, vs', F1, F2, e, Own.zmono _ h1 m, OwnL.zmono m h2, e2⟩
theorem OwnL.isl {K : PySem.W.Frag} {Z : Zs} {H : Hp} : ∀ {xs : List DV} {vs : List V} {F : List Addr}, OwnL K Z H vs xs F → ∀ a ∈ F, ∃ o, H a = some o ∧ Chg o
  | [], _, _, h, a, m => by rw [h.2] at m; cases m
  | x :: xs, _, _, ⟨v, vs', F1, F2, e, h1, h2, e2⟩, a, m => by
    subst e2
    rcases List.mem_append.mp m with m | m
    · exact Own.isl _ h1 a m
    · exact OwnL.isl h2 a m
theorem OwnL.len {K : PySem.W.Frag} {Z : Zs} {H : Hp} : ∀ {xs : List DV} {vs : List V} {F : List Addr}, OwnL K Z H vs xs F → vs.length = xs.length
  | [], _, _, h => by rw [h.1]; rfl
  | x :: xs, _, _, ⟨v, vs', F1, F2, e, h1, h2, e2⟩ => by rw [e]; exact congrArg Nat.succ h2.len
theorem stb_all (K : PySem.W.Frag) (vs : List V) (xs : List DV) : Stb (PAll K vs xs) := ⟨fun h k => OwnL.keep h k, fun h m => OwnL.zmono m h, fun h => OwnL.isl h⟩

/-- behind a piece of code: from (H, Z, Fs) to (H', Z', Fs'), the slots s', and what is held -/
structure Post (K : PySem.W.Frag) (P : Pr) (fv mv : List Nat) (H : Hp) (Z : Zs) (Fs : Fp) (σ : St) (s' : SD) (H' : Hp) (Z' : Zs) (Fs' : Fp) (F : List Addr) : Prop where
  tr : Tr mv H Z Fs H' Z' Fs'
  good : Good K Z' H' σ s' Fs'
  held : Held P fv H' Z' Fs' F
  new : ∀ a ∈ F, H a = none ∨ ∃ i ∈ mv, a ∈ Fs i

def tE (K : PySem.W.Frag) (fv mv : List Nat) (f : Ex) : TE := fun σ H Q => ∃ Z s Fs x s', Good K Z H σ s Fs ∧ f s = .ok (x, s') ∧ ∀ v H' Z' Fs' F, Post K (POne K v x) fv mv H Z Fs σ s' H' Z' Fs' F → Q v H'
/-- io: which arguments are slots' own things -/
def IoOk (io : List (Nat × Nat)) (σ : L2.St) (vs : List V) : Prop := ∀ p ∈ io, ∃ v, vs[p.1]? = some v ∧ σ[p.2]? = some (some v)
def tA (K : PySem.W.Frag) (fv mv : List Nat) (io : List (Nat × Nat)) (f : Exs) : TA := fun σ H Q => ∃ Z s Fs xs s', Good K Z H σ s Fs ∧ f s = .ok (xs, s') ∧ ∀ vs H' Z' Fs' F, Post K (PAll K vs xs) fv mv H Z Fs σ s' H' Z' Fs' F → IoOk io σ vs → Q vs H'
abbrev Tst := SD → Res (Bool × SD)
def PNone : Pr := fun _ _ F => F = []
theorem stb_none : Stb PNone := ⟨fun h _ => h, fun h _ => h, fun h a m => by rw [h] at m; cases m⟩
def tT (K : PySem.W.Frag) (mv : List Nat) (f : Tst) : TT := fun σ H Q => ∃ Z s Fs b s', Good K Z H σ s Fs ∧ f s = .ok (b, s') ∧ ∀ H' Z' Fs', Post K PNone [] mv H Z Fs σ s' H' Z' Fs' [] → Q b H'

theorem PE.of {X : Cx} {e : Expr} {t t' : TE} (h : PE X e t) (i : ∀ σ H Q, t' σ H Q → t σ H Q) : PE X e t' := ⟨fun pins s σ H Q I q => h.run pins s σ H Q I (i σ H Q q)⟩
theorem PT.of {X : Cx} {e : Expr} {t t' : TT} (h : PT X e t) (i : ∀ σ H Q, t' σ H Q → t σ H Q) : PT X e t' := ⟨fun pins s σ H Q I q => h.run pins s σ H Q I (i σ H Q q)⟩
theorem PW.of {X : Cx} {e : Expr} {t t' : TT} (h : PW X e t) (i : ∀ σ H Q, t' σ H Q → t σ H Q) : PW X e t' := ⟨fun w pins s σ H Q I q => h.run w pins s σ H Q I (i σ H Q q)⟩
theorem PA.of {X : Cx} {es : List Expr} {t t' : TA} (h : PA X es t) (i : ∀ σ H Q, t' σ H Q → t σ H Q) : PA X es t' := ⟨fun p pins s σ H Q I q => h.run p pins s σ H Q I (i σ H Q q)⟩
theorem PS.of {X : Cx} {e : Stmt} {t t' : TS} (h : PS X e t) (i : ∀ D σ H, t' D σ H → t D σ H) : PS X e t' := ⟨fun pins s σ H D I q => h.run pins s σ H D I (i D σ H q)⟩
theorem PSs.of {X : Cx} {e : List Stmt} {t t' : TS} (h : PSs X e t) (i : ∀ D σ H, t' D σ H → t D σ H) : PSs X e t' := ⟨fun pins s σ H D I q => h.run pins s σ H D I (i D σ H q)⟩
end Sq
end

section
namespace Sq
open PySem PySem.Spec L2
section
variable {K : PySem.W.Frag} {Z Z' Z1 : Zs} {H H' H1 : Hp} {Fs Fs' Fs1 : Fp} {σ : St} {s s' : SD} {F F' : List Addr} {fv mv : List Nat} {P P' : Pr}

theorem Own.to {d : PyData} {k m : Nat} {v : V} (h : Own K Z H k v d F) (nd : F.Nodup) (l : hgt d ≤ k ∨ m ≤ k) : ∃ F' : List Addr, F'.Sublist F ∧ ∀ Z' : Zs, (∀ a, Z a → Z' a) → (∀ a ∈ F, a ∉ F' → Z' a) → Own K Z' H m v d F' := by
  by_cases q : m ≤ k
  · exact Own.lower d h nd q
  · have l' : hgt d ≤ k := by omega
    exact ⟨F, List.Sublist.refl _, fun Z' _ _ => Own.lift d h l' (by omega)⟩
theorem OwnAll.to {ds : List PyData} {k m : Nat} {vs : List V} (h : OwnAll K Z H k vs ds F) (nd : F.Nodup) (l : hgtAll ds ≤ k ∨ m ≤ k) : ∃ F' : List Addr, F'.Sublist F ∧ ∀ Z' : Zs, (∀ a, Z a → Z' a) → (∀ a ∈ F, a ∉ F' → Z' a) → OwnAll K Z' H m vs ds F' := by
  by_cases q : m ≤ k
  · exact OwnAll.lower ds h nd q
  · have l' : hgtAll ds ≤ k := by omega
    exact ⟨F, List.Sublist.refl _, fun Z' _ _ => OwnAll.lift ds h l' (by omega)⟩
theorem full_iff {x : DV} : full x = true ↔ hgt x.1 ≤ x.2 := by unfold full; exact decide_eq_true_iff
theorem OwnL.to : ∀ {xs : List DV} {vs : List V} {F : List Addr} {m : Nat}, OwnL K Z H vs xs F → F.Nodup → m ≤ minAll (xs.map dep) → ∃ F' : List Addr, F'.Sublist F ∧ ∀ Z' : Zs, (∀ a, Z a → Z' a) → (∀ a ∈ F, a ∉ F' → Z' a) → OwnAll K Z' H m vs (xs.map (·.1)) F'
  | [], _, F, _, h, _, _ => ⟨[], List.nil_sublist _, fun _ _ _ => by
      rw [List.map_nil]; unfold OwnAll; exact ⟨h.1, rfl⟩⟩
  | x :: xs, _, _, m, ⟨v, vs', F1, F2, e, h1, h2, e2⟩, nd, l => by
    subst e2
    obtain ⟨n1, n2, n3⟩ := List.nodup_append.mp nd
    rw [List.map_cons, minAll] at l
    have l1 : hgt x.1 ≤ x.2 ∨ m ≤ x.2 := by
      by_cases q : full x = true
      · exact .inl (full_iff.mp q)
      · have : dep x = x.2 := by unfold dep; rw [if_neg q]
        rw [this] at l
        exact .inr (by omega)
    obtain ⟨G1, s1, q1⟩ := Own.to (m := m) h1 n1 l1
    obtain ⟨G2, s2, q2⟩ := OwnL.to (m := m) h2 n2 (by omega)
    refine ⟨G1 ++ G2, s1.append s2, fun Z' mz m2 => ?_⟩
    rw [List.map_cons]
    unfold OwnAll
    refine ⟨v, vs', G1, G2, e, q1 Z' mz fun a ha hn => m2 a (List.mem_append_left _ ha) fun z => ?_, q2 Z' mz fun a ha hn => m2 a (List.mem_append_right _ ha) fun z => ?_, rfl⟩
    · rcases List.mem_append.mp z with z | z
      · exact hn z
      · exact n3 a ha a (s2.subset z) rfl
    · rcases List.mem_append.mp z with z | z
      · exact n3 a (s1.subset z) a ha rfl
      · exact hn z
/-- seen by others: all of it shared -/
theorem Own.share {d : PyData} {k : Nat} {v : V} (h : Own K Z H k v d F) (nd : F.Nodup) : Own K (fun a => Z a ∨ a ∈ F) H 0 v d [] := by
  obtain ⟨F', sb, q⟩ := Own.lower (j := 0) d h nd (Nat.zero_le _)
  have r := q (fun a => Z a ∨ a ∈ F) (fun a z => .inl z) (fun a ha _ => .inr ha)
  have e := Own.nil0 d r
  rw [e] at r
  exact r

theorem Good.kp (g : Good K Z H σ s Fs) {p : Addr} {o : HO} (hp : H p = none) (S : Addr → Prop) : Kp S H (upd H p o) := fun a u e _ => by
  rw [upd_ne (ne_of_none e hp)]
  exact e
/-- a new object beside the slots -/
theorem Good.laid (g : Good K Z H σ s Fs) {p : Addr} {o : HO} (hp : H p = none) : Good K Z (upd H p o) σ s Fs where
  len := g.len
  own := fun i d k e => by
    obtain ⟨v, e1, h⟩ := g.own i d k e
    exact ⟨v, e1, Own.keep d h (g.kp hp _)⟩
  nd := g.nd
  dj := g.dj
  nz := g.nz
  isl := fun i a ha => by
    obtain ⟨o', e, c⟩ := g.isl i a ha
    exact ⟨o', by rw [upd_ne (ne_of_none e hp)]; exact e, c⟩
  zt := fun a z => by
    obtain ⟨o', e⟩ := g.zt a z
    exact ⟨o', by rw [upd_ne (ne_of_none e hp)]; exact e⟩
/-- more is shared -/
theorem Good.more (g : Good K Z H σ s Fs) (m : ∀ a, Z a → Z' a) (n : ∀ a, Z' a → ∀ i, a ∉ Fs i) (t : ∀ a, Z' a → ∃ o, H a = some o) : Good K Z' H σ s Fs where
  len := g.len
  own := fun i d k e => by
    obtain ⟨v, e1, h⟩ := g.own i d k e
    exact ⟨v, e1, Own.zmono d h m⟩
  nd := g.nd
  dj := g.dj
  nz := fun i a ha z => n a z i ha
  isl := g.isl
  zt := t

/-- other things held -/
theorem Post.sub (h : Post K P fv mv H Z Fs σ s' H1 Z1 Fs1 F) (sb : F'.Sublist F) (pr : P' (Zf Z1 Fs1 fv) H1 F') : Post K P' fv mv H Z Fs σ s' H1 Z1 Fs1 F' :=
  ⟨h.tr, h.good, ⟨pr, h.held.nd.sublist sb, fun a ha => h.held.nf a (sb.subset ha), fun a ha => h.held.nz a (sb.subset ha)⟩, fun a ha => h.new a (sb.subset ha)⟩
theorem Post.sc (h : Post K P fv mv H Z Fs σ s' H1 Z1 Fs1 F) {v : V} {x : DV} (pr : Own K (Zf Z1 Fs1 fv) H1 x.2 v x.1 []) : Post K (POne K v x) fv mv H Z Fs σ s' H1 Z1 Fs1 [] := h.sub (List.nil_sublist _) pr
theorem Post.nothing (h : Post K P fv mv H Z Fs σ s' H1 Z1 Fs1 F) : Post K PNone fv mv H Z Fs σ s' H1 Z1 Fs1 [] := h.sub (List.nil_sublist _) rfl
/-- what is held is shared from now on, but for F' -/
def Zp (Z : Zs) (F F' : List Addr) : Zs := fun a => Z a ∨ (a ∈ F ∧ a ∉ F')
theorem Post.shared (S : Stb P) (h : Post K P fv mv H Z Fs σ s' H1 Z1 Fs1 F) (sb : F'.Sublist F) (pr : P' (Zf (Zp Z1 F F') Fs1 fv) H1 F') : Post K P' fv mv H Z Fs σ s' H1 (Zp Z1 F F') Fs1 F' where
  tr := ⟨h.tr.ev, h.tr.dom, fun a z => .inl (h.tr.zm a z), fun a z => by
    rcases z with z | ⟨z, _⟩
    · exact h.tr.zb a z
    · exact .inr (h.new a z), h.tr.fo, h.tr.fb⟩
  good := h.good.more (fun a z => .inl z) (fun a z i ha => by
    rcases z with z | ⟨z, _⟩
    · exact h.good.nz i a ha z
    · exact h.held.nf a z i ha) (fun a z => by
    rcases z with z | ⟨z, _⟩
    · exact h.good.zt a z
    · obtain ⟨o, e, _⟩ := S.isl h.held.pr a z
      exact ⟨o, e⟩)
  held := ⟨pr, h.held.nd.sublist sb, fun a ha => h.held.nf a (sb.subset ha), fun a ha z => by
    rcases z with z | ⟨_, z⟩
    · exact h.held.nz a (sb.subset ha) z
    · exact z ha⟩
  new := fun a ha => h.new a (sb.subset ha)
/-- a new object: p holds vs, which are held -/
theorem Post.newO (h : Post K P fv mv H Z Fs σ s' H1 Z1 Fs1 F) (S : Stb P) {p : Addr} {o : HO} (hp : H1 p = none) : Post K P fv mv H Z Fs σ s' (upd H1 p o) Z1 Fs1 F where
  tr := ⟨fun a u e n => by
      have e1 := h.tr.ev a u e n
      rw [upd_ne (ne_of_none e1 hp)]; exact e1, fun a e => by
      by_cases q : a = p
      · subst q; rw [upd_same] at e; cases e
      · rw [upd_ne q] at e; exact h.tr.dom a e, h.tr.zm, h.tr.zb, h.tr.fo, h.tr.fb⟩
  good := h.good.laid hp
  held := ⟨S.keep h.held.pr (h.good.kp hp _), h.held.nd, h.held.nf, h.held.nz⟩
  new := h.new
theorem Post.newL (h : Post K P fv mv H Z Fs σ s' H1 Z1 Fs1 F) (S : Stb P) {p : Addr} {vs : List V} {ds : List PyData} {k : Nat} (hp : H1 p = none) (sb : F'.Sublist F)
    (own : ∀ Z2 : Zs, (∀ a, Zf Z1 Fs1 fv a → Z2 a) → (∀ a ∈ F, a ∉ F' → Z2 a) → OwnAll K Z2 H1 k vs ds F') : Post K (POne K (.ref p) (.list ds, k + 1)) fv mv H Z Fs σ s' (upd H1 p (.lst vs)) (Zp Z1 F F') Fs1 (p :: F') := by
  have q0 : Post K (fun Z H F => OwnAll K Z H k vs ds F) fv mv H Z Fs σ s' H1 (Zp Z1 F F') Fs1 F' := h.shared S sb (own _ (fun a z => z.imp (fun z => .inl z) id) fun a ha hn => .inl (.inr ⟨ha, hn⟩))
  have S1 : Stb (fun Z H F => OwnAll K Z H k vs ds F) := ⟨fun h k => OwnAll.keep _ h k, fun h m => OwnAll.zmono _ h m, fun h => OwnAll.isl _ h⟩
  have q1 := q0.newO S1 (o := .lst vs) hp
  have np : ∀ a ∈ F', a ≠ p := fun a ha e => by
    obtain ⟨o, e1, _⟩ := S1.isl q0.held.pr a ha
    rw [e, hp] at e1; cases e1
  refine ⟨q1.tr, q1.good, ⟨?_, List.nodup_cons.mpr ⟨fun z => np p z rfl, q1.held.nd⟩, fun a ha i z => ?_, fun a ha z => ?_⟩, fun a ha => ?_⟩
  · show Own K _ _ (k + 1) _ (.list ds) _
    unfold Own
    exact ⟨p, vs, F', rfl, upd_same, q1.held.pr, rfl⟩
  · rcases List.mem_cons.mp ha with rfl | ha
    · obtain ⟨o, e1, _⟩ := h.good.isl i a z
      rw [hp] at e1; cases e1
    · exact q1.held.nf a ha i z
  · rcases List.mem_cons.mp ha with rfl | ha
    · obtain ⟨o, e1⟩ := q0.good.zt a z
      rw [hp] at e1; cases e1
    · exact q1.held.nz a ha z
  · rcases List.mem_cons.mp ha with rfl | ha
    · exact .inl (h.tr.dom a hp)
    · exact q1.new a ha
theorem Post.newT (h : Post K P fv mv H Z Fs σ s' H1 Z1 Fs1 F) (S : Stb P) {p : Addr} {vs : List V} {ds : List PyData} {k : Nat} (hp : H1 p = none) (sb : F'.Sublist F)
    (own : ∀ Z2 : Zs, (∀ a, Zf Z1 Fs1 fv a → Z2 a) → (∀ a ∈ F, a ∉ F' → Z2 a) → OwnAll K Z2 H1 k vs ds F') : Post K (POne K (.ref p) (.tuple ds, k + 1)) fv mv H Z Fs σ s' (upd H1 p (.tup vs)) (Zp Z1 F F') Fs1 F' := by
  have q0 : Post K (fun Z H F => OwnAll K Z H k vs ds F) fv mv H Z Fs σ s' H1 (Zp Z1 F F') Fs1 F' := h.shared S sb (own _ (fun a z => z.imp (fun z => .inl z) id) fun a ha hn => .inl (.inr ⟨ha, hn⟩))
  have S1 : Stb (fun Z H F => OwnAll K Z H k vs ds F) := ⟨fun h k => OwnAll.keep _ h k, fun h m => OwnAll.zmono _ h m, fun h => OwnAll.isl _ h⟩
  have q1 := q0.newO S1 (o := .tup vs) hp
  refine q1.sub (List.Sublist.refl _) ?_
  show Own K _ _ (k + 1) _ (.tuple ds) _
  unfold Own
  exact ⟨p, vs, rfl, SqT.of upd_same, q1.held.pr⟩

/-- one thing, then more: both held -/
theorem Post.cons {H2 : Hp} {Z2 : Zs} {Fs2 : Fp} {s2 : SD} {fv2 mv2 : List Nat} {F2 : List Addr} {v : V} {vs : List V} {x : DV} {xs : List DV} (h : Post K (POne K v x) fv mv H Z Fs σ s' H1 Z1 Fs1 F) (h2 : Post K (PAll K vs xs) fv2 mv2 H1 Z1 Fs1 σ s2 H2 Z2 Fs2 F2)
    (d : ∀ i ∈ fv, i ∉ mv2) : Post K (PAll K (v :: vs) (x :: xs)) (fv ++ fv2) (mv ++ mv2) H Z Fs σ s2 H2 Z2 Fs2 (F ++ F2) := by
  have hx := h.held.on (stb_one K v x) h.good h2.tr d
  have dis : ∀ a ∈ F, a ∉ F2 := fun a ha ha2 => by
    rcases h2.new a ha2 with q | ⟨i, _, q⟩
    · obtain ⟨o, e, _⟩ := (stb_one K v x).isl h.held.pr a ha
      rw [q] at e; cases e
    · exact h.held.nf a ha i q
  refine ⟨h.tr.trans h2.tr (fun i hi => List.mem_append_left _ hi) (fun i hi => List.mem_append_right _ hi), h2.good, ⟨?_, List.nodup_append.mpr ⟨hx.nd, h2.held.nd, fun a ha b hb e => dis a ha (e ▸ hb)⟩, fun a ha => ?_, fun a ha => ?_⟩, fun a ha => ?_⟩
  · refine ⟨v, vs, F, F2, rfl, Own.zmono _ hx.pr fun a z => z.imp id fun ⟨i, hi, z⟩ => ⟨i, List.mem_append_left _ hi, z⟩, OwnL.zmono (fun a z => z.imp id fun ⟨i, hi, z⟩ => ⟨i, List.mem_append_right _ hi, z⟩) h2.held.pr, rfl⟩
  · rcases List.mem_append.mp ha with ha | ha
    · exact hx.nf a ha
    · exact h2.held.nf a ha
  · rcases List.mem_append.mp ha with ha | ha
    · exact hx.nz a ha
    · exact h2.held.nz a ha
  · rcases List.mem_append.mp ha with ha | ha
    · exact (h.new a ha).imp id fun ⟨i, hi, q⟩ => ⟨i, List.mem_append_left _ hi, q⟩
    · rcases h2.new a ha with q | ⟨i, hi, q⟩
      · exact .inl (h.tr.dom a q)
      · by_cases m : i ∈ mv
        · exact (h.tr.fb i m a q).imp id fun ⟨j, hj, q⟩ => ⟨j, List.mem_append_left _ hj, q⟩
        · rw [h.tr.fo i m] at q
          exact .inr ⟨i, List.mem_append_right _ hi, q⟩
theorem Post.start (g : Good K Z H σ s Fs) : Post K PNone [] [] H Z Fs σ s H Z Fs [] := ⟨Tr.refl _, g, ⟨rfl, List.nodup_nil, fun a ha => (by cases ha), fun a ha => (by cases ha)⟩, fun a ha => (by cases ha)⟩
theorem Post.nilA (g : Good K Z H σ s Fs) : Post K (PAll K [] []) [] [] H Z Fs σ s H Z Fs [] := (Post.start g).sub (List.nil_sublist _) ⟨rfl, rfl⟩
theorem Post.one {v : V} {x : DV} (h : Post K (POne K v x) fv mv H Z Fs σ s' H1 Z1 Fs1 F) : Post K (PAll K [v] [x]) fv mv H Z Fs σ s' H1 Z1 Fs1 F :=
  h.sub (List.Sublist.refl _) ⟨v, [], F, [], rfl, h.held.pr, ⟨rfl, rfl⟩, (List.append_nil _).symm⟩
theorem Post.fvmono {fv' : List Nat} (S : Stb P) (h : Post K P fv mv H Z Fs σ s' H1 Z1 Fs1 F) (m : ∀ i ∈ fv, i ∈ fv') : Post K P fv' mv H Z Fs σ s' H1 Z1 Fs1 F :=
  ⟨h.tr, h.good, ⟨S.zm h.held.pr fun a z => z.imp id fun ⟨i, hi, z⟩ => ⟨i, m i hi, z⟩, h.held.nd, h.held.nf, h.held.nz⟩, h.new⟩
end
end Sq
end

section
namespace Sq
open PySem PySem.Spec L2

/-! ### what expressions are worth -/
def ev2 (g : DV → DV → Res DV) (a b : Ex) : Ex := fun s => do
  let (x, s) ← a s
  let (y, s) ← b s
  let z ← g x y
  .ok (z, s)
def ev1 (g : DV → Res DV) (a : Ex) : Ex := fun s => do
  let (x, s) ← a s
  let z ← g x
  .ok (z, s)
def evN (g : List DV → Res DV) (a : Exs) : Ex := fun s => do
  let (xs, s) ← a s
  let z ← g xs
  .ok (z, s)
def small (n : Nat) : Bool := decide (n ≤ 1000000)
def gI (f : Int → Int → Int) (x y : DV) : Res DV := match x.1, y.1 with
  | .int i, .int j => .ok (.int (f i j), 0)
  | _, _ => .bad
def gB (f : Int → Int → Bool) (x y : DV) : Res DV := match x.1, y.1 with
  | .int i, .int j => .ok (.bool (f i j), 0)
  | _, _ => .bad
def gAdd (x y : DV) : Res DV := match x.1, y.1 with
  | .int i, .int j => .ok (.int (i + j), 0)
  | .str a, .str b => if small (a.length + b.length) then .ok (.str (a ++ b), 0) else .bad
  | .list as, .list bs => if small (as.length + bs.length) then .ok (.list (as ++ bs), min (depI x) (depI y) + 1) else .bad
  | _, _ => .bad
def lo64 (i : Int) : Bool := decide (-(2 ^ 64) < i) && decide (i < 2 ^ 64)
def gMul (x y : DV) : Res DV := match x.1, y.1 with
  | .int i, .int j => if lo64 i || lo64 j || decide (i.natAbs.log2 + j.natAbs.log2 < 1000000) then .ok (.int (i * j), 0) else .bad
  | .list as, .int k => if small (as.length * k.toNat) && decide (k < 1000000) && decide (-1000000 < k) && decide (hgt (.list as) ≤ 1) && decide (0 < x.2) then .ok (.list (List.replicate k.toNat as).flatten, 10) else .bad
  | _, _ => .bad
def gFdiv (x y : DV) : Res DV := match x.1, y.1 with
  | .int i, .int j => if decide (0 < j) && decide (j.natAbs.log2 < 9000) then .ok (.int (i / j), 0) else .bad
  | _, _ => .bad
def gMod (x y : DV) : Res DV := match x.1, y.1 with
  | .int i, .int j => if decide (0 < j) then .ok (.int (i % j), 0) else .bad
  | _, _ => .bad
def gPow (x y : DV) : Res DV := match x.1, y.1 with
  | .int i, .int j => if decide (0 ≤ j) && decide (j ≤ 1000) && lo64 i then .ok (.int (i ^ j.toNat), 0) else .bad
  | _, _ => .bad
def gEq (x y : DV) : Res DV := if SeqAt.shaped x.1 && SeqAt.shaped y.1 then .ok (.bool (PyData.eqv x.1 y.1), 0) else .bad
def gNe (x y : DV) : Res DV := if SeqAt.shaped x.1 && SeqAt.shaped y.1 then .ok (.bool (!PyData.eqv x.1 y.1), 0) else .bad
def gIn (x y : DV) : Res DV := match y.1 with
  | .list ds => if SeqAt.shaped x.1 && SeqAt.shaped y.1 then .ok (.bool (ds.any fun z => PyData.eqv z x.1), 0) else .bad
  | _ => .bad
def gNotIn (x y : DV) : Res DV := match y.1 with
  | .list ds => if SeqAt.shaped x.1 && SeqAt.shaped y.1 then .ok (.bool (!ds.any fun z => PyData.eqv z x.1), 0) else .bad
  | _ => .bad
def isNon : PyData → Bool
  | .none => true
  | _ => false
def gIsN (x : DV) : Res DV := .ok (.bool (isNon x.1), 0)
def gNotN (x : DV) : Res DV := .ok (.bool (!isNon x.1), 0)
def gNeg (x : DV) : Res DV := match x.1 with
  | .int i => .ok (.int (-i), 0)
  | _ => .bad
def gNot (x : DV) : Res DV := match x.1 with
  | .bool b => .ok (.bool (!b), 0)
  | _ => .bad
def gIx (x y : DV) : Res DV := match x.1, y.1 with
  | .list ds, .int i => match atI ds i with
    | some d => .ok (d, x.2 - 1)
    | none => .bad
  | .tuple ds, .int i => match atI ds i with
    | some d => .ok (d, x.2 - 1)
    | none => .bad
  | .str z, .int i => match atI z.cps.toList i with
    | some c => if small z.length then .ok (.str ⟨#[c]⟩, 0) else .bad
    | none => .bad
  | _, _ => .bad
def gLen (xs : List DV) : Res DV := match xs with
  | [x] => match x.1 with
    | .list ds => .ok (.int ds.length, 0)
    | .tuple ds => .ok (.int ds.length, 0)
    | .str z => if small z.length then .ok (.int z.length, 0) else .bad
    | _ => .bad
  | _ => .bad
def gAbs (xs : List DV) : Res DV := match xs with
  | [x] => match x.1 with
    | .int i => .ok (.int (if i < 0 then -i else i), 0)
    | _ => .bad
  | _ => .bad
def gInt (xs : List DV) : Res DV := match xs with
  | [x] => match x.1 with
    | .int i => .ok (.int i, 0)
    | .bool b => .ok (.int (if b then 1 else 0), 0)
    | _ => .bad
  | _ => .bad
def gList (xs : List DV) : Res DV := if small xs.length then .ok (.list (xs.map (·.1)), minAll (xs.map dep) + 1) else .bad
def gTup (xs : List DV) : Res DV := if small xs.length then .ok (.tuple (xs.map (·.1)), minAll (xs.map dep) + 1) else .bad
def evAnd (a b : Ex) : Ex := fun s => do
  let (x, s) ← a s
  match x.1 with
  | .bool true => b s
  | .bool false => .ok ((.bool false, 0), s)
  | _ => .bad
def evOr (a b : Ex) : Ex := fun s => do
  let (x, s) ← a s
  match x.1 with
  | .bool true => .ok ((.bool true, 0), s)
  | .bool false => b s
  | _ => .bad
def tst (a : Ex) : Tst := fun s => do
  let (x, s) ← a s
  match x.1 with
  | .bool b => .ok (b, s)
  | _ => .bad
def tAnd2 (a b : Tst) : Tst := fun s => do
  let (x, s) ← a s
  if x then b s else .ok (false, s)
def tOr2 (a b : Tst) : Tst := fun s => do
  let (x, s) ← a s
  if x then .ok (true, s) else b s
def tNot2 (a : Tst) : Tst := fun s => do
  let (x, s) ← a s
  .ok (!x, s)
abbrev Opt := SD → Res (Option Int × SD)
def oNone : Opt := fun s => .ok (none, s)
def oSome (a : Ex) : Opt := fun s => do
  let (x, s) ← a s
  match x.1 with
  | .int i => .ok (some i, s)
  | _ => .bad
def cutD {α : Type} (xs : List α) (lo hi : Option Int) : List α := (xs.drop (HT.sIx xs.length 0 lo)).take (HT.sIx xs.length xs.length hi - HT.sIx xs.length 0 lo)
def evSl (a : Ex) (lo hi : Opt) : Ex := fun s => do
  let (x, s) ← a s
  let (l, s) ← lo s
  let (h, s) ← hi s
  match x.1 with
  | .list ds => .ok ((.list (cutD ds l h), depI x + 1), s)
  | _ => .bad

/-! ### rules -/
def djn (a b : List Nat) : Bool := a.all fun i => !b.contains i
theorem djn_ok {a b : List Nat} (h : djn a b = true) : ∀ i ∈ a, i ∉ b := fun i hi hb => by
  unfold djn at h
  rw [List.all_eq_true] at h
  have q := h i hi
  simp at q
  exact q hb
section
variable {K : PySem.W.Frag} {Z Z1 : Zs} {H H1 : Hp} {Fs Fs1 : Fp} {σ : L2.St} {s s' s1 s2 : SD} {F : List Addr} {fv mv fva mva fvb mvb : List Nat} {fa fb : Ex} {x y : DV}

theorem two {R : V → V → Hp → Prop} (g : Good K Z H σ s Fs) (ea : fa s = .ok (x, s1)) (eb : fb s1 = .ok (y, s2)) (d : djn fva mvb = true)
    (k : ∀ v w H' Z' Fs' F, Post K (PAll K [v, w] [x, y]) (fva ++ fvb) (mva ++ mvb) H Z Fs σ s2 H' Z' Fs' F → R v w H') : tE K fva mva fa σ H (fun v H1 => tE K fvb mvb fb σ H1 (fun w H2 => R v w H2)) :=
  ⟨Z, s, Fs, x, s1, g, ea, fun v H1 Z1 Fs1 F1 p1 => ⟨Z1, s1, Fs1, y, s2, p1.good, eb, fun w H2 Z2 Fs2 F2 p2 => k v w H2 Z2 Fs2 (F1 ++ F2) (p1.cons p2.one (djn_ok d))⟩⟩
/-- a rule by values serves g -/
def OpOk (K : PySem.W.Frag) (r : R2) (g : DV → DV → Res DV) : Prop := ∀ {fv mv : List Nat} {H : Hp} {Z : Zs} {Fs : Fp} {σ : L2.St} {s' : SD} {H1 : Hp} {Z1 : Zs} {Fs1 : Fp} {F : List Addr} {v w : V} {x y z : DV} {Q : VK},
  g x y = .ok z → Post K (PAll K [v, w] [x, y]) fv mv H Z Fs σ s' H1 Z1 Fs1 F → (∀ u H2 Z2 F2, Post K (POne K u z) fv mv H Z Fs σ s' H2 Z2 Fs1 F2 → Q u H2) → r v w H1 Q
def UnOk (K : PySem.W.Frag) (r : V → Hp → VK → Prop) (g : DV → Res DV) : Prop := ∀ {fv mv : List Nat} {H : Hp} {Z : Zs} {Fs : Fp} {σ : L2.St} {s' : SD} {H1 : Hp} {Z1 : Zs} {Fs1 : Fp} {F : List Addr} {v : V} {x z : DV} {Q : VK},
  g x = .ok z → Post K (POne K v x) fv mv H Z Fs σ s' H1 Z1 Fs1 F → (∀ u H2 Z2 F2, Post K (POne K u z) fv mv H Z Fs σ s' H2 Z2 Fs1 F2 → Q u H2) → r v H1 Q
def CallOk (K : PySem.W.Frag) (r : List V → Hp → VK → Prop) (g : List DV → Res DV) : Prop := ∀ {fv mv : List Nat} {H : Hp} {Z : Zs} {Fs : Fp} {σ : L2.St} {s' : SD} {H1 : Hp} {Z1 : Zs} {Fs1 : Fp} {F : List Addr} {vs : List V} {xs : List DV} {z : DV} {Q : VK},
  g xs = .ok z → Post K (PAll K vs xs) fv mv H Z Fs σ s' H1 Z1 Fs1 F → (∀ u H2 Z2 F2, Post K (POne K u z) fv mv H Z Fs σ s' H2 Z2 Fs1 F2 → Q u H2) → r vs H1 Q
theorem imp2 {r : R2} {g : DV → DV → Res DV} (hg : OpOk K r g) (d : djn fva mvb = true) {Q : VK} (h : tE K (fva ++ fvb) (mva ++ mvb) (ev2 g fa fb) σ H Q) : tOp r (tE K fva mva fa) (tE K fvb mvb fb) σ H Q := by
  obtain ⟨Z, s, Fs, z, s', gd, e, q⟩ := h
  unfold ev2 at e
  obtain ⟨⟨x, s1⟩, ea, e⟩ := Res.bind_eq_ok.mp e
  obtain ⟨⟨y, s2⟩, eb, e⟩ := Res.bind_eq_ok.mp e
  obtain ⟨z', eg, e⟩ := Res.bind_eq_ok.mp e
  cases e
  exact two gd ea eb d fun v w H1 Z1 Fs1 F p => hg eg p fun u H2 Z2 F2 p2 => q u H2 Z2 Fs1 F2 p2
theorem imp1 {r : V → Hp → VK → Prop} {g : DV → Res DV} (hg : UnOk K r g) {Q : VK} (h : tE K fva mva (ev1 g fa) σ H Q) : tUn r (tE K fva mva fa) σ H Q := by
  obtain ⟨Z, s, Fs, z, s', gd, e, q⟩ := h
  unfold ev1 at e
  obtain ⟨⟨x, s1⟩, ea, e⟩ := Res.bind_eq_ok.mp e
  obtain ⟨z', eg, e⟩ := Res.bind_eq_ok.mp e
  cases e
  exact ⟨Z, s, Fs, x, _, gd, ea, fun v H1 Z1 Fs1 F p => hg eg p fun u H2 Z2 F2 p2 => q u H2 Z2 Fs1 F2 p2⟩
theorem impN {r : List V → Hp → VK → Prop} {g : List DV → Res DV} {fs : Exs} {io : List (Nat × Nat)} (hg : CallOk K r g) {Q : VK} (h : tE K fva mva (evN g fs) σ H Q) : tCB r (tA K fva mva io fs) σ H Q := by
  obtain ⟨Z, s, Fs, z, s', gd, e, q⟩ := h
  unfold evN at e
  obtain ⟨⟨x, s1⟩, ea, e⟩ := Res.bind_eq_ok.mp e
  obtain ⟨z', eg, e⟩ := Res.bind_eq_ok.mp e
  cases e
  exact ⟨Z, s, Fs, x, _, gd, ea, fun v H1 Z1 Fs1 F p _ => hg eg p fun u H2 Z2 F2 p2 => q u H2 Z2 Fs1 F2 p2⟩
theorem Good.slotAt (g : Good K Z H σ s Fs) {i : Nat} (e : slot s i = .ok x) : s[i]? = some (some x) ∧ ∃ v, σ[i]? = some (some v) ∧ Own K Z H x.2 v x.1 (Fs i) := by
  unfold slot at e
  split at e
  · next y q =>
    cases e
    exact ⟨q, g.own i x.1 x.2 q⟩
  · cases e
end
section
variable {X : Cx} {e a b : Expr} {es : List Expr} {pos : Pos} {fv mv fva mva fvb mvb : List Nat} {f fa fb : Ex}
theorem re_var {i : Nat} {x : Str} (hN : X.N[i]? = some x) (hv : Vis X.env.scope x) (hd : (x == ("__debug__" : Str)) = false := by decide) (hcd : (x == ("__classdict__" : Str)) = false := by decide) : PE X (.Name x pos) (tE X.K [i] [] (eVar i)) := by
  refine PE.of (pe_var hN hv hd hcd) fun σ H Q h => ?_
  obtain ⟨Z, s, Fs, x, s', gd, e, q⟩ := h
  unfold eVar at e
  obtain ⟨y, ey, e⟩ := Res.bind_eq_ok.mp e
  cases e
  obtain ⟨_, v, ev, ow⟩ := gd.slotAt ey
  refine ⟨v, ev, q v H Z Fs [] ⟨Tr.refl _, gd, ⟨?_, List.nodup_nil, fun a ha => (by cases ha), fun a ha => (by cases ha)⟩, fun a ha => (by cases ha)⟩⟩
  exact Own.zmono _ (ow.share (gd.nd i)) fun a z => z.imp id fun z => ⟨i, List.mem_singleton.mpr rfl, z⟩
theorem re_c {d : PyData} {v : V} (h : PE X e (tC v)) (hd : ∀ Z H, Own X.K Z H 0 v d []) : PE X e (tE X.K [] [] (eC d)) := by
  refine PE.of h fun σ H Q h => ?_
  obtain ⟨Z, s, Fs, x, s', gd, e, q⟩ := h
  cases e
  exact q v H Z Fs [] ((Post.start gd).sub (List.nil_sublist _) (hd _ _))
theorem re_int {i j pos} : PE X (.Constant (.int i) j pos) (tE X.K [] [] (eC (.int i))) := re_c pe_int fun _ _ => by unfold Own; exact ⟨rfl, rfl⟩
theorem re_bl {i j pos} : PE X (.Constant (.bool i) j pos) (tE X.K [] [] (eC (.bool i))) := re_c pe_bl fun _ _ => by unfold Own; exact ⟨rfl, rfl⟩
theorem re_non {j pos} : PE X (.Constant .none j pos) (tE X.K [] [] (eC .none)) := re_c pe_non fun _ _ => by unfold Own; exact ⟨rfl, rfl⟩
theorem re_str {i j pos} : PE X (.Constant (.str i) j pos) (tE X.K [] [] (eC (.str i))) := re_c pe_str fun _ _ => by unfold Own; exact ⟨rfl, rfl⟩
theorem ra_nil : PA X [] (tA X.K [] [] [] eNil) := by
  refine PA.of pa_nil fun σ H Q h => ?_
  obtain ⟨Z, s, Fs, x, s', gd, e, q⟩ := h
  cases e
  exact q [] H Z Fs [] (Post.nilA gd) fun p hp => (by cases hp)
def ioUp (io : List (Nat × Nat)) : List (Nat × Nat) := io.map fun p => (p.1 + 1, p.2)
theorem IoOk.up {io : List (Nat × Nat)} {σ : L2.St} {v : V} {vs : List V} (h : IoOk io σ vs) : IoOk (ioUp io) σ (v :: vs) := fun p hp => by
  obtain ⟨q, hq, rfl⟩ := List.mem_map.mp hp
  obtain ⟨w, e1, e2⟩ := h q hq
  exact ⟨w, by simpa using e1, e2⟩
theorem ra_cons {fs : Exs} {io : List (Nat × Nat)} (ha : PE X e (tE X.K fva mva fa)) (hr : PA X es (tA X.K fvb mvb io fs)) (d : djn fva mvb = true := by rfl) (hs : starEach (e :: es) X.env = (false, eval e X.env) :: starEach es X.env := by rfl) : PA X (e :: es) (tA X.K (fva ++ fvb) (mva ++ mvb) (ioUp io) (eCons fa fs)) := by
  refine PA.of (pa_cons ha hr hs) fun σ H Q h => ?_
  obtain ⟨Z, s, Fs, z, s', gd, e, q⟩ := h
  unfold eCons at e
  obtain ⟨⟨x, s1⟩, ea, e⟩ := Res.bind_eq_ok.mp e
  obtain ⟨⟨xs, s2⟩, eb, e⟩ := Res.bind_eq_ok.mp e
  cases e
  exact ⟨Z, s, Fs, x, s1, gd, ea, fun v H1 Z1 Fs1 F1 p1 => ⟨Z1, s1, Fs1, xs, _, p1.good, eb, fun vs H2 Z2 Fs2 F2 p2 io => q (v :: vs) H2 Z2 Fs2 (F1 ++ F2) (p1.cons p2 (djn_ok d)) io.up⟩⟩
/-- a slot's thing taken out of it -/
theorem Good.take {K : PySem.W.Frag} {Z : Zs} {H : Hp} {σ : L2.St} {s : SD} {Fs : Fp} {x : DV} (gd : Good K Z H σ s Fs) {i : Nat} {v : V} (ev : σ[i]? = some (some v)) (ow : Own K Z H x.2 v x.1 (Fs i)) : Post K (POne K v x) [] [i] H Z Fs σ (s.set i none) H Z (fun j => if j = i then [] else Fs j) (Fs i) where
  tr := ⟨fun _ _ e _ => e, fun _ e => e, fun _ z => z, fun _ z => .inl z, fun j hj => by rw [if_neg (by simpa using hj)], fun j hj a ha => by
    rw [if_pos (by simpa using hj)] at ha
    cases ha⟩
  good := ⟨by rw [List.length_set]; exact gd.len, fun j d k e => by
      by_cases q : j = i
      · subst q
        by_cases l : j < s.length
        · rw [List.getElem?_set_self l] at e; cases e
        · rw [List.getElem?_eq_none (by simpa using l)] at e; cases e
      · rw [List.getElem?_set_ne (Ne.symm q)] at e
        rw [if_neg q]
        exact gd.own j d k e, fun j => by
      by_cases q : j = i
      · rw [if_pos q]; exact List.nodup_nil
      · rw [if_neg q]; exact gd.nd j, fun j l n a ha z => by
      by_cases q : j = i
      · rw [if_pos q] at ha; cases ha
      · rw [if_neg q] at ha
        by_cases q2 : l = i
        · rw [if_pos q2] at z; cases z
        · rw [if_neg q2] at z
          exact gd.dj j l n a ha z, fun j a ha => by
      by_cases q : j = i
      · rw [if_pos q] at ha; cases ha
      · rw [if_neg q] at ha; exact gd.nz j a ha, fun j a ha => by
      by_cases q : j = i
      · rw [if_pos q] at ha; cases ha
      · rw [if_neg q] at ha; exact gd.isl j a ha, gd.zt⟩
  held := ⟨Own.zmono _ ow fun a z => .inl z, gd.nd i, fun a ha j z => by
      by_cases q : j = i
      · rw [if_pos q] at z; cases z
      · rw [if_neg q] at z; exact gd.dj i j (Ne.symm q) a ha z, fun a ha => gd.nz i a ha⟩
  new := fun a ha => .inr ⟨i, List.mem_singleton.mpr rfl, ha⟩
theorem re_move {i : Nat} {x : Str} (hN : X.N[i]? = some x) (hv : Vis X.env.scope x) (hd : (x == ("__debug__" : Str)) = false := by decide) (hcd : (x == ("__classdict__" : Str)) = false := by decide) : PE X (.Name x pos) (tE X.K [] [i] (eMove i)) := by
  refine PE.of (pe_var hN hv hd hcd) fun σ H Q h => ?_
  obtain ⟨Z, s, Fs, x, s', gd, e, q⟩ := h
  unfold eMove at e
  obtain ⟨y, ey, e⟩ := Res.bind_eq_ok.mp e
  cases e
  obtain ⟨_, v, ev, ow⟩ := gd.slotAt ey
  exact ⟨v, ev, q v H Z _ _ (gd.take ev ow)⟩
/-- a slot's own thing as an argument, to be given back -/
theorem ra_io {i : Nat} {x : Str} {fs : Exs} {io : List (Nat × Nat)} (hN : X.N[i]? = some x) (hv : Vis X.env.scope x) (hr : PA X es (tA X.K fvb mvb io fs)) (hs : starEach (.Name x pos :: es) X.env = (false, eval (.Name x pos) X.env) :: starEach es X.env := by rfl) (hd : (x == ("__debug__" : Str)) = false := by decide) (hcd : (x == ("__classdict__" : Str)) = false := by decide) : PA X (.Name x pos :: es) (tA X.K fvb (i :: mvb) ((0, i) :: ioUp io) (eCons (eMove i) fs)) := by
  refine PA.of (pa_cons (pe_var hN hv hd hcd) hr hs) fun σ H Q h => ?_
  obtain ⟨Z, s, Fs, z, s', gd, e, q⟩ := h
  unfold eCons at e
  obtain ⟨⟨x, s1⟩, ea, e⟩ := Res.bind_eq_ok.mp e
  obtain ⟨⟨xs, s2⟩, eb, e⟩ := Res.bind_eq_ok.mp e
  cases e
  unfold eMove at ea
  obtain ⟨y, ey, ea⟩ := Res.bind_eq_ok.mp ea
  cases ea
  obtain ⟨_, v, ev, ow⟩ := gd.slotAt ey
  have p1 := gd.take ev ow
  refine ⟨v, ev, _, _, _, xs, _, p1.good, eb, fun vs H2 Z2 Fs2 F2 p2 io => q (v :: vs) H2 Z2 Fs2 _ (p1.cons p2 fun i hi => (by cases hi)) fun p hp => ?_⟩
  rcases List.mem_cons.mp hp with rfl | hp
  · exact ⟨v, rfl, ev⟩
  · exact io.up p hp
theorem re_op {op : Operator} {r : R2} {g : DV → DV → Res DV} (ho : OpR X (binaryOp op) r) (hg : OpOk X.K r g) (ha : PE X a (tE X.K fva mva fa)) (hb : PE X b (tE X.K fvb mvb fb)) (d : djn fva mvb = true := by rfl) : PE X (.BinOp a op b pos) (tE X.K (fva ++ fvb) (mva ++ mvb) (ev2 g fa fb)) :=
  PE.of (pe_op ho ha hb) fun σ H Q h => imp2 hg d h
theorem re_cmp {op : CmpOp} {r : R2} {g : DV → DV → Res DV} (ho : OpR X (compareOp op) r) (hg : OpOk X.K r g) (ha : PE X a (tE X.K fva mva fa)) (hb : PE X b (tE X.K fvb mvb fb)) (d : djn fva mvb = true := by rfl) (hm : behindInMarks op b = false := by rfl) : PE X (.Compare a [op] [b] pos) (tE X.K (fva ++ fvb) (mva ++ mvb) (ev2 g fa fb)) :=
  PE.of (pe_cmpR ho ha hb hm) fun σ H Q h => imp2 hg d h
theorem re_un {op : UnaryOp} {r : V → Hp → VK → Prop} {g : DV → Res DV} (ho : UnR X (unaryOp op) r) (hg : UnOk X.K r g) (ha : PE X a (tE X.K fva mva fa)) : PE X (.UnaryOp op a pos) (tE X.K fva mva (ev1 g fa)) :=
  PE.of (pe_un ho ha) fun σ H Q h => imp1 hg h
end
end Sq
end

section
namespace Sq
open PySem PySem.Spec L2
section
variable {K : PySem.W.Frag} {Z Z1 : Zs} {H H1 : Hp} {Fs Fs1 : Fp} {σ : L2.St} {s s' s1 s2 : SD} {F : List Addr} {fv mv : List Nat} {x y z : DV} {k : Nat} {v w : V}

theorem own_int {i : Int} (h : Own K Z H k v (.int i) F) : v = .int i := by unfold Own at h; exact h.1
theorem own_str {i : Str} (h : Own K Z H k v (.str i) F) : v = .str i := by unfold Own at h; exact h.1
theorem own_bl {i : Bool} (h : Own K Z H k v (.bool i) F) : v = .bl i := by unfold Own at h; exact h.1
theorem int_own {i : Int} : Own K Z H k (.int i) (.int i) [] := by unfold Own; exact ⟨rfl, rfl⟩
theorem str_own {i : Str} : Own K Z H k (.str i) (.str i) [] := by unfold Own; exact ⟨rfl, rfl⟩
theorem bl_own {i : Bool} : Own K Z H k (.bl i) (.bool i) [] := by unfold Own; exact ⟨rfl, rfl⟩
theorem non_own : Own K Z H k .non .none [] := by unfold Own; exact ⟨rfl, rfl⟩
theorem two_own (h : OwnL K Z H [v, w] [x, y] F) : ∃ F1 F2, Own K Z H x.2 v x.1 F1 ∧ Own K Z H y.2 w y.1 F2 ∧ F = F1 ++ F2 := by
  obtain ⟨v', vs', F1, F2, e, h1, h2, rfl⟩ := h
  obtain ⟨w', ws', G1, G2, e', h3, h4, rfl⟩ := h2
  cases e
  cases e'
  obtain ⟨_, rfl⟩ := h4
  exact ⟨F1, G1, h1, h3, by rw [List.append_nil]⟩
theorem one_own {vs : List V} (h : OwnL K Z H vs [x] F) : ∃ v, vs = [v] ∧ Own K Z H x.2 v x.1 F := by
  obtain ⟨v', vs', F1, F2, e, h1, h2, rfl⟩ := h
  obtain ⟨rfl, rfl⟩ := h2
  exact ⟨v', e, by rw [List.append_nil]; exact h1⟩

theorem ok_gI {C : Int → Int → Prop} {f : Int → Int → Int} {g : DV → DV → Res DV} (hg : ∀ x y z, g x y = .ok z → ∃ i j, x.1 = .int i ∧ y.1 = .int j ∧ C i j ∧ z = (.int (f i j), 0)) : OpOk K (rI C fun i j => .int (f i j)) g := by
  intro fv mv H Z Fs σ s' H1 Z1 Fs1 F v w x y z Q e p q
  obtain ⟨i, j, ex, ey, c, rfl⟩ := hg x y z e
  obtain ⟨F1, F2, h1, h2, _⟩ := two_own p.held.pr
  rw [ex] at h1
  rw [ey] at h2
  exact ⟨i, j, own_int h1, own_int h2, c, q _ _ _ _ (p.sc int_own)⟩
theorem ok_gI0 {f : Int → Int → Int} : OpOk K (rI0 fun i j => .int (f i j)) (gI f) := by
  intro fv mv H Z Fs σ s' H1 Z1 Fs1 F v w x y z Q e p q
  unfold gI at e
  split at e
  · next i j ex ey =>
    cases e
    obtain ⟨F1, F2, h1, h2, _⟩ := two_own p.held.pr
    rw [ex] at h1
    rw [ey] at h2
    exact ⟨i, j, own_int h1, own_int h2, q _ _ _ _ (p.sc int_own)⟩
  · cases e
theorem ok_gB0 {f : Int → Int → Bool} : OpOk K (rI0 fun i j => .bl (f i j)) (gB f) := by
  intro fv mv H Z Fs σ s' H1 Z1 Fs1 F v w x y z Q e p q
  unfold gB at e
  split at e
  · next i j ex ey =>
    cases e
    obtain ⟨F1, F2, h1, h2, _⟩ := two_own p.held.pr
    rw [ex] at h1
    rw [ey] at h2
    exact ⟨i, j, own_int h1, own_int h2, q _ _ _ _ (p.sc bl_own)⟩
  · cases e
theorem ok_mod : OpOk K (rI (fun _ j => 0 < j) fun i j => .int (i % j)) gMod := ok_gI fun x y z e => by
  unfold gMod at e
  split at e
  · next i j ex ey =>
    split at e
    · next c => cases e; exact ⟨i, j, ex, ey, of_decide_eq_true c, rfl⟩
    · cases e
  · cases e
theorem ok_fdiv : OpOk K (rI CDivW fun i j => .int (i / j)) gFdiv := ok_gI fun x y z e => by
  unfold gFdiv at e
  split at e
  · next i j ex ey =>
    split at e
    · next c =>
      cases e
      rw [Bool.and_eq_true] at c
      exact ⟨i, j, ex, ey, ⟨of_decide_eq_true c.1, of_decide_eq_true c.2⟩, rfl⟩
    · cases e
  · cases e
theorem lo64_ok {i : Int} (h : lo64 i = true) : -(2 ^ 64) < i ∧ i < 2 ^ 64 := by
  unfold lo64 at h
  rw [Bool.and_eq_true] at h
  exact ⟨of_decide_eq_true h.1, of_decide_eq_true h.2⟩
theorem ok_pow : OpOk K (rI CPow fun i j => .int (i ^ j.toNat)) gPow := ok_gI fun x y z e => by
  unfold gPow at e
  split at e
  · next i j ex ey =>
    split at e
    · next c =>
      cases e
      rw [Bool.and_eq_true, Bool.and_eq_true] at c
      obtain ⟨⟨c1, c2⟩, c3⟩ := c
      have c1 := of_decide_eq_true c1
      have c2 := of_decide_eq_true c2
      have c3 := lo64_ok c3
      exact ⟨i, j, ex, ey, ⟨c1, by omega, by omega⟩, rfl⟩
    · cases e
  · cases e
theorem small_ok {n : Nat} (h : small n = true) : n ≤ sizeLine := by
  unfold small at h
  have := of_decide_eq_true h
  have e : sizeLine = 16777216 := by decide
  omega
theorem OwnAll.app : ∀ {as bs : List PyData} {vs ws : List V} {F1 F2 : List Addr}, OwnAll K Z H k vs as F1 → OwnAll K Z H k ws bs F2 → OwnAll K Z H k (vs ++ ws) (as ++ bs) (F1 ++ F2)
  | [], bs, vs, ws, F1, F2, h, h2 => by
    unfold OwnAll at h
    obtain ⟨rfl, rfl⟩ := h
    exact h2
  | a :: as, bs, vs, ws, F1, F2, h, h2 => by
    unfold OwnAll at h
    obtain ⟨v, vs', G1, G2, rfl, h3, h4, rfl⟩ := h
    rw [List.cons_append, List.cons_append, List.append_assoc]
    unfold OwnAll
    exact ⟨v, vs' ++ ws, G1, G2 ++ F2, rfl, h3, OwnAll.app h4 h2, rfl⟩
theorem depI_ok {ds : List PyData} {k m : Nat} (h : m ≤ depI (.list ds, k)) : hgtAll ds ≤ k - 1 ∨ m ≤ k - 1 := by
  unfold depI at h
  split at h
  · next c =>
    rw [Bool.or_eq_true] at c
    rcases c with c | c
    · have := full_iff.mp c
      have e : hgt (PyData.list ds) = hgtAll ds + 1 := by rw [hgt]
      simp only [e] at this
      exact .inl (by omega)
    · have := of_decide_eq_true c
      have e : hgt (PyData.list ds) = hgtAll ds + 1 := by rw [hgt]
      rw [e] at this
      exact .inl (by omega)
  · exact .inr h
/-- list + list by what may be read -/
def rCatR : R2 := fun x y H Q => ∃ l b xs zs, x = .ref l ∧ y = .ref b ∧ Rd H l (.lst xs) ∧ Rd H b (.lst zs) ∧ xs.length + zs.length ≤ sizeLine ∧ ∀ p, H p = none → Q (.ref p) (upd H p (.lst (xs ++ zs)))
theorem Inv.lstR {X : Cx} {pins : List (Addr × Obj)} {sh : Shared} {l : Addr} {xs : List V} (I : Inv X pins σ H sh) (hH : Rd H l (.lst xs)) : xs.length ≤ sizeLine ∧ ∃ (its : List Value) (n : Nat), Vals xs its ∧ xs.length = its.length ∧ sh.heap.get? l = some { cls := .type "list", data := .seq its.toArray n } := by
  obtain ⟨z, its, n, r, e⟩ := hH.ok I.hok
  exact ⟨z, its, n, r, r.length, e⟩
theorem op_catR {X : Cx} : OpR X (binaryOp .Add) rCatR := by
  intro pins s σ H x y v u Q I rx ry h
  obtain ⟨l, b, xs, zs, rfl, rfl, hH, hB, hz, q⟩ := h
  cases rx
  cases ry
  obtain ⟨z, its, n, r, hl, e⟩ := Inv.lstR I hH
  obtain ⟨z2, its2, n2, r2, hl2, e2⟩ := Inv.lstR I hB
  refine PySem.P.add_list e e2 ?_ (by rw [List.size_toArray, List.size_toArray]; omega)
  have ea : its.toArray ++ its2.toArray = (its ++ its2).toArray := by simp
  rw [ea]
  exact ⟨.ref _, _, I.lnew (t' := s.toks) (r.append r2) (by rw [List.length_append]; omega), rfl, q _ I.fresh⟩
abbrev rAddX : R2 := fun x y H Q => (rI0 (fun i j => .int (i + j)) x y H Q ∨ (∃ i j, x = .str i ∧ y = .str j ∧ i.length + j.length ≤ sizeLine ∧ Q (.str (i ++ j)) H)) ∨ rCatR x y H Q
theorem op_addX {X : Cx} : OpR X (binaryOp .Add) rAddX := OpR.or (OpR.or op_add op_add_str) op_catR
theorem ok_add : OpOk K rAddX gAdd := by
  intro fv mv H Z Fs σ s' H1 Z1 Fs1 F v w x y z Q e p q
  obtain ⟨F1, F2, h1, h2, eF⟩ := two_own p.held.pr
  unfold gAdd at e
  split at e
  · next i j ex ey =>
    cases e
    rw [ex] at h1
    rw [ey] at h2
    exact .inl (.inl ⟨i, j, own_int h1, own_int h2, q _ _ _ _ (p.sc int_own)⟩)
  · next i j ex ey =>
    split at e
    · next c =>
      cases e
      rw [ex] at h1
      rw [ey] at h2
      exact .inl (.inr ⟨i, j, own_str h1, own_str h2, small_ok c, q _ _ _ _ (p.sc str_own)⟩)
    · cases e
  · next as bs ex ey =>
    split at e
    · next c =>
      cases e
      obtain ⟨xd, xk⟩ := x
      obtain ⟨yd, yk⟩ := y
      simp only at ex ey h1 h2
      subst ex ey
      obtain ⟨l, vs, G1, rfl, r1, o1, sb1⟩ := h1.sub
      obtain ⟨l2, ws, G2, rfl, r2, o2, sb2⟩ := h2.sub
      have nd : (F1 ++ F2).Nodup := eF ▸ p.held.nd
      obtain ⟨n1, n2, n3⟩ := List.nodup_append.mp nd
      obtain ⟨E1, t1, q1⟩ := OwnAll.to (m := min (depI (PyData.list as, xk)) (depI (PyData.list bs, yk))) o1 (n1.sublist sb1) (depI_ok (Nat.min_le_left _ _))
      obtain ⟨E2, t2, q2⟩ := OwnAll.to (m := min (depI (PyData.list as, xk)) (depI (PyData.list bs, yk))) o2 (n2.sublist sb2) (depI_ok (Nat.min_le_right _ _))
      have la := OwnAll.len _ o1
      have lb := OwnAll.len _ o2
      refine .inr ⟨l, l2, vs, ws, rfl, rfl, r1, r2, by rw [la, lb]; exact small_ok c, fun pn hp => q _ _ _ _ (p.newL (stb_all K _ _) (F' := E1 ++ E2) hp (by rw [eF]; exact (t1.trans sb1).append (t2.trans sb2)) fun Z2 mz m2 => ?_)⟩
      refine OwnAll.app (q1 Z2 mz fun a ha hn => m2 a (by rw [eF]; exact List.mem_append_left _ (sb1.subset ha)) fun z => ?_) (q2 Z2 mz fun a ha hn => m2 a (by rw [eF]; exact List.mem_append_right _ (sb2.subset ha)) fun z => ?_)
      · rcases List.mem_append.mp z with z | z
        · exact hn z
        · exact n3 a (sb1.subset ha) a (sb2.subset (t2.subset z)) rfl
      · rcases List.mem_append.mp z with z | z
        · exact n3 a (sb1.subset (t1.subset z)) a (sb2.subset ha) rfl
        · exact hn z
    · cases e
  · cases e
theorem ok_eq : OpOk K (rEqD K) gEq := by
  intro fv mv H Z Fs σ s' H1 Z1 Fs1 F v w x y z Q e p q
  obtain ⟨F1, F2, h1, h2, eF⟩ := two_own p.held.pr
  unfold gEq at e
  split at e
  · next c =>
    cases e
    rw [Bool.and_eq_true] at c
    exact ⟨x.1, y.1, Own.dp _ h1 (ndc_shaped c.1), Own.dp _ h2 (ndc_shaped c.2), c.1, c.2, q _ _ _ _ (p.sc bl_own)⟩
  · cases e
theorem ok_ne : OpOk K (rNeD K) gNe := by
  intro fv mv H Z Fs σ s' H1 Z1 Fs1 F v w x y z Q e p q
  obtain ⟨F1, F2, h1, h2, eF⟩ := two_own p.held.pr
  unfold gNe at e
  split at e
  · next c =>
    cases e
    rw [Bool.and_eq_true] at c
    exact ⟨x.1, y.1, Own.dp _ h1 (ndc_shaped c.1), Own.dp _ h2 (ndc_shaped c.2), c.1, c.2, q _ _ _ _ (p.sc bl_own)⟩
  · cases e
theorem ok_in : OpOk K (rInD K) gIn := by
  intro fv mv H Z Fs σ s' H1 Z1 Fs1 F v w x y z Q e p q
  obtain ⟨F1, F2, h1, h2, eF⟩ := two_own p.held.pr
  unfold gIn at e
  split at e
  · next ds ey =>
    split at e
    · next c =>
      cases e
      rw [Bool.and_eq_true] at c
      rw [ey] at h2 c
      exact ⟨x.1, ds, Own.dp _ h1 (ndc_shaped c.1), Own.dp _ h2 (ndc_shaped c.2), c.1, c.2, q _ _ _ _ (p.sc bl_own)⟩
    · cases e
  · cases e
theorem ok_notIn : OpOk K (rNotInD K) gNotIn := by
  intro fv mv H Z Fs σ s' H1 Z1 Fs1 F v w x y z Q e p q
  obtain ⟨F1, F2, h1, h2, eF⟩ := two_own p.held.pr
  unfold gNotIn at e
  split at e
  · next ds ey =>
    split at e
    · next c =>
      cases e
      rw [Bool.and_eq_true] at c
      rw [ey] at h2 c
      exact ⟨x.1, ds, Own.dp _ h1 (ndc_shaped c.1), Own.dp _ h2 (ndc_shaped c.2), c.1, c.2, q _ _ _ _ (p.sc bl_own)⟩
    · cases e
  · cases e
theorem atI_get {α β : Type} {xs : List α} {ys : List β} (l : xs.length = ys.length) {i : Int} {d : α} (h : atI xs i = some d) : ∃ j : Nat, xs[j]? = some d ∧ atI ys i = ys[j]? := by
  unfold atI at h ⊢
  rw [l] at h
  cases e : ixN ys.length i with
  | none => rw [e] at h; cases h
  | some j =>
    rw [e] at h
    exact ⟨j, h, rfl⟩
theorem ok_ix : OpOk K (rIx K) gIx := by
  intro fv mv H Z Fs σ s' H1 Z1 Fs1 F v w x y z Q e p q
  obtain ⟨F1, F2, h1, h2, eF⟩ := two_own p.held.pr
  obtain ⟨xd, xk⟩ := x
  obtain ⟨yd, yk⟩ := y
  unfold gIx at e
  simp only at e h1 h2
  split at e
  · next ds i =>
    split at e
    · next d ed =>
      cases e
      obtain ⟨l, vs, G1, rfl, r1, o1, sb1⟩ := h1.sub
      obtain ⟨j, ej, ea⟩ := atI_get (OwnAll.len _ o1).symm ed
      obtain ⟨u, E, eu, ou, se⟩ := OwnAll.get ds j o1 ej
      exact .inl ⟨l, vs, i, u, rfl, own_int h2, .inl r1, ea.trans eu, q _ _ _ _ (p.sub (F' := E) (by rw [eF]; exact (se.trans sb1).trans (List.sublist_append_left _ _)) ou)⟩
    · cases e
  · next ds i =>
    split at e
    · next d ed =>
      cases e
      unfold Own at h1
      obtain ⟨l, vs, rfl, r1, o1⟩ := h1
      obtain ⟨j, ej, ea⟩ := atI_get (OwnAll.len _ o1).symm ed
      obtain ⟨u, E, eu, ou, se⟩ := OwnAll.get ds j o1 ej
      exact .inr (.inl ⟨l, vs, i, u, rfl, own_int h2, r1, ea.trans eu, q _ _ _ _ (p.sub (F' := E) (by rw [eF]; exact se.trans (List.sublist_append_left _ _)) ou)⟩)
    · cases e
  · next zz i =>
    split at e
    · next c ec =>
      split at e
      · next cs =>
        cases e
        exact .inr (.inr ⟨zz, i, c, own_str h1, own_int h2, small_ok cs, ec, q _ _ _ _ (p.sc str_own)⟩)
      · cases e
    · cases e
  · cases e
theorem ok_neg : UnOk K (rU fun i => .int (-i)) gNeg := by
  intro fv mv H Z Fs σ s' H1 Z1 Fs1 F v x z Q e p q
  obtain ⟨xd, xk⟩ := x
  unfold gNeg at e
  have h1 : Own K _ _ xk v xd F := p.held.pr
  simp only at e
  split at e
  · next i => cases e; exact ⟨i, own_int h1, q _ _ _ _ (p.sc int_own)⟩
  · cases e

theorem OwnAll.rep {as : List PyData} {vs : List V} (h : OwnAll K Z H k vs as []) : ∀ n : Nat, OwnAll K Z H k (List.replicate n vs).flatten (List.replicate n as).flatten []
  | 0 => by
    show OwnAll K Z H k [] [] []
    unfold OwnAll
    exact ⟨rfl, rfl⟩
  | n + 1 => by
    rw [List.replicate_succ, List.replicate_succ, List.flatten_cons, List.flatten_cons]
    exact OwnAll.app h (OwnAll.rep h n)
def CMulO (i j : Int) : Prop := CMul i j ∨ CMulW i j
theorem op_mulO {X : Cx} : OpR X (binaryOp .Mult) (rI CMulO fun i j => .int (i * j)) := opI fun _ _ _ _ _ _ _ hc q => PyProof.Rows.mul_int q (hc.elim CMul.ok CMulW.ok)
abbrev rMulX : R2 := fun x y H Q => rI CMulO (fun i j => .int (i * j)) x y H Q ∨ rRep x y H Q
theorem op_mulX {X : Cx} : OpR X (binaryOp .Mult) rMulX := OpR.or op_mulO op_rep
theorem ok_mul : OpOk K rMulX gMul := by
  intro fv mv H Z Fs σ s' H1 Z1 Fs1 F v w x y z Q e p q
  obtain ⟨F1, F2, h1, h2, eF⟩ := two_own p.held.pr
  obtain ⟨xd, xk⟩ := x
  obtain ⟨yd, yk⟩ := y
  unfold gMul at e
  simp only at e h1 h2
  split at e
  · next i j =>
    split at e
    · next c =>
      cases e
      rw [Bool.or_eq_true, Bool.or_eq_true] at c
      exact .inl ⟨i, j, own_int h1, own_int h2, c.imp (fun c => c.imp lo64_ok lo64_ok) (fun c => (of_decide_eq_true c : i.natAbs.log2 + j.natAbs.log2 < 1000000)), q _ _ _ _ (p.sc int_own)⟩
    · cases e
  · next as i =>
    split at e
    · next c =>
      cases e
      simp only [Bool.and_eq_true] at c
      obtain ⟨⟨⟨⟨c1, c2⟩, c3⟩, c4⟩, c5⟩ := c
      have c2 := of_decide_eq_true c2
      have c3 := of_decide_eq_true c3
      have c4 := of_decide_eq_true c4
      obtain ⟨l, vs, G, rfl, r1, o1, sb⟩ := h1.rdL
      rcases sb with ⟨z0, _, _⟩ | ⟨_, eG, hl⟩
      · exact absurd z0 (by have := of_decide_eq_true c5; omega)
      · have nd : (F1 ++ F2).Nodup := eF ▸ p.held.nd
        obtain ⟨n1, n2, n3⟩ := List.nodup_append.mp nd
        have nG : G.Nodup := by rw [eG] at n1; exact (List.nodup_cons.mp n1).2
        obtain ⟨E, t, q0⟩ := OwnAll.lower (j := 0) as o1 nG (Nat.zero_le _)
        have e0 : hgtAll as = 0 := by
          have e : hgt (PyData.list as) = hgtAll as + 1 := by rw [hgt]
          omega
        have eE : E = [] := OwnAll.nil0 as (q0 (fun _ => True) (fun _ _ => trivial) (fun _ _ _ => trivial))
        subst eE
        have la := OwnAll.len _ o1
        refine .inr ⟨l, i, vs, rfl, own_int h2, hl, by omega, by omega, by rw [la]; exact small_ok c1, fun pn hp => q _ _ _ _ (p.newL (stb_all K _ _) (F' := []) hp (List.nil_sublist _) fun Z2 mz m2 => ?_)⟩
        exact OwnAll.rep (OwnAll.lift as (q0 Z2 mz fun a ha _ => m2 a (by rw [eF, eG]; exact List.mem_append_left _ (List.mem_cons_of_mem _ ha)) (by simp)) (by omega) (by omega)) _
    · cases e
  · cases e
end
section
variable {K : PySem.W.Frag}
theorem ok_len : CallOk K (fun xs H Q => (∃ p ys, xs = [.ref p] ∧ (SqL K H p ys ∨ SqT K H p ys) ∧ Q (.int ys.length) H) ∨ (∃ z, xs = [.str z] ∧ z.length ≤ sizeLine ∧ Q (.int z.length) H)) gLen := by
  intro fv mv H Z Fs σ s' H1 Z1 Fs1 F vs xs z Q e p q
  unfold gLen at e
  split at e
  · next x =>
    obtain ⟨xd, xk⟩ := x
    obtain ⟨v, rfl, h1⟩ := one_own p.held.pr
    simp only at e h1
    split at e
    · next ds =>
      cases e
      obtain ⟨l, vs, G, rfl, r1, o1, sb⟩ := h1.sub
      rw [← OwnAll.len _ o1] at q
      exact .inl ⟨l, vs, rfl, .inl (.inl r1), q _ _ _ _ (p.sc int_own)⟩
    · next ds =>
      cases e
      unfold Own at h1
      obtain ⟨l, vs, rfl, r1, o1⟩ := h1
      rw [← OwnAll.len _ o1] at q
      exact .inl ⟨l, vs, rfl, .inr r1, q _ _ _ _ (p.sc int_own)⟩
    · next zz =>
      split at e
      · next c =>
        cases e
        rw [own_str h1]
        exact .inr ⟨zz, rfl, small_ok c, q _ _ _ _ (p.sc int_own)⟩
      · cases e
    · cases e
  · cases e
theorem ok_abs : CallOk K (fun xs H Q => ∃ i, xs = [.int i] ∧ Q (.int (if i < 0 then -i else i)) H) gAbs := by
  intro fv mv H Z Fs σ s' H1 Z1 Fs1 F vs xs z Q e p q
  unfold gAbs at e
  split at e
  · next x =>
    obtain ⟨xd, xk⟩ := x
    obtain ⟨v, rfl, h1⟩ := one_own p.held.pr
    simp only at e h1
    split at e
    · next i =>
      cases e
      rw [own_int h1]
      exact ⟨i, rfl, q _ _ _ _ (p.sc int_own)⟩
    · cases e
  · cases e
theorem ok_int : CallOk K (fun xs H Q => (∃ i, xs = [.int i] ∧ Q (.int i) H) ∨ ∃ k, xs = [.bl k] ∧ Q (.int (if k then 1 else 0)) H) gInt := by
  intro fv mv H Z Fs σ s' H1 Z1 Fs1 F vs xs z Q e p q
  unfold gInt at e
  split at e
  · next x =>
    obtain ⟨xd, xk⟩ := x
    obtain ⟨v, rfl, h1⟩ := one_own p.held.pr
    simp only at e h1
    split at e
    · next i =>
      cases e
      rw [own_int h1]
      exact .inl ⟨i, rfl, q _ _ _ _ (p.sc int_own)⟩
    · next i =>
      cases e
      rw [own_bl h1]
      exact .inr ⟨i, rfl, q _ _ _ _ (p.sc int_own)⟩
    · cases e
  · cases e
end
section
variable {X : Cx} {e a b : Expr} {es : List Expr} {pos : Pos} {fv mv fva mva fvb mvb : List Nat} {f fa fb : Ex} {fs : Exs} {io : List (Nat × Nat)}
theorem re_list (h : PA X es (tA X.K fv mv io fs)) : PE X (.List es pos) (tE X.K fv mv (evN gList fs)) := by
  refine PE.of (pe_lst h) fun σ H Q h => ?_
  refine impN (r := fun xs H1 Q => xs.length ≤ sizeLine ∧ ∀ p, H1 p = none → Q (.ref p) (upd H1 p (.lst xs))) ?_ h
  intro fv mv H Z Fs σ s' H1 Z1 Fs1 F vs xs z Q e p q
  unfold gList at e
  split at e
  · next c =>
    cases e
    refine ⟨by rw [OwnL.len p.held.pr]; exact small_ok c, fun pn hp => ?_⟩
    obtain ⟨F', sb, qq⟩ := OwnL.to (m := minAll (xs.map dep)) p.held.pr p.held.nd (Nat.le_refl _)
    exact q _ _ _ _ (p.newL (stb_all _ _ _) hp sb qq)
  · cases e
theorem re_tup {x1} (h : PA X es (tA X.K fv mv io fs)) : PE X (.Tuple es x1 pos) (tE X.K fv mv (evN gTup fs)) := by
  refine PE.of (pe_tup h) fun σ H Q h => ?_
  refine impN (r := fun xs H1 Q => xs.length ≤ sizeLine ∧ ∀ p, H1 p = none → Q (.ref p) (upd H1 p (.tup xs))) ?_ h
  intro fv mv H Z Fs σ s' H1 Z1 Fs1 F vs xs z Q e p q
  unfold gTup at e
  split at e
  · next c =>
    cases e
    refine ⟨by rw [OwnL.len p.held.pr]; exact small_ok c, fun pn hp => ?_⟩
    obtain ⟨F', sb, qq⟩ := OwnL.to (m := minAll (xs.map dep)) p.held.pr p.held.nd (Nat.le_refl _)
    exact q _ _ _ _ (p.newT (stb_all _ _ _) hp sb qq)
  · cases e
theorem re_callB {x : Str} {p : Pos} {id : String} {r : List V → Hp → VK → Prop} {g : List DV → Res DV} (hc : CallR X (.builtin id) r) (hk : CallOk X.K r g) (hg : Gl X x) (hm : X.mg x = none) (hv : bootBuiltins x = some (.builtin id)) (ha : PA X (e :: es) (tA X.K fv mv io fs)) (hn : x ≠ "__name__" := by decide) (hdb : (x == ("__debug__" : Str)) = false := by decide)
    (he : starEach (e :: es) X.env = (false, eval e X.env) :: starEach es X.env := by rfl) (hpl : (backTo pos (starEach es X.env)).any (·.1) = false := by rfl) : PE X (.Call (.Name x p) (e :: es) [] pos) (tE X.K fv mv (evN g fs)) :=
  PE.of (pe_callB hc hg hm hv ha hn hdb he hpl) fun σ H Q h => impN hk h
theorem re_callT {x : Str} {p : Pos} {T : String} {r : List V → Hp → VK → Prop} {g : List DV → Res DV} (hc : CallR X (.type T) r) (hk : CallOk X.K r g) (hg : Gl X x) (hm : X.mg x = none) (hv : bootBuiltins x = some (.type T)) (ha : PA X (e :: es) (tA X.K fv mv io fs)) (hn : x ≠ "__name__" := by decide) (hdb : (x == ("__debug__" : Str)) = false := by decide)
    (he : starEach (e :: es) X.env = (false, eval e X.env) :: starEach es X.env := by rfl) (hpl : (backTo pos (starEach es X.env)).any (·.1) = false := by rfl) : PE X (.Call (.Name x p) (e :: es) [] pos) (tE X.K fv mv (evN g fs)) :=
  PE.of (pe_callTy hc hg hm hv ha hn hdb he hpl) fun σ H Q h => impN hk h
theorem re_ix (ha : PE X a (tE X.K fva mva fa)) (hb : PE X b (tE X.K fvb mvb fb)) (hs : PlainIx b) (d : djn fva mvb = true := by rfl) : PE X (.Subscript a b pos) (tE X.K (fva ++ fvb) (mva ++ mvb) (ev2 gIx fa fb)) :=
  PE.of (pe_ix ix_seq ha hb hs) fun σ H Q h => imp2 ok_ix d h
end
end Sq
end

section
namespace Sq
open PySem PySem.Spec L2
section
variable {K : PySem.W.Frag} {Z Z1 Z2 : Zs} {H H1 H2 : Hp} {Fs Fs1 Fs2 : Fp} {σ : L2.St} {s s' s1 s2 : SD} {F F2 : List Addr} {fv mv fva mva fvb mvb : List Nat} {x y z : DV} {k : Nat} {v w : V} {P P' : Pr}
/-- first one piece, whose thing is dropped, then another -/
theorem Post.seq (h : Post K P fva mva H Z Fs σ s1 H1 Z1 Fs1 F) (h2 : Post K P' fvb mvb H1 Z1 Fs1 σ s2 H2 Z2 Fs2 F2) : Post K P' fvb (mva ++ mvb) H Z Fs σ s2 H2 Z2 Fs2 F2 where
  tr := h.tr.trans h2.tr (fun i hi => List.mem_append_left _ hi) (fun i hi => List.mem_append_right _ hi)
  good := h2.good
  held := h2.held
  new := fun a ha => by
    rcases h2.new a ha with q | ⟨i, hi, q⟩
    · exact .inl (h.tr.dom a q)
    · by_cases m : i ∈ mva
      · exact (h.tr.fb i m a q).imp id fun ⟨j, hj, q⟩ => ⟨j, List.mem_append_left _ hj, q⟩
      · rw [h.tr.fo i m] at q
        exact .inr ⟨i, List.mem_append_right _ hi, q⟩
theorem Post.weak {mv' : List Nat} (h : Post K P fva mva H Z Fs σ s1 H1 Z1 Fs1 F) (m : ∀ i ∈ mva, i ∈ mv') : Post K P fva mv' H Z Fs σ s1 H1 Z1 Fs1 F :=
  ⟨h.tr.weak m, h.good, h.held, fun a ha => (h.new a ha).imp id fun ⟨i, hi, q⟩ => ⟨i, m i hi, q⟩⟩
theorem Post.fv0 (h : Post K PNone fva mva H Z Fs σ s1 H1 Z1 Fs1 F) : Post K PNone [] mva H Z Fs σ s1 H1 Z1 Fs1 [] :=
  ⟨h.tr, h.good, ⟨rfl, List.nodup_nil, fun a ha => (by cases ha), fun a ha => (by cases ha)⟩, fun a ha => (by cases ha)⟩
theorem tst_imp {f : Ex} {Q : Bool → Hp → Prop} (h : tT K mv (tst f) σ H Q) : tE K fv mv f σ H fun x H' => ∃ k, x = .bl k ∧ Q k H' := by
  obtain ⟨Z, s, Fs, b, s', gd, e, q⟩ := h
  unfold tst at e
  obtain ⟨⟨x, s1⟩, ea, e⟩ := Res.bind_eq_ok.mp e
  obtain ⟨xd, xk⟩ := x
  simp only at e
  split at e
  · next b' =>
    cases e
    exact ⟨Z, s, Fs, _, _, gd, ea, fun v H1 Z1 Fs1 F p => ⟨_, own_bl p.held.pr, q H1 Z1 Fs1 p.nothing.fv0⟩⟩
  · cases e
end
section
variable {X : Cx} {e a b : Expr} {es rest : List Expr} {pos : Pos} {fv mv fva mva fvb mvb : List Nat} {f fa fb : Ex} {fs : Exs} {ta tb : Tst}
theorem rt_val (h : PE X e (tE X.K fv mv f)) (he : ∀ whole, isTrue e X.env whole = (do let v ← whole; standAt e.pos; holding [v] (truthy v)) := by intro _; rfl) : PT X e (tT X.K mv (tst f)) :=
  PT.of (pt_val h he) fun σ H Q h => tst_imp h
theorem rt_cmp {op : CmpOp} {r : R2} {g : DV → DV → Res DV} (ho : OpR X (compareOp op) r) (hg : OpOk X.K r g) (ha : PE X a (tE X.K fva mva fa)) (hb : PE X b (tE X.K fvb mvb fb)) (d : djn fva mvb = true := by rfl) (hm : behindInMarks op b = false := by rfl) : PT X (.Compare a [op] [b] pos) (tT X.K (mva ++ mvb) (tst (ev2 g fa fb))) :=
  PT.of (pt_cmpR ho ha hb hm) fun σ H Q h => imp2 hg d (tst_imp h)
theorem rt_not (h : PT X a (tT X.K mva ta)) : PT X (.UnaryOp .Not a pos) (tT X.K mva (tNot2 ta)) := by
  refine PT.of (pt_not h) fun σ H Q h => ?_
  obtain ⟨Z, s, Fs, b, s', gd, e, q⟩ := h
  unfold tNot2 at e
  obtain ⟨⟨x, s1⟩, ea, e⟩ := Res.bind_eq_ok.mp e
  cases e
  exact ⟨Z, s, Fs, _, _, gd, ea, fun H1 Z1 Fs1 p => q H1 Z1 Fs1 p⟩
theorem rw_and1 (h : PT X a (tT X.K mva ta)) : PW X (.BoolOp .And [a] pos) (tT X.K mva ta) := pw_and1 h
theorem rw_or1 (h : PT X a (tT X.K mva ta)) : PW X (.BoolOp .Or [a] pos) (tT X.K mva ta) := pw_or1 h
theorem rw_and (ha : PT X a (tT X.K mva ta)) (hb : PW X (.BoolOp .And (b :: rest) pos) (tT X.K mvb tb)) : PW X (.BoolOp .And (a :: b :: rest) pos) (tT X.K (mva ++ mvb) (tAnd2 ta tb)) := by
  refine PW.of (pw_and ha hb) fun σ H Q h => ?_
  obtain ⟨Z, s, Fs, b, s', gd, e, q⟩ := h
  unfold tAnd2 at e
  obtain ⟨⟨x, s1⟩, ea, e⟩ := Res.bind_eq_ok.mp e
  refine ⟨Z, s, Fs, _, _, gd, ea, fun H1 Z1 Fs1 p => ?_⟩
  cases x with
  | true =>
    rw [if_pos rfl]
    exact ⟨Z1, s1, Fs1, b, s', p.good, e, fun H2 Z2 Fs2 p2 => q H2 Z2 Fs2 (p.seq p2)⟩
  | false =>
    rw [if_neg Bool.false_ne_true]
    cases e
    exact q H1 Z1 Fs1 (p.weak fun i hi => List.mem_append_left _ hi)
theorem rw_or (ha : PT X a (tT X.K mva ta)) (hb : PW X (.BoolOp .Or (b :: rest) pos) (tT X.K mvb tb)) : PW X (.BoolOp .Or (a :: b :: rest) pos) (tT X.K (mva ++ mvb) (tOr2 ta tb)) := by
  refine PW.of (pw_or ha hb) fun σ H Q h => ?_
  obtain ⟨Z, s, Fs, b, s', gd, e, q⟩ := h
  unfold tOr2 at e
  obtain ⟨⟨x, s1⟩, ea, e⟩ := Res.bind_eq_ok.mp e
  refine ⟨Z, s, Fs, _, _, gd, ea, fun H1 Z1 Fs1 p => ?_⟩
  cases x with
  | true =>
    rw [if_pos rfl]
    cases e
    exact q H1 Z1 Fs1 (p.weak fun i hi => List.mem_append_left _ hi)
  | false =>
    rw [if_neg Bool.false_ne_true]
    exact ⟨Z1, s1, Fs1, b, s', p.good, e, fun H2 Z2 Fs2 p2 => q H2 Z2 Fs2 (p.seq p2)⟩
theorem rt_w (h : PW X e (tT X.K mva ta)) : PT X e (tT X.K mva ta) := h.pt
theorem re_one {op} (h : PE X a (tE X.K fva mva fa)) : PE X (.BoolOp op [a] pos) (tE X.K fva mva fa) := pe_one h
theorem re_and (ha : PE X a (tE X.K fva mva fa)) (hb : PE X (.BoolOp .And (b :: rest) pos) (tE X.K fvb mvb fb)) : PE X (.BoolOp .And (a :: b :: rest) pos) (tE X.K fvb (mva ++ mvb) (evAnd fa fb)) := by
  refine PE.of (pe_and ha hb) fun σ H Q h => ?_
  obtain ⟨Z, s, Fs, z, s', gd, e, q⟩ := h
  unfold evAnd at e
  obtain ⟨⟨x, s1⟩, ea, e⟩ := Res.bind_eq_ok.mp e
  obtain ⟨xd, xk⟩ := x
  refine ⟨Z, s, Fs, _, _, gd, ea, fun v H1 Z1 Fs1 F p => ?_⟩
  simp only at e
  split at e
  · refine ⟨true, own_bl p.held.pr, ?_⟩
    rw [if_pos rfl]
    exact ⟨Z1, s1, Fs1, z, s', p.good, e, fun v H2 Z2 Fs2 F2 p2 => q v H2 Z2 Fs2 F2 (p.seq p2)⟩
  · refine ⟨false, own_bl p.held.pr, ?_⟩
    rw [if_neg Bool.false_ne_true]
    cases e
    refine q (.bl false) H1 Z1 Fs1 [] ((p.seq (Post.start p.good |>.sub (List.nil_sublist _) (P' := POne X.K (.bl false) (.bool false, 0)) bl_own)).weak ?_ |> fun p => ⟨p.tr, p.good, ⟨bl_own, List.nodup_nil, fun a ha => (by cases ha), fun a ha => (by cases ha)⟩, fun a ha => (by cases ha)⟩)
    intro i hi
    rw [List.append_nil] at hi
    exact List.mem_append_left _ hi
  · cases e
theorem re_or (ha : PE X a (tE X.K fva mva fa)) (hb : PE X (.BoolOp .Or (b :: rest) pos) (tE X.K fvb mvb fb)) : PE X (.BoolOp .Or (a :: b :: rest) pos) (tE X.K fvb (mva ++ mvb) (evOr fa fb)) := by
  refine PE.of (pe_or ha hb) fun σ H Q h => ?_
  obtain ⟨Z, s, Fs, z, s', gd, e, q⟩ := h
  unfold evOr at e
  obtain ⟨⟨x, s1⟩, ea, e⟩ := Res.bind_eq_ok.mp e
  obtain ⟨xd, xk⟩ := x
  refine ⟨Z, s, Fs, _, _, gd, ea, fun v H1 Z1 Fs1 F p => ?_⟩
  simp only at e
  split at e
  · refine ⟨true, own_bl p.held.pr, ?_⟩
    rw [if_pos rfl]
    cases e
    refine q (.bl true) H1 Z1 Fs1 [] ((p.seq (Post.start p.good |>.sub (List.nil_sublist _) (P' := POne X.K (.bl true) (.bool true, 0)) bl_own)).weak ?_ |> fun p => ⟨p.tr, p.good, ⟨bl_own, List.nodup_nil, fun a ha => (by cases ha), fun a ha => (by cases ha)⟩, fun a ha => (by cases ha)⟩)
    intro i hi
    rw [List.append_nil] at hi
    exact List.mem_append_left _ hi
  · refine ⟨false, own_bl p.held.pr, ?_⟩
    rw [if_neg Bool.false_ne_true]
    exact ⟨Z1, s1, Fs1, z, s', p.good, e, fun v H2 Z2 Fs2 F2 p2 => q v H2 Z2 Fs2 F2 (p.seq p2)⟩
  · cases e
theorem re_not (ha : PE X a (tE X.K fva mva fa)) : PE X (.UnaryOp .Not a pos) (tE X.K fva mva (ev1 gNot fa)) := by
  refine PE.of (pe_not ha) fun σ H Q h => imp1 (r := fun x H1 Q => ∃ c, x = .bl c ∧ Q (.bl (!c)) H1) ?_ h
  intro fv mv H Z Fs σ s' H1 Z1 Fs1 F v x z Q e p q
  obtain ⟨xd, xk⟩ := x
  unfold gNot at e
  have h1 : Own X.K _ _ xk v xd F := p.held.pr
  simp only at e
  split at e
  · next i => cases e; exact ⟨i, own_bl h1, q _ _ _ _ (p.sc bl_own)⟩
  · cases e
theorem isnon_iff {K : PySem.W.Frag} {Z : Zs} {H : Hp} {k : Nat} {v : V} {d : PyData} {F : List Addr} (h : Own K Z H k v d F) : decide (v = .non) = isNon d := by
  cases d with
  | none => unfold Own at h; rw [h.1]; rfl
  | bool b => unfold Own at h; rw [h.1]; rfl
  | int i => unfold Own at h; rw [h.1]; rfl
  | str x => unfold Own at h; rw [h.1]; rfl
  | list ds => obtain ⟨p, vs, F', rfl, _⟩ := h.rdL; rfl
  | tuple ds => unfold Own at h; obtain ⟨p, vs, rfl, _⟩ := h; rfl
  | dict kvs => obtain ⟨p, es, rfl, _⟩ := h.dicR; rfl
theorem re_isN {j pos'} (ha : PE X a (tE X.K fva mva fa)) : PE X (.Compare a [.Is] [.Constant .none j pos'] pos) (tE X.K fva mva (ev1 gIsN fa)) := by
  refine PE.of (pe_cmp (pc_isN ha)) fun σ H Q h => imp1 (r := fun x H1 Q => Q (.bl (decide (x = .non))) H1) ?_ h
  intro fv mv H Z Fs σ s' H1 Z1 Fs1 F v x z Q e p q
  cases e
  rw [isnon_iff p.held.pr]
  exact q _ _ _ _ (p.sc bl_own)
theorem re_notN {j pos'} (ha : PE X a (tE X.K fva mva fa)) : PE X (.Compare a [.IsNot] [.Constant .none j pos'] pos) (tE X.K fva mva (ev1 gNotN fa)) := by
  refine PE.of (pe_cmp (pc_notN ha)) fun σ H Q h => imp1 (r := fun x H1 Q => Q (.bl (!decide (x = .non))) H1) ?_ h
  intro fv mv H Z Fs σ s' H1 Z1 Fs1 F v x z Q e p q
  cases e
  rw [isnon_iff p.held.pr]
  exact q _ _ _ _ (p.sc bl_own)
theorem rt_isN {j pos'} (ha : PE X a (tE X.K fva mva fa)) : PT X (.Compare a [.Is] [.Constant .none j pos'] pos) (tT X.K mva (tst (ev1 gIsN fa))) := by
  refine PT.of (pt_cmp (pc_isN ha)) fun σ H Q h => imp1 (r := fun x H1 Q => Q (.bl (decide (x = .non))) H1) ?_ (tst_imp h)
  intro fv mv H Z Fs σ s' H1 Z1 Fs1 F v x z Q e p q
  cases e
  rw [isnon_iff p.held.pr]
  exact q _ _ _ _ (p.sc bl_own)
theorem rt_notN {j pos'} (ha : PE X a (tE X.K fva mva fa)) : PT X (.Compare a [.IsNot] [.Constant .none j pos'] pos) (tT X.K mva (tst (ev1 gNotN fa))) := by
  refine PT.of (pt_cmp (pc_notN ha)) fun σ H Q h => imp1 (r := fun x H1 Q => Q (.bl (!decide (x = .non))) H1) ?_ (tst_imp h)
  intro fv mv H Z Fs σ s' H1 Z1 Fs1 F v x z Q e p q
  cases e
  rw [isnon_iff p.held.pr]
  exact q _ _ _ _ (p.sc bl_own)

/-! ### slices -/
def tO (K : PySem.W.Frag) (mv : List Nat) (f : Opt) : TO := fun σ H Q => ∃ Z s Fs o s', Good K Z H σ s Fs ∧ f s = .ok (o, s') ∧ ∀ H' Z' Fs', Post K PNone [] mv H Z Fs σ s' H' Z' Fs' [] → Q o H'
theorem PO.of {e : Option Expr} {t t' : TO} (h : PO X e t) (i : ∀ σ H Q, t' σ H Q → t σ H Q) : PO X e t' := ⟨fun pins s σ H Q I q => h.run pins s σ H Q I (i σ H Q q)⟩
theorem ro_none : PO X none (tO X.K [] oNone) := by
  refine PO.of po_none fun σ H Q h => ?_
  obtain ⟨Z, s, Fs, b, s', gd, e, q⟩ := h
  cases e
  exact q H Z Fs (Post.start gd)
theorem ro_some (h : PE X e (tE X.K fv mv f)) : PO X (some e) (tO X.K mv (oSome f)) := by
  refine PO.of (po_some h) fun σ H Q h => ?_
  obtain ⟨Z, s, Fs, b, s', gd, e, q⟩ := h
  unfold oSome at e
  obtain ⟨⟨x, s1⟩, ea, e⟩ := Res.bind_eq_ok.mp e
  obtain ⟨xd, xk⟩ := x
  simp only at e
  split at e
  · next i =>
    cases e
    exact ⟨Z, s, Fs, _, _, gd, ea, fun v H1 Z1 Fs1 F p => ⟨i, own_int p.held.pr, q H1 Z1 Fs1 p.nothing.fv0⟩⟩
  · cases e
theorem Post.keepOn {K : PySem.W.Frag} {Z Z1 Z2 : Zs} {H H1 H2 : Hp} {Fs Fs1 Fs2 : Fp} {σ : L2.St} {s1 s2 : SD} {F : List Addr} {P : Pr} (S : Stb P) (h : Post K P fva mva H Z Fs σ s1 H1 Z1 Fs1 F) (h2 : Post K PNone [] mvb H1 Z1 Fs1 σ s2 H2 Z2 Fs2 []) (d : ∀ i ∈ fva, i ∉ mvb) : Post K P fva (mva ++ mvb) H Z Fs σ s2 H2 Z2 Fs2 F :=
  ⟨h.tr.trans h2.tr (fun i hi => List.mem_append_left _ hi) (fun i hi => List.mem_append_right _ hi), h2.good, h.held.on S h.good h2.tr d, fun a ha => (h.new a ha).imp id fun ⟨i, hi, q⟩ => ⟨i, List.mem_append_left _ hi, q⟩⟩
theorem OwnAll.cut {K : PySem.W.Frag} {Z : Zs} {H : Hp} {k : Nat} : ∀ (ds : List PyData) {vs : List V} {F : List Addr} (n m : Nat), OwnAll K Z H k vs ds F → ∃ F', F'.Sublist F ∧ OwnAll K Z H k ((vs.drop n).take m) ((ds.drop n).take m) F'
  | [], vs, F, n, m, h => by
    unfold OwnAll at h
    obtain ⟨rfl, rfl⟩ := h
    refine ⟨[], List.nil_sublist _, ?_⟩
    simp only [List.drop_nil, List.take_nil]
    unfold OwnAll
    exact ⟨rfl, rfl⟩
  | d :: ds, vs, F, 0, 0, h => by
    refine ⟨[], List.nil_sublist _, ?_⟩
    simp only [List.take_zero]
    unfold OwnAll
    exact ⟨rfl, rfl⟩
  | d :: ds, vs, F, 0, m + 1, h => by
    unfold OwnAll at h
    obtain ⟨v, vs', F1, F2, rfl, h1, h2, rfl⟩ := h
    obtain ⟨F', sb, q⟩ := OwnAll.cut ds 0 m h2
    refine ⟨F1 ++ F', (List.Sublist.refl _).append sb, ?_⟩
    simp only [List.drop_zero, List.take_succ_cons] at q ⊢
    unfold OwnAll
    exact ⟨v, _, F1, F', rfl, h1, q, rfl⟩
  | d :: ds, vs, F, n + 1, m, h => by
    unfold OwnAll at h
    obtain ⟨v, vs', F1, F2, rfl, h1, h2, rfl⟩ := h
    obtain ⟨F', sb, q⟩ := OwnAll.cut ds n m h2
    refine ⟨F', sb.trans (List.sublist_append_right _ _), ?_⟩
    simp only [List.drop_succ_cons]
    exact q
theorem re_slice {lo hi : Option Expr} {p2 : Pos} {fl fh : Opt} {mvl mvh : List Nat} (he : PE X e (tE X.K fva mva fa)) (hl : PO X lo (tO X.K mvl fl)) (hu : PO X hi (tO X.K mvh fh)) (d : djn fva (mvl ++ mvh) = true := by rfl) : PE X (.Subscript e (.Slice lo hi none p2) pos) (tE X.K fva (mva ++ mvl ++ mvh) (evSl fa fl fh)) := by
  refine PE.of (pe_slice sl_list he hl hu) fun σ H Q h => ?_
  obtain ⟨Z, s, Fs, z, s', gd, e, q⟩ := h
  unfold evSl at e
  obtain ⟨⟨x, s1⟩, ea, e⟩ := Res.bind_eq_ok.mp e
  obtain ⟨⟨l, s2⟩, el, e⟩ := Res.bind_eq_ok.mp e
  obtain ⟨⟨u, s3⟩, eu, e⟩ := Res.bind_eq_ok.mp e
  obtain ⟨xd, xk⟩ := x
  have dd := djn_ok d
  refine ⟨Z, s, Fs, _, _, gd, ea, fun v H1 Z1 Fs1 F p1 => ⟨Z1, s1, Fs1, l, s2, p1.good, el, fun H2 Z2 Fs2 p2 => ⟨Z2, s2, Fs2, u, s3, p2.good, eu, fun H3 Z3 Fs3 p3 => ?_⟩⟩⟩
  have pp := (p1.keepOn (stb_one _ _ _) p2 fun i hi z => dd i hi (List.mem_append_left _ z)).keepOn (stb_one _ _ _) p3 fun i hi z => dd i hi (List.mem_append_right _ z)
  cases xd with
  | list ds =>
    cases e
    have ow : Own X.K _ _ xk v (.list ds) F := pp.held.pr
    obtain ⟨pa, vs, G, rfl, r1, o1, sb⟩ := ow.sub
    obtain ⟨E, se, oe⟩ := OwnAll.cut ds (HT.sIx ds.length 0 l) (HT.sIx ds.length ds.length u - HT.sIx ds.length 0 l) o1
    have la := OwnAll.len _ o1
    refine ⟨pa, vs, rfl, .inl r1, fun pn hp => ?_⟩
    have ec : cutV vs l u = (vs.drop (HT.sIx ds.length 0 l)).take (HT.sIx ds.length ds.length u - HT.sIx ds.length 0 l) := by
      unfold cutV
      rw [la]
    have hc : hgtAll (cutD ds l u) ≤ xk - 1 ∨ depI (PyData.list ds, xk) ≤ xk - 1 := by
      rcases depI_ok (Nat.le_refl (depI (PyData.list ds, xk))) with q | q
      · left
        refine Nat.le_trans ?_ q
        have : ∀ (ds : List PyData) (d : PyData), d ∈ ds → hgt d ≤ hgtAll ds := fun ds => by
          induction ds with
          | nil => intro d hd; cases hd
          | cons c cs ih =>
            intro d hd
            rw [hgtAll]
            rcases List.mem_cons.mp hd with rfl | hd
            · exact Nat.le_max_left _ _
            · exact Nat.le_trans (ih d hd) (Nat.le_max_right _ _)
        have back : ∀ (cs : List PyData) (n : Nat), (∀ d ∈ cs, hgt d ≤ n) → hgtAll cs ≤ n := fun cs n => by
          induction cs with
          | nil => intro _; rw [hgtAll]; exact Nat.zero_le _
          | cons c cs ih =>
            intro hd
            rw [hgtAll]
            exact Nat.max_le.mpr ⟨hd c (List.mem_cons_self ..), ih fun d h => hd d (List.mem_cons_of_mem _ h)⟩
        exact back _ _ fun d hd => this ds d (List.mem_of_mem_drop (List.mem_of_mem_take hd))
      · exact .inr q
    obtain ⟨E', t, qq⟩ := OwnAll.to (m := depI (PyData.list ds, xk)) oe (pp.held.nd.sublist (se.trans sb)) hc
    have R := pp.newL (stb_one _ _ _) (p := pn) (vs := cutV vs l u) (ds := cutD ds l u) (F' := E') (k := depI (PyData.list ds, xk)) hp (t.trans (se.trans sb)) fun Z2 mz m2 => by
      rw [ec]
      exact qq Z2 mz fun a ha hn => m2 a ((se.trans sb).subset ha) hn
    exact q _ _ _ _ _ R
  | _ => cases e
end
end Sq
end

section
namespace Sq
open PySem PySem.Spec L2
/-- what a def is worth: of its arguments, its value and what its parameters are in the end -/
abbrev Fn := List DV → Res (DV × SD)
def keepFull (o : Option DV) : Option DV := match o with
  | some x => if full x then some x else none
  | none => none
def putBack (fin : SD) : List (Nat × Nat) → SD → SD
  | [], s => s
  | (j, i) :: r, s => putBack fin r (s.set i (keepFull ((fin[j]?).getD none)))
def evCall (g : Fn) (back : List (Nat × Nat)) (a : Exs) : Ex := fun s => do
  let (xs, s) ← a s
  let (z, fin) ← g xs
  .ok (z, putBack fin back s)
/-- the promise of a def -/
def spF (K : PySem.W.Frag) (n : Nat) (g : Fn) : Sp := fun vs H Q _ => vs.length = n ∧ ∃ Z ds Fa z fin, Good K Z H (vs.map some) (ds.map some) Fa ∧ g ds = .ok (z, fin) ∧
  ∀ v H' Z' Fa' F, Post K (POne K v z) [] (List.range n) H Z Fa (vs.map some) fin H' Z' Fa' F → Q v H'

section
variable {K : PySem.W.Frag} {Z Z1 Z2 : Zs} {H H1 H2 : Hp} {Fs Fs1 Fs2 : Fp} {σ : L2.St} {s s' s1 s2 : SD} {F F2 : List Addr} {fv mv : List Nat}
/-- each argument's own things -/
theorem OwnL.each : ∀ {xs : List DV} {vs : List V} {F : List Addr}, OwnL K Z H vs xs F → F.Nodup → ∃ Fa : Fp, (∀ (j : Nat) d k, xs[j]? = some (d, k) → ∃ v, vs[j]? = some v ∧ Own K Z H k v d (Fa j)) ∧ (∀ j, (Fa j).Sublist F) ∧ (∀ i j, i ≠ j → ∀ a ∈ Fa i, a ∉ Fa j) ∧ (∀ j, xs.length ≤ j → Fa j = [])
  | [], vs, F, h, nd => ⟨fun _ => [], fun j d k e => by simp at e, fun j => List.nil_sublist _, fun i j _ a ha => (by cases ha), fun j _ => rfl⟩
  | x :: xs, _, _, ⟨v, vs', F1, F2, e, h1, h2, e2⟩, nd => by
    subst e2 e
    obtain ⟨n1, n2, n3⟩ := List.nodup_append.mp nd
    obtain ⟨Fa, a1, a2, a3, a4⟩ := OwnL.each h2 n2
    refine ⟨fun j => match j with | 0 => F1 | j + 1 => Fa j, fun j d k e => ?_, fun j => ?_, fun i j n a ha hb => ?_, fun j l => ?_⟩
    · cases j with
      | zero =>
        simp only [List.getElem?_cons_zero, Option.some.injEq] at e
        subst e
        exact ⟨v, rfl, h1⟩
      | succ j =>
        simp only [List.getElem?_cons_succ] at e
        obtain ⟨w, e1, q⟩ := a1 j d k e
        exact ⟨w, by simpa using e1, q⟩
    · cases j with
      | zero => exact List.sublist_append_left _ _
      | succ j => exact (a2 j).trans (List.sublist_append_right _ _)
    · cases i with
      | zero =>
        cases j with
        | zero => exact n rfl
        | succ j => exact n3 a ha a ((a2 j).subset hb) rfl
      | succ i =>
        cases j with
        | zero => exact n3 a hb a ((a2 i).subset ha) rfl
        | succ j => exact a3 i j (fun e => n (congrArg Nat.succ e)) a ha hb
    · cases j with
      | zero => simp at l
      | succ j => exact a4 j (by simpa using l)
def backAt (back : List (Nat × Nat)) (i : Nat) : Option Nat := (back.reverse.find? fun p => p.2 == i).map (·.1)
theorem putBack_len (fin : SD) : ∀ (back : List (Nat × Nat)) (s : SD), (putBack fin back s).length = s.length
  | [], s => rfl
  | (j, i) :: r, s => by rw [putBack, putBack_len fin r, List.length_set]
theorem putBack_at (fin : SD) : ∀ (back : List (Nat × Nat)) (s : SD) (i : Nat) {x : DV}, (putBack fin back s)[i]? = some (some x) → (∃ j, (j, i) ∈ back ∧ fin[j]? = some (some x) ∧ full x = true) ∨ ((∀ j, (j, i) ∉ back) ∧ s[i]? = some (some x))
  | [], s, i, x, h => .inr ⟨fun j hj => (by cases hj), h⟩
  | (j, i') :: r, s, i, x, h => by
    rw [putBack] at h
    rcases putBack_at fin r _ i h with ⟨j', hj, e, f⟩ | ⟨hn, e⟩
    · exact .inl ⟨j', List.mem_cons_of_mem _ hj, e, f⟩
    · by_cases q : i' = i
      · subst q
        by_cases l : i' < s.length
        · rw [List.getElem?_set_self l] at e
          have e' := Option.some.inj e
          unfold keepFull at e'
          split at e'
          · next y ey =>
            split at e'
            · next f =>
              cases e'
              refine .inl ⟨j, List.mem_cons_self .., ?_, f⟩
              cases q : fin[j]? with
              | none => rw [q] at ey; cases ey
              | some o => rw [q] at ey; exact congrArg some ey
            · cases e'
          · cases e'
        · rw [List.getElem?_eq_none (by simpa using l)] at e; cases e
      · rw [List.getElem?_set_ne q] at e
        refine .inr ⟨fun j' hj => ?_, e⟩
        rcases List.mem_cons.mp hj with e' | hj
        · cases e'; exact q rfl
        · exact hn j' hj
def ndup : List Nat → Bool
  | [] => true
  | x :: r => !r.contains x && ndup r
theorem ndup_ok : ∀ {l : List Nat}, ndup l = true → l.Nodup
  | [], _ => List.nodup_nil
  | x :: r, h => by
    unfold ndup at h
    rw [Bool.and_eq_true] at h
    exact List.nodup_cons.mpr ⟨fun m => by simp at h; exact h.1 m, ndup_ok h.2⟩
/-- the ways back: other slots than those shared, no argument and no slot twice, all among the changed -/
def backOk (fv mv : List Nat) (io back : List (Nat × Nat)) : Bool :=
  back.all (fun p => !fv.contains p.2 && mv.contains p.2 && io.contains p) && ndup (back.map (·.1)) && ndup (back.map (·.2))
theorem inj2 : ∀ {back : List (Nat × Nat)}, (back.map (·.2)).Nodup → ∀ {i j j' : Nat}, (j, i) ∈ back → (j', i) ∈ back → j = j'
  | [], _, _, _, _, h, _ => by cases h
  | p :: r, nd, i, j, j', h, h' => by
    rw [List.map_cons, List.nodup_cons] at nd
    have no : ∀ {j : Nat}, (j, i) ∈ r → i = p.2 → False := fun {j} m e => nd.1 (List.mem_map.mpr ⟨(j, i), m, e⟩)
    rcases List.mem_cons.mp h with e | m
    · rcases List.mem_cons.mp h' with e' | m'
      · rw [← e] at e'; exact (Prod.mk.inj e').1.symm
      · exact (no m' (by rw [← e])).elim
    · rcases List.mem_cons.mp h' with e' | m'
      · exact (no m (by rw [← e'])).elim
      · exact inj2 nd.2 m m'
theorem inj1 : ∀ {back : List (Nat × Nat)}, (back.map (·.1)).Nodup → ∀ {i i' j : Nat}, (j, i) ∈ back → (j, i') ∈ back → i = i'
  | [], _, _, _, _, h, _ => by cases h
  | p :: r, nd, i, i', j, h, h' => by
    rw [List.map_cons, List.nodup_cons] at nd
    have no : ∀ {i : Nat}, (j, i) ∈ r → j = p.1 → False := fun {i} m e => nd.1 (List.mem_map.mpr ⟨(j, i), m, e⟩)
    rcases List.mem_cons.mp h with e | m
    · rcases List.mem_cons.mp h' with e' | m'
      · rw [← e] at e'; exact (Prod.mk.inj e').2.symm
      · exact (no m' (by rw [← e])).elim
    · rcases List.mem_cons.mp h' with e' | m'
      · exact (no m (by rw [← e'])).elim
      · exact inj1 nd.2 m m'
theorem call_post {vs : List V} {xs : List DV} {io back : List (Nat × Nat)} {g : Fn} {z : DV} {fin : SD} {Q : VK} {E : XK} {n : Nat} (p : Post K (PAll K vs xs) fv mv H Z Fs σ s1 H1 Z1 Fs1 F) (ok : IoOk io σ vs) (hb : backOk fv mv io back = true) (hn : xs.length = n) (eg : g xs = .ok (z, fin))
    (q : ∀ v H' Z' Fs' F', Post K (POne K v z) fv mv H Z Fs σ (putBack fin back s1) H' Z' Fs' F' → Q v H') : spF K n g vs H1 Q E := by
  unfold backOk at hb
  rw [Bool.and_eq_true, Bool.and_eq_true, List.all_eq_true] at hb
  obtain ⟨⟨hb, hb1⟩, hb2⟩ := hb
  have nd1 := ndup_ok hb1
  have nd2 := ndup_ok hb2
  have bk : ∀ {j i : Nat}, (j, i) ∈ back → i ∉ fv ∧ i ∈ mv ∧ (j, i) ∈ io := fun {j i} h => by
    have := hb _ h
    simp at this
    exact ⟨this.1.1, this.1.2, this.2⟩
  have hlen : vs.length = xs.length := OwnL.len p.held.pr
  obtain ⟨Fa, a1, a2, a3, a4⟩ := OwnL.each p.held.pr p.held.nd
  have aF : ∀ {j : Nat} {a : Addr}, a ∈ Fa j → a ∈ F := fun h => (a2 _).subset h
  have trF : ∀ a ∈ F, ∃ o, H1 a = some o ∧ Chg o := fun a ha => OwnL.isl p.held.pr a ha
  refine ⟨hlen.trans hn, Zf Z1 Fs1 fv, xs, Fa, z, fin, ⟨by simp [hlen], fun i d k e => ?_, fun i => p.held.nd.sublist (a2 i), a3, fun i a ha z => ?_, fun i a ha => trF a (aF ha), fun a z => ?_⟩, eg, fun v H2 Zc Fb F2 c => ?_⟩
  · rw [List.getElem?_map] at e
    cases q : xs[i]? with
    | none => rw [q] at e; cases e
    | some y =>
      rw [q] at e
      have e' : y = (d, k) := Option.some.inj (Option.some.inj e)
      rw [e'] at q
      obtain ⟨w, e1, ow⟩ := a1 i d k q
      exact ⟨w, by rw [List.getElem?_map, e1]; rfl, ow⟩
  · rcases z with z | ⟨j, _, z⟩
    · exact p.held.nz a (aF ha) z
    · exact p.held.nf a (aF ha) j z
  · rcases z with z | ⟨j, _, z⟩
    · exact p.good.zt a z
    · obtain ⟨o, e, _⟩ := p.good.isl j a z; exact ⟨o, e⟩
  · -- behind the call
    have cev : ∀ a o, H1 a = some o → (a ∉ F) → H2 a = some o := fun a o e n => c.tr.ev a o e fun i _ ha => n (aF ha)
    have cb : ∀ a, (H1 a = none ∨ ∃ i ∈ List.range n, a ∈ Fa i) → H1 a = none ∨ a ∈ F := fun a h => h.imp id fun ⟨i, _, h⟩ => aF h
    have cF : ∀ j, ∀ a ∈ Fb j, H1 a = none ∨ a ∈ F := fun j a ha => by
      by_cases m : j ∈ List.range n
      · exact cb a (c.tr.fb j m a ha)
      · rw [c.tr.fo j m] at ha
        exact .inr (aF ha)
    have cz : ∀ a, Zc a → Zf Z1 Fs1 fv a ∨ H1 a = none ∨ a ∈ F := fun a z => by
      rcases c.tr.zb a z with q | q | q
      · exact .inl q
      · exact .inr (.inl q)
      · exact .inr (cb a (.inr q))
    have off : ∀ a, (H1 a = none ∨ a ∈ F) → ∀ i, a ∉ Fs1 i := fun a h i z => by
      rcases h with h | h
      · obtain ⟨o, e, _⟩ := p.good.isl i a z; rw [h] at e; cases e
      · exact p.held.nf a h i z
    have nw : ∀ a, (H1 a = none ∨ a ∈ F) → H a = none ∨ ∃ i ∈ mv, a ∈ Fs i := fun a h => by
      rcases h with h | h
      · exact .inl (p.tr.dom a h)
      · exact p.new a h
    let F2s : Fp := fun i => match (back.find? fun q => q.2 == i) with | some q => Fb q.1 | none => Fs1 i
    let Z2 : Zs := fun a => Z1 a ∨ (Zc a ∧ ∀ i ∈ fv, a ∉ Fs1 i)
    have fAt : ∀ {j i : Nat}, (j, i) ∈ back → F2s i = Fb j := fun {j i} h => by
      show (match (back.find? fun q => q.2 == i) with | some q => Fb q.1 | none => Fs1 i) = Fb j
      cases e : back.find? fun q => q.2 == i with
      | none =>
        have := List.find?_eq_none.mp e (j, i) h
        simp at this
      | some q =>
        have m := List.mem_of_find?_eq_some e
        have t := List.find?_some e
        obtain ⟨q1, q2⟩ := q
        simp at t
        subst t
        rw [inj2 nd2 m h]
    have fNo : ∀ {i : Nat}, (∀ j, (j, i) ∉ back) → F2s i = Fs1 i := fun {i} h => by
      show (match (back.find? fun q => q.2 == i) with | some q => Fb q.1 | none => Fs1 i) = Fs1 i
      cases e : back.find? fun q => q.2 == i with
      | none => rfl
      | some q =>
        have m := List.mem_of_find?_eq_some e
        have t := List.find?_some e
        obtain ⟨q1, q2⟩ := q
        simp at t
        subst t
        exact absurd m (h q1)
    have fOr : ∀ i, (∃ j, (j, i) ∈ back) ∨ ∀ j, (j, i) ∉ back := fun i => by
      by_cases h : ∃ j, (j, i) ∈ back
      · exact .inl h
      · exact .inr fun j hj => h ⟨j, hj⟩
    have zBad : ∀ a, Z2 a → ∀ i, a ∉ Fs1 i := fun a z i ha => by
      rcases z with z | ⟨z, zn⟩
      · exact p.good.nz i a ha z
      · rcases cz a z with (q | ⟨j, hj, q⟩) | q
        · exact p.good.nz i a ha q
        · exact zn j hj q
        · exact off a q i ha
    have zc : ∀ a, Z2 a → Zc a := fun a z => by
      rcases z with z | z
      · exact c.tr.zm a (.inl z)
      · exact z.1
    have trk : ∀ a, (∃ o, H1 a = some o) → ∃ o, H2 a = some o := fun a ⟨o, e⟩ => by
      cases q : H2 a with
      | some u => exact ⟨u, rfl⟩
      | none => rw [c.tr.dom a q] at e; cases e
    have kpr : ∀ i, Kp (fun a => a ∈ Fs1 i ∨ Z1 a) H1 H2 := fun i a o e q => cev a o e fun ha => by
      rcases q with (q | q) | q
      · exact p.held.nf a ha i q
      · exact p.held.nz a ha q
      · obtain ⟨o', e', ch⟩ := trF a ha
        rw [e] at e'; cases e'
        exact q ch
    refine q v H2 Z2 F2s F2 ⟨⟨fun a o e nm => ?_, fun a e => p.tr.dom a (c.tr.dom a e), fun a z => .inl (p.tr.zm a z), fun a z => ?_, fun i hi => ?_, fun i hi a ha => ?_⟩, ⟨?_, fun i d k e => ?_, fun i => ?_, fun i j ne a ha hb => ?_, fun i a ha z => ?_, fun i a ha => ?_, fun a z => ?_⟩, ⟨?_, c.held.nd, fun a ha i z => ?_, fun a ha z => c.held.nz a ha (zc a z)⟩, fun a ha => nw a (cb a (c.new a ha))⟩
    · exact cev a o (p.tr.ev a o e nm) fun ha => by
        rcases p.new a ha with q | ⟨i, hi, q⟩
        · rw [e] at q; cases q
        · exact nm i hi q
    · rcases z with z | ⟨z, zn⟩
      · exact p.tr.zb a z
      · rcases cz a z with (q | ⟨j, hj, q⟩) | q
        · exact p.tr.zb a q
        · exact absurd q (zn j hj)
        · exact .inr (nw a q)
    · rw [fNo fun j hj => hi (bk hj).2.1]
      exact p.tr.fo i hi
    · rcases fOr i with ⟨j, hj⟩ | hj
      · rw [fAt hj] at ha
        exact nw a (cF j a ha)
      · rw [fNo hj] at ha
        exact p.tr.fb i hi a ha
    · rw [putBack_len]; exact p.good.len
    · rcases putBack_at fin back s1 i e with ⟨j, hj, ej, fl⟩ | ⟨hj, es⟩
      · obtain ⟨w, ew, ow⟩ := c.good.own j d k ej
        obtain ⟨w', e1, e2⟩ := ok _ (bk hj).2.2
        have ee : w' = w := by
          rw [List.getElem?_map, e1] at ew
          exact Option.some.inj (Option.some.inj ew)
        subst ee
        rw [fAt hj]
        exact ⟨w', e2, Own.lift d ow (full_iff.mp fl) (full_iff.mp fl)⟩
      · obtain ⟨w, ew, ow⟩ := p.good.own i d k es
        rw [fNo hj]
        exact ⟨w, ew, Own.zmono d (Own.keep d ow (kpr i)) fun a z => .inl z⟩
    · rcases fOr i with ⟨j, hj⟩ | hj
      · rw [fAt hj]; exact c.good.nd j
      · rw [fNo hj]; exact p.good.nd i
    · rcases fOr i with ⟨i', hi⟩ | hi
      · rw [fAt hi] at ha
        rcases fOr j with ⟨j', hj⟩ | hj
        · rw [fAt hj] at hb
          exact c.good.dj i' j' (fun e => ne (by subst e; exact inj1 nd1 hi hj)) a ha hb
        · rw [fNo hj] at hb
          exact off a (cF i' a ha) j hb
      · rw [fNo hi] at ha
        rcases fOr j with ⟨j', hj⟩ | hj
        · rw [fAt hj] at hb
          exact off a (cF j' a hb) i ha
        · rw [fNo hj] at hb
          exact p.good.dj i j ne a ha hb
    · rcases fOr i with ⟨j, hj⟩ | hj
      · rw [fAt hj] at ha
        exact c.good.nz j a ha (zc a z)
      · rw [fNo hj] at ha
        exact zBad a z i ha
    · rcases fOr i with ⟨j, hj⟩ | hj
      · rw [fAt hj] at ha; exact c.good.isl j a ha
      · rw [fNo hj] at ha
        obtain ⟨o, e, ch⟩ := p.good.isl i a ha
        exact ⟨o, kpr i a o e (.inl (.inl ha)), ch⟩
    · exact c.good.zt a (zc a z)
    · refine Own.zmono _ c.held.pr fun a z => ?_
      rcases z with z | ⟨i, hi, _⟩
      · by_cases m : ∃ i ∈ fv, a ∈ Fs1 i
        · obtain ⟨i, hi, m⟩ := m
          refine .inr ⟨i, hi, ?_⟩
          rw [fNo fun j hj => (bk hj).1 hi]
          exact m
        · exact .inl (.inr ⟨z, fun i hi z => m ⟨i, hi, z⟩⟩)
      · cases hi
    · rcases fOr i with ⟨j, hj⟩ | hj
      · rw [fAt hj] at z
        exact c.held.nf a ha j z
      · rw [fNo hj] at z
        exact off a (cb a (c.new a ha)) i z
end
section
variable {X : Cx} {e : Expr} {es : List Expr} {p pos : Pos} {fv mv : List Nat} {fs : Exs} {io : List (Nat × Nat)}
theorem evCall_imp {K : PySem.W.Frag} {g : Fn} {back : List (Nat × Nat)} {n : Nat} {σ : L2.St} {H : Hp} {Q : VK} {E : XK} (hn : ∀ xs r, g xs = .ok r → xs.length = n) (hb : backOk fv mv io back = true) (h : tE K fv mv (evCall g back fs) σ H Q) : tCall (spF K n g) [] E (tA K fv mv io fs) σ H Q := by
  obtain ⟨Z, s, Fs, z, s', gd, e, q⟩ := h
  unfold evCall at e
  obtain ⟨⟨xs, s1⟩, ea, e⟩ := Res.bind_eq_ok.mp e
  obtain ⟨⟨z', fin⟩, eg, e⟩ := Res.bind_eq_ok.mp e
  cases e
  refine ⟨Z, s, Fs, xs, s1, gd, ea, fun vs H1 Z1 Fs1 F p ok => ?_⟩
  show spF K n g (vs ++ []) H1 Q E
  rw [List.append_nil]
  exact call_post p ok hb (hn xs _ eg) eg q
theorem re_call {CX : CXT} {k n : Nat} {f : Addr} {fd : FuncData} {ps : List Str} {x : Str} {E : XK} {g : Fn} (F : FnOk X.prog X.w X.K X.mg X.base CX k f fd ps (spF X.K n g)) (hr : Room k X.A) (hg : Gl X x) (hm : X.mg x = some (.ref f)) (hk : PySem.W.keepIn X.K (.ref f) = true) (hb : Binds X.K fd ps []) (hx : Passes CX X E)
    (hn : ∀ xs r, g xs = .ok r → xs.length = n) (back : List (Nat × Nat)) (ha : PA X (e :: es) (tA X.K fv mv io fs)) (hbk : backOk fv mv io back = true := by rfl) (hdb : (x == ("__debug__" : Str)) = false := by decide) (he : starEach (e :: es) X.env = (false, eval e X.env) :: starEach es X.env := by rfl) (hpl : (backTo pos (starEach es X.env)).any (·.1) = false := by rfl) :
    PE X (.Call (.Name x p) (e :: es) [] pos) (tE X.K fv mv (evCall g back fs)) :=
  PE.of (pe_call F hr hg hm hk hb .nil hx ha hdb he hpl) fun σ H Q h => evCall_imp hn hbk h
end
end Sq
end

section
namespace Sq
open PySem PySem.Spec L2
inductive Fl where
  | next
  | ret (x : DV)
  | brk
  | cont
abbrev Sx := SD → Res (Fl × SD)
def settle (fv : List Nat) (x : DV) (s : SD) : SD := if full x then s else demote fv s
def sAsg (i : Nat) (fv : List Nat) (a : Ex) : Sx := fun s => do
  let (x, s) ← a s
  .ok (.next, (settle fv x s).set i (some x))
def sExpr (a : Ex) : Sx := fun s => do
  let (_, s) ← a s
  .ok (.next, s)
def sRet (fv : List Nat) (a : Ex) : Sx := fun s => do
  let (x, s) ← a s
  .ok (.ret x, settle fv x s)
def sRetN : Sx := fun s => .ok (.ret (.none, 0), s)
def sBrk : Sx := fun s => .ok (.brk, s)
def sBad : Sx := fun _ => .bad
def sSkip : Sx := fun s => .ok (.next, s)
def sSeq (a b : Sx) : Sx := fun s => do
  let (fl, s) ← a s
  match fl with
  | .next => b s
  | fl => .ok (fl, s)
def sIf (c : Tst) (a b : Sx) : Sx := fun s => do
  let (t, s) ← c s
  if t then a s else b s
/-- a def: its slots at the start, its parameters in the end (pk: those that are never bound anew) -/
def start1 (n : Nat) (xs : List DV) : SD := xs.map some ++ List.replicate (n - xs.length) none
def finP (np : Nat) (asg : List Nat) (s : SD) : SD := (List.range np).map fun i => if i ∈ asg then none else (s[i]?).getD none
def defn (n np : Nat) (asg : List Nat) (body : Sx) : Fn := fun xs => if xs.length = np then (do
  let (fl, s) ← body (start1 n xs)
  match fl with
  | .ret x => .ok (x, finP np asg s)
  | .next => .ok ((.none, 0), finP np asg s)
  | _ => .bad) else .bad

structure PostS (K : PySem.W.Frag) (asg mv : List Nat) (σ : L2.St) (H : Hp) (Z : Zs) (Fs : Fp) (σ' : L2.St) (s' : SD) (H' : Hp) (Z' : Zs) (Fs' : Fp) : Prop where
  tr : Tr mv H Z Fs H' Z' Fs'
  good : Good K Z' H' σ' s' Fs'
  st : ∀ i, i ∉ asg → σ'[i]? = σ[i]?
  ln : σ'.length = σ.length
def EndS (K : PySem.W.Frag) (asg mv : List Nat) (σ : L2.St) (H : Hp) (Z : Zs) (Fs : Fp) (s' : SD) (D : Ends) : Fl → Prop
  | .next => ∀ σ' H' Z' Fs', PostS K asg mv σ H Z Fs σ' s' H' Z' Fs' → D.nx σ' H'
  | .brk => ∀ σ' H' Z' Fs', PostS K asg mv σ H Z Fs σ' s' H' Z' Fs' → D.bk σ' H'
  | .cont => ∀ σ' H' Z' Fs', PostS K asg mv σ H Z Fs σ' s' H' Z' Fs' → D.ct σ' H'
  | .ret x => ∀ v σ' H' Z' Fs' F, PostS K asg mv σ H Z Fs σ' s' H' Z' Fs' → Held (POne K v x) [] H' Z' Fs' F → (∀ a ∈ F, H a = none ∨ ∃ i ∈ mv, a ∈ Fs i) → D.rt v H'
def tS (K : PySem.W.Frag) (asg mv : List Nat) (f : Sx) : TS := fun D σ H => ∃ Z s Fs fl s', Good K Z H σ s Fs ∧ f s = .ok (fl, s') ∧ EndS K asg mv σ H Z Fs s' D fl

section
variable {K : PySem.W.Frag} {Z Z1 Z2 : Zs} {H H1 H2 : Hp} {Fs Fs1 Fs2 : Fp} {σ σ1 σ2 : L2.St} {s s' s1 s2 : SD} {F F2 : List Addr} {fv mv asg a1 a2 m1 m2 : List Nat} {x : DV} {v : V} {P : Pr}
theorem PostS.trans (p : PostS K a1 m1 σ H Z Fs σ1 s1 H1 Z1 Fs1) (q : PostS K a2 m2 σ1 H1 Z1 Fs1 σ2 s2 H2 Z2 Fs2) : PostS K (a1 ++ a2) (m1 ++ m2) σ H Z Fs σ2 s2 H2 Z2 Fs2 where
  tr := p.tr.trans q.tr (fun i hi => List.mem_append_left _ hi) (fun i hi => List.mem_append_right _ hi)
  good := q.good
  st := fun i hi => (q.st i fun z => hi (List.mem_append_right _ z)).trans (p.st i fun z => hi (List.mem_append_left _ z))
  ln := q.ln.trans p.ln
theorem PostS.weak (p : PostS K a1 m1 σ H Z Fs σ1 s1 H1 Z1 Fs1) (ha : ∀ i ∈ a1, i ∈ a2) (hm : ∀ i ∈ m1, i ∈ m2) : PostS K a2 m2 σ H Z Fs σ1 s1 H1 Z1 Fs1 := ⟨p.tr.weak hm, p.good, fun i hi => p.st i fun z => hi (ha i z), p.ln⟩
theorem newBack (p : Tr m1 H Z Fs H1 Z1 Fs1) {a : Addr} (h : H1 a = none ∨ ∃ i ∈ m2, a ∈ Fs1 i) : H a = none ∨ ∃ i ∈ m1 ++ m2, a ∈ Fs i := by
  rcases h with q | ⟨i, hi, q⟩
  · exact .inl (p.dom a q)
  · by_cases m : i ∈ m1
    · exact (p.fb i m a q).imp id fun ⟨j, hj, q⟩ => ⟨j, List.mem_append_left _ hj, q⟩
    · rw [p.fo i m] at q
      exact .inr ⟨i, List.mem_append_right _ hi, q⟩
theorem EndS.trans (p : PostS K a1 m1 σ H Z Fs σ1 s1 H1 Z1 Fs1) {D : Ends} {fl : Fl} (e : EndS K (a1 ++ a2) (m1 ++ m2) σ H Z Fs s2 D fl) : EndS K a2 m2 σ1 H1 Z1 Fs1 s2 D fl := by
  cases fl with
  | next => exact fun σ' H' Z' Fs' q => e σ' H' Z' Fs' (p.trans q)
  | brk => exact fun σ' H' Z' Fs' q => e σ' H' Z' Fs' (p.trans q)
  | cont => exact fun σ' H' Z' Fs' q => e σ' H' Z' Fs' (p.trans q)
  | ret x => exact fun v σ' H' Z' Fs' F q h n => e v σ' H' Z' Fs' F (p.trans q) h fun a ha => newBack p.tr (n a ha)
theorem EndS.weak {D : Ends} {fl : Fl} (e : EndS K a2 m2 σ H Z Fs s2 D fl) (ha : ∀ i ∈ a1, i ∈ a2) (hm : ∀ i ∈ m1, i ∈ m2) : EndS K a1 m1 σ H Z Fs s2 D fl := by
  cases fl with
  | next => exact fun σ' H' Z' Fs' q => e σ' H' Z' Fs' (q.weak ha hm)
  | brk => exact fun σ' H' Z' Fs' q => e σ' H' Z' Fs' (q.weak ha hm)
  | cont => exact fun σ' H' Z' Fs' q => e σ' H' Z' Fs' (q.weak ha hm)
  | ret x => exact fun v σ' H' Z' Fs' F q h n => e v σ' H' Z' Fs' F (q.weak ha hm) h fun a h => (n a h).imp id fun ⟨i, hi, q⟩ => ⟨i, hm i hi, q⟩
theorem Post.stm (p : Post K P fv mv H Z Fs σ s1 H1 Z1 Fs1 F) : PostS K [] mv σ H Z Fs σ s1 H1 Z1 Fs1 := ⟨p.tr, p.good, fun _ _ => rfl, rfl⟩
/-- slots whose things are shared from now on -/
theorem Good.demote (g : Good K Z H σ s Fs) (is : List Nat) : Good K (Zf Z Fs is) H σ (demote is s) (fun i => if i ∈ is then [] else Fs i) where
  len := by unfold Sq.demote; rw [List.length_mapIdx]; exact g.len
  own := fun i d k e => by
    unfold Sq.demote at e
    rw [List.getElem?_mapIdx] at e
    cases q : s[i]? with
    | none => rw [q] at e; cases e
    | some o =>
      rw [q] at e
      have e' : (if i ∈ is then o.map fun x => (x.1, 0) else o) = some (d, k) := Option.some.inj e
      by_cases m : i ∈ is
      · rw [if_pos m] at e' ⊢
        cases o with
        | none => cases e'
        | some y =>
          have e2 := Option.some.inj e'
          obtain ⟨v, ev, ow⟩ := g.own i y.1 y.2 q
          cases e2
          exact ⟨v, ev, Own.zmono _ (ow.share (g.nd i)) fun a z => z.imp id fun z => ⟨i, m, z⟩⟩
      · rw [if_neg m] at e' ⊢
        subst e'
        obtain ⟨v, ev, ow⟩ := g.own i d k q
        exact ⟨v, ev, Own.zmono _ ow fun a z => .inl z⟩
  nd := fun i => by
    by_cases m : i ∈ is
    · rw [if_pos m]; exact List.nodup_nil
    · rw [if_neg m]; exact g.nd i
  dj := fun i j n a ha hb => by
    by_cases m : i ∈ is
    · rw [if_pos m] at ha; cases ha
    · rw [if_neg m] at ha
      by_cases m2 : j ∈ is
      · rw [if_pos m2] at hb; cases hb
      · rw [if_neg m2] at hb; exact g.dj i j n a ha hb
  nz := fun i a ha z => by
    by_cases m : i ∈ is
    · rw [if_pos m] at ha; cases ha
    · rw [if_neg m] at ha
      rcases z with z | ⟨j, hj, z⟩
      · exact g.nz i a ha z
      · exact g.dj i j (fun e => m (e ▸ hj)) a ha z
  isl := fun i a ha => by
    by_cases m : i ∈ is
    · rw [if_pos m] at ha; cases ha
    · rw [if_neg m] at ha; exact g.isl i a ha
  zt := fun a z => by
    rcases z with z | ⟨j, _, z⟩
    · exact g.zt a z
    · obtain ⟨o, e, _⟩ := g.isl j a z; exact ⟨o, e⟩
theorem Tr.demote (is : List Nat) : Tr is H Z Fs H (Zf Z Fs is) (fun i => if i ∈ is then [] else Fs i) :=
  ⟨fun _ _ e _ => e, fun _ e => e, fun _ z => .inl z, fun a z => z.imp id fun z => .inr z, fun i hi => if_neg hi, fun i hi a ha => by rw [if_pos hi] at ha; cases ha⟩
/-- what is kept is shared with no slot -/
theorem Post.settle (p : Post K (POne K v x) fv mv H Z Fs σ s1 H1 Z1 Fs1 F) : ∃ Z2 Fs2, Post K (POne K v x) [] (mv ++ fv) H Z Fs σ (settle fv x s1) H1 Z2 Fs2 F ∧ ∀ i, Fs2 i = Fs1 i ∨ ∀ d k, (settle fv x s1)[i]? = some (some (d, k)) → k = 0 := by
  by_cases f : full x = true
  · refine ⟨Z1, Fs1, ?_, fun i => .inl rfl⟩
    have e : Sq.settle fv x s1 = s1 := by unfold Sq.settle; rw [if_pos f]
    rw [e]
    exact ⟨p.tr.weak fun i hi => List.mem_append_left _ hi, p.good, ⟨Own.lift _ p.held.pr (full_iff.mp f) (full_iff.mp f), p.held.nd, p.held.nf, p.held.nz⟩, fun a ha => (p.new a ha).imp id fun ⟨i, hi, q⟩ => ⟨i, List.mem_append_left _ hi, q⟩⟩
  · refine ⟨Zf Z1 Fs1 fv, _, ⟨p.tr.trans (Tr.demote fv) (fun i hi => List.mem_append_left _ hi) (fun i hi => List.mem_append_right _ hi), ?_, ⟨Own.zmono _ p.held.pr fun a z => .inl z, p.held.nd, fun a ha i z => ?_, fun a ha z => ?_⟩, fun a ha => (p.new a ha).imp id fun ⟨i, hi, q⟩ => ⟨i, List.mem_append_left _ hi, q⟩⟩, fun i => ?_⟩
    · unfold Sq.settle
      rw [if_neg f]
      exact p.good.demote fv
    · by_cases m : i ∈ fv
      · rw [if_pos m] at z; cases z
      · rw [if_neg m] at z; exact p.held.nf a ha i z
    · rcases z with z | ⟨i, _, z⟩
      · exact p.held.nz a ha z
      · exact p.held.nf a ha i z
    · by_cases m : i ∈ fv
      · refine .inr fun d k e => ?_
        unfold Sq.settle at e
        rw [if_neg f] at e
        unfold Sq.demote at e
        rw [List.getElem?_mapIdx] at e
        cases q : s1[i]? with
        | none => rw [q] at e; cases e
        | some o =>
          rw [q] at e
          have e' : (if i ∈ fv then o.map fun x => (x.1, 0) else o) = some (d, k) := Option.some.inj e
          rw [if_pos m] at e'
          cases o with
          | none => cases e'
          | some y => cases e'; rfl
      · exact .inl (if_neg m)
/-- a held thing is put into a slot -/
theorem Post.put (p : Post K (POne K v x) [] mv H Z Fs σ s1 H1 Z1 Fs1 F) (i : Nat) : PostS K [i] (mv ++ [i]) σ H Z Fs (σ.set i (some v)) (s1.set i (some x)) H1 Z1 (fun j => if j = i then F else Fs1 j) := by
  have hz : ∀ {a : Addr}, Zf Z1 Fs1 [] a → Z1 a := fun {a} z => by
    rcases z with z | ⟨_, h, _⟩
    · exact z
    · cases h
  have ow : Own K Z1 H1 x.2 v x.1 F := Own.zmono _ p.held.pr fun a z => hz z
  have il : ∀ a ∈ F, ∃ o, H1 a = some o ∧ Chg o := fun a ha => Own.isl _ ow a ha
  refine ⟨⟨fun a o e n => p.tr.ev a o e fun j hj => n j (List.mem_append_left _ hj), p.tr.dom, p.tr.zm, fun a z => (p.tr.zb a z).imp id fun z => z.imp id fun ⟨j, hj, q⟩ => ⟨j, List.mem_append_left _ hj, q⟩, fun j hj => ?_, fun j hj a ha => ?_⟩, ⟨by rw [List.length_set, List.length_set]; exact p.good.len, fun j d k e => ?_, fun j => ?_, fun j l n a ha hb => ?_, fun j a ha z => ?_, fun j a ha => ?_, p.good.zt⟩, fun j hj => ?_, by rw [List.length_set]⟩
  · have n1 : j ≠ i := fun e => hj (List.mem_append_right _ (by rw [e]; exact List.mem_singleton.mpr rfl))
    rw [if_neg n1]
    exact p.tr.fo j fun z => hj (List.mem_append_left _ z)
  · by_cases q : j = i
    · rw [if_pos q] at ha
      exact (p.new a ha).imp id fun ⟨l, hl, z⟩ => ⟨l, List.mem_append_left _ hl, z⟩
    · rw [if_neg q] at ha
      by_cases m : j ∈ mv
      · exact (p.tr.fb j m a ha).imp id fun ⟨l, hl, z⟩ => ⟨l, List.mem_append_left _ hl, z⟩
      · rw [p.tr.fo j m] at ha
        exact .inr ⟨j, hj, ha⟩
  · by_cases q : j = i
    · subst q
      by_cases l : j < s1.length
      · rw [List.getElem?_set_self l] at e
        have e' := Option.some.inj (Option.some.inj e)
        subst e'
        rw [if_pos rfl]
        exact ⟨v, List.getElem?_set_self (by rw [← p.good.len]; exact l), ow⟩
      · rw [List.getElem?_eq_none (by simpa using l)] at e; cases e
    · rw [List.getElem?_set_ne (Ne.symm q)] at e
      rw [if_neg q, List.getElem?_set_ne (Ne.symm q)]
      exact p.good.own j d k e
  · by_cases q : j = i
    · rw [if_pos q]; exact p.held.nd
    · rw [if_neg q]; exact p.good.nd j
  · by_cases q : j = i
    · rw [if_pos q] at ha
      rw [if_neg (fun e => n (q.trans e.symm))] at hb
      exact p.held.nf a ha l hb
    · rw [if_neg q] at ha
      by_cases q2 : l = i
      · rw [if_pos q2] at hb
        exact p.held.nf a hb j ha
      · rw [if_neg q2] at hb
        exact p.good.dj j l n a ha hb
  · by_cases q : j = i
    · rw [if_pos q] at ha; exact p.held.nz a ha z
    · rw [if_neg q] at ha; exact p.good.nz j a ha z
  · by_cases q : j = i
    · rw [if_pos q] at ha; exact il a ha
    · rw [if_neg q] at ha; exact p.good.isl j a ha
  · exact List.getElem?_set_ne fun e => hj (by rw [← e]; exact List.mem_singleton.mpr rfl)
end
section
variable {X : Cx} {e : Expr} {pos : Pos} {fv mv asg a1 a2 m1 m2 : List Nat} {f : Ex} {st : Stmt} {sts : List Stmt} {f1 f2 : Sx} {c : Tst}
theorem rs_nil : PSs X [] (tS X.K [] [] sSkip) := by
  refine PSs.of pss_nil fun D σ H h => ?_
  obtain ⟨Z, s, Fs, fl, s', gd, e, q⟩ := h
  cases e
  exact q σ H Z Fs ⟨Tr.refl _, gd, fun _ _ => rfl, rfl⟩
theorem rs_cons (h1 : PS X st (tS X.K a1 m1 f1)) (h2 : PSs X sts (tS X.K a2 m2 f2)) : PSs X (st :: sts) (tS X.K (a1 ++ a2) (m1 ++ m2) (sSeq f1 f2)) := by
  refine PSs.of (pss_cons h1 h2) fun D σ H h => ?_
  obtain ⟨Z, s, Fs, fl, s', gd, e, q⟩ := h
  unfold sSeq at e
  obtain ⟨⟨fl1, s1⟩, ea, e⟩ := Res.bind_eq_ok.mp e
  refine ⟨Z, s, Fs, fl1, s1, gd, ea, ?_⟩
  cases fl1 with
  | next => exact fun σ1 H1 Z1 Fs1 p => ⟨Z1, s1, Fs1, fl, s', p.good, e, EndS.trans p q⟩
  | brk => cases e; exact EndS.weak (fl := .brk) q (fun i hi => List.mem_append_left _ hi) (fun i hi => List.mem_append_left _ hi)
  | cont => cases e; exact EndS.weak (fl := .cont) q (fun i hi => List.mem_append_left _ hi) (fun i hi => List.mem_append_left _ hi)
  | ret x => cases e; exact EndS.weak (fl := .ret x) q (fun i hi => List.mem_append_left _ hi) (fun i hi => List.mem_append_left _ hi)
theorem rs_one (h1 : PS X st (tS X.K a1 m1 f1)) : PSs X [st] (tS X.K a1 m1 f1) := pss_one h1
theorem rs_if {ce : Expr} {a b : List Stmt} {mc : List Nat} (hc : PT X ce (tT X.K mc c)) (ha : PSs X a (tS X.K a1 m1 f1)) (hb : PSs X b (tS X.K a2 m2 f2)) : PS X (.If ce a b pos) (tS X.K (a1 ++ a2) (mc ++ (m1 ++ m2)) (sIf c f1 f2)) := by
  refine PS.of (ps_if hc ha hb) fun D σ H h => ?_
  obtain ⟨Z, s, Fs, fl, s', gd, e, q⟩ := h
  unfold sIf at e
  obtain ⟨⟨t, s1⟩, ea, e⟩ := Res.bind_eq_ok.mp e
  refine ⟨Z, s, Fs, t, s1, gd, ea, fun H1 Z1 Fs1 p => ?_⟩
  have q' := EndS.trans (a1 := []) (a2 := a1 ++ a2) p.stm q
  cases t with
  | true =>
    show if true = true then _ else _
    rw [if_pos rfl]
    exact ⟨Z1, s1, Fs1, fl, s', p.good, e, q'.weak (fun i hi => List.mem_append_left _ hi) (fun i hi => List.mem_append_left _ hi)⟩
  | false =>
    show if false = true then _ else _
    rw [if_neg Bool.false_ne_true]
    exact ⟨Z1, s1, Fs1, fl, s', p.good, e, q'.weak (fun i hi => List.mem_append_right _ hi) (fun i hi => List.mem_append_right _ hi)⟩
theorem asg_imp {K : PySem.W.Frag} {i : Nat} {D : Ends} {σ : L2.St} {H : Hp} (h : tS K [i] (mv ++ fv ++ [i]) (sAsg i fv f) D σ H) : tE K fv mv f σ H fun x H1 => D.nx (σ.set i (some x)) H1 := by
  obtain ⟨Z, s, Fs, fl, s', gd, e, q⟩ := h
  unfold sAsg at e
  obtain ⟨⟨x, s1⟩, ea, e⟩ := Res.bind_eq_ok.mp e
  cases e
  refine ⟨Z, s, Fs, x, s1, gd, ea, fun v H1 Z1 Fs1 F p => ?_⟩
  obtain ⟨Z2, Fs2, p2, _⟩ := p.settle
  exact q _ H1 Z2 _ (p2.put i)
theorem rs_asg {i : Nat} {x : Str} {pos' : Pos} (hN : X.N.Nodup) (hi : X.N[i]? = some x) (hx : Loc X.env.scope x) (he : PE X e (tE X.K fv mv f)) (hs : swapsWith e (some (.Name x pos')) pos.line X.env = pure false := by rfl) (hf : X.fn x = true ∨ X.env.scope.names.lookup x = some .local := by first | exact .inl rfl | exact .inr rfl | assumption) :
    PS X (.Assign [.Name x pos'] e pos) (tS X.K [i] (mv ++ fv ++ [i]) (sAsg i fv f)) :=
  PS.of (ps_set hN hi hx he hs hf) fun D σ H h => asg_imp h
theorem rs_expr (he : PE X e (tE X.K fv mv f)) (hs : swapsWith e none pos.line X.env = pure false := by rfl) : PS X (.Expr e pos) (tS X.K [] mv (sExpr f)) := by
  refine PS.of (ps_expr he hs) fun D σ H h => ?_
  obtain ⟨Z, s, Fs, fl, s', gd, e, q⟩ := h
  unfold sExpr at e
  obtain ⟨⟨x, s1⟩, ea, e⟩ := Res.bind_eq_ok.mp e
  cases e
  exact ⟨Z, s, Fs, x, _, gd, ea, fun v H1 Z1 Fs1 F p => q σ H1 Z1 Fs1 p.stm⟩
theorem rs_ret (he : PE X e (tE X.K fv mv f)) : PS X (.Return (some e) pos) (tS X.K [] (mv ++ fv) (sRet fv f)) := by
  refine PS.of (ps_ret he) fun D σ H h => ?_
  obtain ⟨Z, s, Fs, fl, s', gd, e, q⟩ := h
  unfold sRet at e
  obtain ⟨⟨x, s1⟩, ea, e⟩ := Res.bind_eq_ok.mp e
  cases e
  refine ⟨Z, s, Fs, x, s1, gd, ea, fun v H1 Z1 Fs1 F p => ?_⟩
  obtain ⟨Z2, Fs2, p2, _⟩ := p.settle
  exact q v σ H1 Z2 Fs2 F p2.stm p2.held p2.new
theorem rs_never : PS X st (tS X.K [] [] sBad) := PS.of ps_never fun D σ H h => by
  obtain ⟨Z, s, Fs, fl, s', gd, e, q⟩ := h
  cases e
theorem rs_break : PS X (.Break pos) (tS X.K [] [] sBrk) := by
  refine PS.of ps_break fun D σ H h => ?_
  obtain ⟨Z, s, Fs, fl, s', gd, e, q⟩ := h
  cases e
  exact q σ H Z Fs ⟨Tr.refl _, gd, fun _ _ => rfl, rfl⟩
end
/-! ### a def -/
theorem start1_len {n : Nat} {xs : List DV} (h : xs.length ≤ n) : (start1 n xs).length = n := by
  unfold start1
  rw [List.length_append, List.length_map, List.length_replicate]
  omega
theorem start_eq {N : List Str} {vs : List V} : L2.start N vs = vs.map some ++ List.replicate (N.length - vs.length) none := rfl
theorem defn_len {n np : Nat} {asg : List Nat} {body : Sx} {xs : List DV} {r : DV × SD} (h : defn n np asg body xs = .ok r) : xs.length = np := by
  unfold defn at h
  split at h
  · assumption
  · cases h
theorem finP_at {np : Nat} {asg : List Nat} {s : SD} {j : Nat} {x : DV} (h : (finP np asg s)[j]? = some (some x)) : j < np ∧ j ∉ asg ∧ s[j]? = some (some x) := by
  unfold finP at h
  rw [List.getElem?_map] at h
  by_cases l : j < np
  · rw [List.getElem?_range l] at h
    have h' : (if j ∈ asg then none else (s[j]?).getD none) = some x := Option.some.inj h
    by_cases m : j ∈ asg
    · rw [if_pos m] at h'; cases h'
    · rw [if_neg m] at h'
      cases q : s[j]? with
      | none => rw [q] at h'; cases h'
      | some o => rw [q] at h'; exact ⟨l, m, congrArg some h'⟩
  · rw [List.getElem?_eq_none (by simpa using l)] at h; cases h
theorem start_good {K : PySem.W.Frag} {Z : Zs} {H : Hp} {vs : List V} {ds : List DV} {Fa : Fp} (n : Nat) (g : Good K Z H (vs.map some) (ds.map some) Fa) : Good K Z H (vs.map some ++ List.replicate (n - vs.length) none) (start1 n ds) Fa := by
  have l : vs.length = ds.length := by have := g.len; simpa using this.symm
  refine ⟨by unfold start1; simp [l], fun i d k e => ?_, g.nd, g.dj, g.nz, g.isl, g.zt⟩
  unfold start1 at e
  by_cases q : i < ds.length
  · rw [List.getElem?_append_left (by simpa using q)] at e
    obtain ⟨v, ev, ow⟩ := g.own i d k e
    exact ⟨v, by rw [List.getElem?_append_left (by simpa [l] using q)]; exact ev, ow⟩
  · rw [List.getElem?_append_right (by simpa using q)] at e
    have := List.getElem?_eq_some_iff.mp e
    obtain ⟨_, this⟩ := this
    simp at this
theorem def_ok {K : PySem.W.Frag} {n np : Nat} {asg mv : List Nat} {body : Sx} {vs : List V} {H : Hp} {Q : VK} {E : XK} (h : spF K np (defn n np asg body) vs H Q E) (hm : ∀ i ∈ mv, i < np ∨ True) :
    tS K asg mv body { nx := fun _ H' => Q .non H', rt := Q } (vs.map some ++ List.replicate (n - vs.length) none) H := by
  obtain ⟨hl, Z, ds, Fa, z, fin, g, eg, q⟩ := h
  have hds := defn_len eg
  have l : vs.length = ds.length := by have := g.len; simpa using this.symm
  unfold defn at eg
  rw [if_pos hds] at eg
  obtain ⟨⟨fl, s⟩, eb, eg⟩ := Res.bind_eq_ok.mp eg
  -- what lies beyond the parameters was nothing: footprints of slots from np on can be taken as none
  let Fb : Fp := fun i => if i < np then Fa i else []
  have g0 : Good K Z H (vs.map some) (ds.map some) Fb := by
    refine ⟨g.len, fun i d k e => ?_, fun i => ?_, fun i j ne a ha hb => ?_, fun i a ha => ?_, fun i a ha => ?_, g.zt⟩
    · have lt : i < np := by
        have := List.getElem?_eq_some_iff.mp e
        obtain ⟨h1, _⟩ := this
        simp at h1
        omega
      obtain ⟨v, ev, ow⟩ := g.own i d k e
      exact ⟨v, ev, by show Own K Z H k v d (if i < np then Fa i else []); rw [if_pos lt]; exact ow⟩
    · show (if i < np then Fa i else []).Nodup
      by_cases lt : i < np
      · rw [if_pos lt]; exact g.nd i
      · rw [if_neg lt]; exact List.nodup_nil
    · have ha' : a ∈ (if i < np then Fa i else []) := ha
      have hb' : a ∈ (if j < np then Fa j else []) := hb
      by_cases lt : i < np
      · rw [if_pos lt] at ha'
        by_cases lt2 : j < np
        · rw [if_pos lt2] at hb'; exact g.dj i j ne a ha' hb'
        · rw [if_neg lt2] at hb'; cases hb'
      · rw [if_neg lt] at ha'; cases ha'
    · have ha' : a ∈ (if i < np then Fa i else []) := ha
      by_cases lt : i < np
      · rw [if_pos lt] at ha'; exact g.nz i a ha'
      · rw [if_neg lt] at ha'; cases ha'
    · have ha' : a ∈ (if i < np then Fa i else []) := ha
      by_cases lt : i < np
      · rw [if_pos lt] at ha'; exact g.isl i a ha'
      · rw [if_neg lt] at ha'; cases ha'
  have fin_ok : ∀ {σ' : L2.St} {H' : Hp} {Z' : Zs} {Fs' : Fp} {v : V} {x : DV} {F : List Addr}, PostS K asg mv (vs.map some ++ List.replicate (n - vs.length) none) H Z Fb σ' s H' Z' Fs' → Held (POne K v x) [] H' Z' Fs' F → (∀ a ∈ F, H a = none ∨ ∃ i ∈ mv, a ∈ Fb i) →
      Post K (POne K v x) [] (List.range np) H Z Fa (vs.map some) (finP np asg s) H' Z' (fun i => if i < np then (if i ∈ asg then [] else Fs' i) else Fa i) F := by
    intro σ' H' Z' Fs' v x F p h nw
    have up : ∀ {a : Addr} {i : Nat}, a ∈ Fb i → i ∈ List.range np ∧ a ∈ Fa i := fun {a i} ha => by
      have ha' : a ∈ (if i < np then Fa i else []) := ha
      by_cases lt : i < np
      · rw [if_pos lt] at ha'; exact ⟨List.mem_range.mpr lt, ha'⟩
      · rw [if_neg lt] at ha'; cases ha'
    have fromM : ∀ {a : Addr} {m : List Nat}, (H a = none ∨ ∃ i ∈ m, a ∈ Fb i) → H a = none ∨ ∃ i ∈ List.range np, a ∈ Fa i := fun h => h.imp id fun ⟨i, _, q⟩ => ⟨i, up q⟩
    have fs : ∀ (i : Nat) (a : Addr), a ∈ (if i < np then (if i ∈ asg then [] else Fs' i) else []) → i < np ∧ i ∉ asg ∧ a ∈ Fs' i := fun i a ha => by
      by_cases lt : i < np
      · rw [if_pos lt] at ha
        by_cases m : i ∈ asg
        · rw [if_pos m] at ha; cases ha
        · rw [if_neg m] at ha; exact ⟨lt, m, ha⟩
      · rw [if_neg lt] at ha; cases ha
    have old : ∀ (i : Nat) (a : Addr), ¬ i < np → a ∈ Fa i → ∃ o, H' a = some o ∧ Chg o := fun i a lt ha => by
      obtain ⟨o, e, c⟩ := g.isl i a ha
      refine ⟨o, p.tr.ev a o e fun j hj hb => ?_, c⟩
      obtain ⟨h1, h2⟩ := up hb
      exact g.dj i j (fun e => lt (e ▸ List.mem_range.mp h1)) a ha h2
    have oldFs : ∀ (i j : Nat) (a : Addr), ¬ i < np → a ∈ Fa i → a ∉ Fs' j := fun i j a lt ha hb => by
      by_cases m : j ∈ mv
      · rcases fromM (p.tr.fb j m a hb) with q | ⟨l, hl, q⟩
        · obtain ⟨o, e, _⟩ := g.isl i a ha; rw [e] at q; cases q
        · exact g.dj i l (fun e => lt (e ▸ List.mem_range.mp hl)) a ha q
      · rw [p.tr.fo j m] at hb
        obtain ⟨h1, h2⟩ := up hb
        exact g.dj i j (fun e => lt (e ▸ List.mem_range.mp h1)) a ha h2
    have oldZ : ∀ (i : Nat) (a : Addr), ¬ i < np → a ∈ Fa i → ¬ Z' a := fun i a lt ha z => by
      rcases p.tr.zb a z with q | q | ⟨l, hl, q⟩
      · exact g.nz i a ha q
      · obtain ⟨o, e, _⟩ := g.isl i a ha; rw [e] at q; cases q
      · obtain ⟨h1, h2⟩ := up q
        exact g.dj i l (fun e => lt (e ▸ List.mem_range.mp h1)) a ha h2
    refine ⟨⟨fun a o e nm => p.tr.ev a o e fun i hi ha => nm i (up ha).1 (up ha).2, p.tr.dom, p.tr.zm, fun a z => (p.tr.zb a z).imp id fun z => fromM z, fun i hi => ?_, fun i hi a ha => ?_⟩, ⟨?_, fun i d k e => ?_, fun i => ?_, fun i j ne a ha hb => ?_, fun i a ha => ?_, fun i a ha => ?_, p.good.zt⟩, ⟨?_, h.nd, fun a ha i hb => ?_, h.nz⟩, fun a ha => fromM (nw a ha)⟩
    · show (if i < np then _ else Fa i) = Fa i
      rw [if_neg (fun z => hi (List.mem_range.mpr z))]
    · have lt := List.mem_range.mp hi
      have ha' : a ∈ (if i < np then (if i ∈ asg then [] else Fs' i) else []) := by
        have : a ∈ (if i < np then (if i ∈ asg then [] else Fs' i) else Fa i) := ha
        rw [if_pos lt] at this ⊢; exact this
      obtain ⟨_, _, q⟩ := fs i a ha'
      by_cases m : i ∈ mv
      · exact fromM (p.tr.fb i m a q)
      · rw [p.tr.fo i m] at q
        exact .inr ⟨i, hi, (up q).2⟩
    · unfold finP; simp [hl]
    · obtain ⟨lt, na, es⟩ := finP_at e
      obtain ⟨w, ew, ow⟩ := p.good.own i d k es
      rw [p.st i na, List.getElem?_append_left (by simpa [hl] using lt)] at ew
      refine ⟨w, ew, ?_⟩
      show Own K Z' H' k w d (if i < np then (if i ∈ asg then [] else Fs' i) else Fa i)
      rw [if_pos lt, if_neg na]
      exact ow
    · show (if i < np then (if i ∈ asg then [] else Fs' i) else Fa i).Nodup
      by_cases lt : i < np
      · rw [if_pos lt]
        by_cases m : i ∈ asg
        · rw [if_pos m]; exact List.nodup_nil
        · rw [if_neg m]; exact p.good.nd i
      · rw [if_neg lt]; exact g.nd i
    · have ha' : a ∈ (if i < np then (if i ∈ asg then [] else Fs' i) else Fa i) := ha
      have hb' : a ∈ (if j < np then (if j ∈ asg then [] else Fs' j) else Fa j) := hb
      by_cases lt : i < np
      · obtain ⟨_, _, q⟩ := fs i a (by rw [if_pos lt] at ha' ⊢; exact ha')
        by_cases lt2 : j < np
        · obtain ⟨_, _, q2⟩ := fs j a (by rw [if_pos lt2] at hb' ⊢; exact hb')
          exact p.good.dj i j ne a q q2
        · rw [if_neg lt2] at hb'
          exact oldFs j i a lt2 hb' q
      · rw [if_neg lt] at ha'
        by_cases lt2 : j < np
        · obtain ⟨_, _, q2⟩ := fs j a (by rw [if_pos lt2] at hb' ⊢; exact hb')
          exact oldFs i j a lt ha' q2
        · rw [if_neg lt2] at hb'
          exact g.dj i j ne a ha' hb'
    · have ha' : a ∈ (if i < np then (if i ∈ asg then [] else Fs' i) else Fa i) := ha
      by_cases lt : i < np
      · obtain ⟨_, _, q⟩ := fs i a (by rw [if_pos lt] at ha' ⊢; exact ha')
        exact p.good.nz i a q
      · rw [if_neg lt] at ha'
        exact oldZ i a lt ha'
    · have ha' : a ∈ (if i < np then (if i ∈ asg then [] else Fs' i) else Fa i) := ha
      by_cases lt : i < np
      · obtain ⟨_, _, q⟩ := fs i a (by rw [if_pos lt] at ha' ⊢; exact ha')
        exact p.good.isl i a q
      · rw [if_neg lt] at ha'
        exact old i a lt ha'
    · refine (stb_one K v x).zm h.pr fun a z => ?_
      rcases z with z | ⟨_, hi, _⟩
      · exact .inl z
      · cases hi
    · have hb' : a ∈ (if i < np then (if i ∈ asg then [] else Fs' i) else Fa i) := hb
      by_cases lt : i < np
      · obtain ⟨_, _, q⟩ := fs i a (by rw [if_pos lt] at hb' ⊢; exact hb')
        exact h.nf a ha i q
      · rw [if_neg lt] at hb'
        rcases fromM (nw a ha) with q | ⟨l, hl, q⟩
        · obtain ⟨o, e, _⟩ := g.isl i a hb'; rw [e] at q; cases q
        · exact g.dj i l (fun e => lt (e ▸ List.mem_range.mp hl)) a hb' q
  refine ⟨Z, _, Fb, fl, s, start_good n g0, eb, ?_⟩
  cases fl with
  | next =>
    cases eg
    exact fun σ' H' Z' Fs' p => q _ H' Z' _ [] (fin_ok (x := (.none, 0)) p ⟨non_own, List.nodup_nil, fun a ha => (by cases ha), fun a ha => (by cases ha)⟩ fun a ha => (by cases ha))
  | ret x =>
    cases eg
    exact fun v σ' H' Z' Fs' F p h nw => q v H' Z' _ F (fin_ok p h nw)
  | brk => cases eg
  | cont => cases eg
end Sq
end

section
namespace Sq
open PySem PySem.Spec L2
/-! ### a list within a slot's own thing is changed -/
def dAt : List Nat → PyData → Option (List PyData)
  | [], .list ds => some ds
  | j :: js, .list ds => match ds[j]? with
    | some d => dAt js d
    | none => none
  | _, _ => none
def modAt : List Nat → List PyData → PyData → PyData
  | [], ds', _ => .list ds'
  | j :: js, ds', .list ds => match ds[j]? with
    | some d => .list (ds.set j (modAt js ds' d))
    | none => .list ds
  | _, _, d => d
/-- from v by the places js one comes to u, over lists at A -/
def Reach (H : Hp) (A : List Addr) : V → List Nat → V → Prop
  | v, [], u => v = u ∧ ∃ p vs, u = .ref p ∧ p ∈ A ∧ H p = some (.lst vs)
  | v, j :: js, u => ∃ p vs w, v = .ref p ∧ p ∈ A ∧ H p = some (.lst vs) ∧ vs[j]? = some w ∧ Reach H A w js u
theorem Reach.keep {H H' : Hp} {A : List Addr} (k : ∀ a ∈ A, ∀ o, H a = some o → H' a = some o) : ∀ {js : List Nat} {v u : V}, Reach H A v js u → Reach H' A v js u
  | [], _, _, ⟨e, p, vs, e2, m, h⟩ => ⟨e, p, vs, e2, m, k p m _ h⟩
  | j :: js, _, _, ⟨p, vs, w, e, m, h, ew, r⟩ => ⟨p, vs, w, e, m, k p m _ h, ew, r.keep k⟩
section
variable {K : PySem.W.Frag} {Z Z' Z1 Z2 : Zs} {H H' H1 H2 : Hp} {Fs Fs1 Fs2 : Fp} {σ : L2.St} {s s1 s2 : SD} {F F2 : List Addr} {fv mv : List Nat} {x : DV} {v u : V} {k : Nat}
theorem Reach.lastL : ∀ {js : List Nat} {v u : V} {A : List Addr}, Reach H A v js u → ∃ p vs, u = .ref p ∧ p ∈ A ∧ H p = some (.lst vs)
  | [], _, _, _, ⟨_, h⟩ => h
  | _ :: _, _, _, _, ⟨_, _, _, _, _, _, _, r⟩ => r.lastL
/-- one item apart from the others -/
theorem OwnAll.split : ∀ (ds : List PyData) {vs : List V} {F : List Addr} (j : Nat) {d : PyData}, OwnAll K Z H k vs ds F → ds[j]? = some d → ∃ A Fj B w, F = A ++ (Fj ++ B) ∧ vs[j]? = some w ∧ Own K Z H k w d Fj ∧
    ∀ (H' : Hp) (d' : PyData) (Fj' : List Addr), Kp (fun a => a ∈ A ++ B ∨ Z a) H H' → Own K Z H' k w d' Fj' → OwnAll K Z H' k vs (ds.set j d') (A ++ (Fj' ++ B))
  | [], _, _, j, _, _, e => by simp at e
  | d0 :: ds, _, _, 0, d, h, e => by
    unfold OwnAll at h
    obtain ⟨w, vs', F1, F2, rfl, h1, h2, rfl⟩ := h
    simp only [List.getElem?_cons_zero, Option.some.injEq] at e
    subst e
    refine ⟨[], F1, F2, w, rfl, rfl, h1, fun H' d' Fj' kp o => ?_⟩
    rw [List.set_cons_zero]
    unfold OwnAll
    exact ⟨w, vs', Fj', F2, rfl, o, OwnAll.keep ds h2 fun a ob e q => kp a ob e (q.imp (fun q => q.imp (fun q => List.mem_append_right _ q) id) id), rfl⟩
  | d0 :: ds, _, _, j + 1, d, h, e => by
    unfold OwnAll at h
    obtain ⟨w, vs', F1, F2, rfl, h1, h2, rfl⟩ := h
    simp only [List.getElem?_cons_succ] at e
    obtain ⟨A, Fj, B, u, rfl, eu, ou, q⟩ := OwnAll.split ds j h2 e
    refine ⟨F1 ++ A, Fj, B, u, by rw [List.append_assoc], by simpa using eu, ou, fun H' d' Fj' kp o => ?_⟩
    rw [List.set_cons_succ]
    unfold OwnAll
    refine ⟨w, vs', F1, A ++ (Fj' ++ B), rfl, Own.keep _ h1 fun a ob e z => kp a ob e (z.imp (fun z => z.imp (fun z => ?_) id) id), q H' d' Fj' (fun a ob e z => kp a ob e (z.imp (fun z => z.imp (fun z => ?_) id) id)) o, by rw [List.append_assoc]⟩
    · exact List.mem_append_left _ (List.mem_append_left _ z)
    · rcases List.mem_append.mp z with z | z
      · exact List.mem_append_left _ (List.mem_append_right _ z)
      · exact List.mem_append_right _ z
theorem Reach.inOwn : ∀ (js : List Nat) {d : PyData} {k : Nat} {v u : V} {F T : List Addr} {ds : List PyData}, Own K Z H k v d F → js.length < k → dAt js d = some ds → Reach H T v js u → Reach H F v js u
  | [], d, 0, _, _, _, _, _, _, l, _, _ => by simp at l
  | [], d, k + 1, v, u, F, T, ds, o, l, e, r => by
    obtain ⟨e1, p, vs, e2, m, hp⟩ := r
    cases d with
    | list d2 =>
      unfold Own at o
      obtain ⟨p', vs', F', e3, hp', _, rfl⟩ := o
      refine ⟨e1, p, vs, e2, ?_, hp⟩
      rw [e1, e2] at e3
      cases e3
      exact List.mem_cons_self ..
    | _ => cases e
  | j :: js, d, 0, _, _, _, _, _, _, l, _, _ => by simp at l
  | j :: js, d, k + 1, v, u, F, T, ds, o, l, e, r => by
    obtain ⟨p, vs, y, e2, m, hp, ex, r⟩ := r
    cases d with
    | list d2 =>
      unfold Own at o
      obtain ⟨p', vs', F', e3, hp', hs', rfl⟩ := o
      rw [e2] at e3
      cases e3
      rw [hp] at hp'
      cases hp'
      unfold dAt at e
      cases ei : d2[j]? with
      | none => rw [ei] at e; cases e
      | some d3 =>
        rw [ei] at e
        obtain ⟨z, G2, ez, oz, sg⟩ := OwnAll.get d2 j hs' ei
        rw [ex] at ez
        cases ez
        have q := Reach.inOwn js oz (by simpa using l) e r
        have up : ∀ (js : List Nat) {v u : V} {A B : List Addr}, (∀ a ∈ A, a ∈ B) → Reach H A v js u → Reach H B v js u := by
          intro js
          induction js with
          | nil => intro v u A B sb ⟨e, p, vs, e2, m, h⟩; exact ⟨e, p, vs, e2, sb p m, h⟩
          | cons j js ih => intro v u A B sb ⟨p, vs, w, e, m, h, ew, r⟩; exact ⟨p, vs, w, e, sb p m, h, ew, ih sb r⟩
        exact ⟨p, vs, y, e2, List.mem_cons_self .., hp, ex, up js (fun a ha => List.mem_cons_of_mem _ (sg.subset ha)) q⟩
    | _ => cases e
theorem Own.mod : ∀ (js : List Nat) (d : PyData) {k : Nat} {v : V} {F : List Addr} {ds : List PyData}, Own K Z H k v d F → F.Nodup → (∀ a ∈ F, ¬ Z a) → js.length < k → Reach H F v js u → dAt js d = some ds →
    ∃ p vs A G B, u = .ref p ∧ H p = some (.lst vs) ∧ F = A ++ (p :: G ++ B) ∧ OwnAll K Z H (k - js.length - 1) vs ds G ∧
      ∀ vs' ds' G', OwnAll K Z (upd H p (.lst vs')) (k - js.length - 1) vs' ds' G' → Own K Z (upd H p (.lst vs')) k v (modAt js ds' d) (A ++ (p :: G' ++ B))
  | [], d, 0, v, F, ds, _, _, _, l, _, _ => by simp at l
  | [], d, k + 1, v, F, ds, h, nd, nz, l, r, e => by
    cases d with
    | list ds0 =>
      have e' : ds0 = ds := Option.some.inj e
      subst e'
      unfold Own at h
      obtain ⟨p, vs, F', rfl, hp, hs, rfl⟩ := h
      obtain ⟨rfl, _⟩ := r
      refine ⟨p, vs, [], F', [], rfl, hp, by simp, by simpa using hs, fun vs' ds' G' o => ?_⟩
      show Own K Z _ (k + 1) _ (.list ds') _
      unfold Own
      exact ⟨p, vs', G', rfl, upd_same, by simpa using o, by simp⟩
    | _ => cases e
  | j :: js, d, 0, v, F, ds, _, _, _, l, _, _ => by simp at l
  | j :: js, d, k + 1, v, F, ds, h, nd, nz, l, r, e => by
    cases d with
    | list ds0 =>
      unfold Own at h
      obtain ⟨q, ws, F', rfl, hq, hs, rfl⟩ := h
      obtain ⟨q', ws', w, eq', mq, hq', ew, r⟩ := r
      cases eq'
      rw [hq] at hq'
      cases hq'
      unfold dAt at e
      cases ej : ds0[j]? with
      | none => rw [ej] at e; cases e
      | some dj =>
        rw [ej] at e
        obtain ⟨A, Fj, B, w', rfl, ew', ow, put⟩ := OwnAll.split ds0 j hs ej
        rw [ew] at ew'
        cases ew'
        have nd' := (List.nodup_cons.mp nd)
        obtain ⟨nA, nFB, dAB⟩ := List.nodup_append.mp nd'.2
        obtain ⟨nF, nB, dFB⟩ := List.nodup_append.mp nFB
        have rin : Reach H Fj w js u := Reach.inOwn js ow (by simpa using l) e r
        obtain ⟨p, vs, A2, G, B2, eu, hp, rfl, og, put2⟩ := Own.mod js dj ow nF (fun a ha => nz a (List.mem_cons_of_mem _ (List.mem_append_right _ (List.mem_append_left _ ha)))) (by simpa using l) rin e
        have pin : p ∈ A2 ++ (p :: G ++ B2) := List.mem_append_right _ (List.mem_append_left _ (List.mem_cons_self ..))
        have ek : k + 1 - (j :: js).length - 1 = k - js.length - 1 := by simp
        refine ⟨p, vs, q :: (A ++ A2), G, B2 ++ B, eu, hp, by simp [List.append_assoc], by rw [ek]; exact og, fun vs' ds' G' o => ?_⟩
        rw [ek] at o
        have o2 := put2 vs' ds' G' o
        have nq : q ≠ p := fun e => nd'.1 (by rw [e]; exact List.mem_append_right _ (List.mem_append_left _ pin))
        have o3 := put (upd H p (.lst vs')) _ _ (fun a ob e z => by
          rw [upd_ne]
          · exact e
          · rintro rfl
            rcases z with (z | z) | z
            · rcases List.mem_append.mp z with z | z
              · exact dAB a z a (List.mem_append_left _ pin) rfl
              · exact dFB a pin a z rfl
            · exact nz a (List.mem_cons_of_mem _ (List.mem_append_right _ (List.mem_append_left _ pin))) z
            · rw [hp] at e; cases e; exact z trivial) o2
        show Own K Z _ (k + 1) _ (modAt (j :: js) ds' (.list ds0)) _
        unfold modAt
        rw [ej]
        unfold Own
        exact ⟨q, ws, _, rfl, by rw [upd_ne nq]; exact hq, o3, by simp [List.append_assoc]⟩
    | _ => cases e

/-- the things to be put in, at a depth m -/
structure Lows (P : Pr) (Pm : Nat → Pr) (m0 : Nat) : Prop where
  low : ∀ {Z : Zs} {H : Hp} {F : List Addr} {m : Nat}, P Z H F → F.Nodup → m ≤ m0 → ∃ F' : List Addr, F'.Sublist F ∧ ∀ Z' : Zs, (∀ a, Z a → Z' a) → (∀ a ∈ F, a ∉ F' → Z' a) → Pm m Z' H F'
  stb : ∀ m, Stb (Pm m)
theorem mutate {P : Pr} {Pm : Nat → Pr} {m0 : Nat} {js : List Nat} {d : PyData} {ds : List PyData} {v0 : V} {i : Nat} (L : Lows P Pm m0) (SP : Stb P) (p : Post K P [] mv H Z Fs σ s2 H2 Z2 Fs2 F) (hs : s2[i]? = some (some (d, k))) (hd : dAt js d = some ds) (hl : js.length < k) (hσ : σ[i]? = some (some v0)) (hr : Reach H2 (Fs2 i) v0 js u) :
    ∃ pa vs, u = .ref pa ∧ H2 pa = some (.lst vs) ∧ vs.length = ds.length ∧ (∃ k0 Z0 G0, OwnAll K Z0 H2 k0 vs ds G0) ∧ ∀ vs' ds', (∀ Zq Hq m G Fx, OwnAll K Zq Hq m vs ds G → Pm m Zq Hq Fx → (G ++ Fx).Nodup → ∃ G', OwnAll K Zq Hq m vs' ds' G' ∧ (∀ a ∈ G', a ∈ G ∨ a ∈ Fx) ∧ G'.Nodup) →
      ∃ Z3 Fs3, PostS K [] (mv ++ [i]) σ H Z Fs σ (s2.set i (some (modAt js ds' d, min k (js.length + 1 + m0)))) (upd H2 pa (.lst vs')) Z3 Fs3 := by
  obtain ⟨v0', ev, ow⟩ := p.good.own i d k hs
  rw [hσ] at ev
  cases ev
  have ow0 := ow
  obtain ⟨E, sE, qE⟩ := Own.lower (j := min k (js.length + 1 + m0)) d ow (p.good.nd i) (Nat.min_le_left _ _)
  obtain ⟨Ex, sX, qX⟩ := L.low (m := min k (js.length + 1 + m0) - js.length - 1) p.held.pr p.held.nd (by omega)
  let Z3 : Zs := fun a => Z2 a ∨ (a ∈ Fs2 i ∧ a ∉ E) ∨ (a ∈ F ∧ a ∉ Ex)
  have ilF : ∀ a ∈ F, ∃ o, H2 a = some o ∧ Chg o := fun a ha => SP.isl p.held.pr a ha
  have hz : ∀ {a : Addr}, Zf Z2 Fs2 [] a → Z2 a := fun {a} z => by
    rcases z with z | ⟨_, h, _⟩
    · exact z
    · cases h
  have oE : Own K Z3 H2 (min k (js.length + 1 + m0)) v0 d E := qE Z3 (fun a z => .inl z) fun a ha hn => .inr (.inl ⟨ha, hn⟩)
  have oX : Pm (min k (js.length + 1 + m0) - js.length - 1) Z3 H2 Ex := qX Z3 (fun a z => .inl (hz z)) fun a ha hn => .inr (.inr ⟨ha, hn⟩)
  have nzE : ∀ a ∈ E, ¬ Z3 a := fun a ha z => by
    rcases z with z | ⟨_, z⟩ | ⟨z, _⟩
    · exact p.good.nz i a (sE.subset ha) z
    · exact z ha
    · exact p.held.nf a z i (sE.subset ha)
  have hl' : js.length < min k (js.length + 1 + m0) := by omega
  obtain ⟨pa, vs, A, G, B, eu, hp, eE, og, put⟩ := Own.mod js d oE ((p.good.nd i).sublist sE) nzE hl' (Reach.inOwn js oE hl' hd hr) hd
  have pE : pa ∈ E := by rw [eE]; exact List.mem_append_right _ (List.mem_append_left _ (List.mem_cons_self ..))
  have pF : pa ∈ Fs2 i := sE.subset pE
  have ndE : (A ++ (pa :: G ++ B)).Nodup := by rw [← eE]; exact (p.good.nd i).sublist sE
  have inE : ∀ a, a ∈ A ++ (pa :: G ++ B) → a ∈ Fs2 i := fun a ha => sE.subset (by rw [eE]; exact ha)
  obtain ⟨nA, nGB, dA⟩ := List.nodup_append.mp ndE
  obtain ⟨npG, nB, dG⟩ := List.nodup_append.mp nGB
  obtain ⟨npa, nG⟩ := List.nodup_cons.mp npG
  have back : ∀ a j, a ∈ Fs2 j → H a = none ∨ ∃ l ∈ mv ++ [j], a ∈ Fs l := fun a j ha => by
    by_cases m : j ∈ mv
    · exact (p.tr.fb j m a ha).imp id fun ⟨l, hl, q⟩ => ⟨l, List.mem_append_left _ hl, q⟩
    · rw [p.tr.fo j m] at ha
      exact .inr ⟨j, List.mem_append_right _ (List.mem_singleton.mpr rfl), ha⟩
  refine ⟨pa, vs, eu, hp, OwnAll.len _ og, ⟨_, _, _, og⟩, fun vs' ds' build => ?_⟩
  have kq : ∀ (S : Addr → Prop), (¬ S pa) → Kp S H2 (upd H2 pa (.lst vs')) := fun S n a o e q => by
    rw [upd_ne]
    · exact e
    · rintro rfl
      rcases q with q | q
      · exact n q
      · rw [hp] at e; cases e; exact q trivial
  have pX : pa ∉ Ex := fun h => p.held.nf pa (sX.subset h) i pF
  have oG : OwnAll K Z3 (upd H2 pa (.lst vs')) (min k (js.length + 1 + m0) - js.length - 1) vs ds G := OwnAll.keep _ og (kq _ fun z => z.elim npa (nzE pa pE))
  have oX2 : Pm (min k (js.length + 1 + m0) - js.length - 1) Z3 (upd H2 pa (.lst vs')) Ex := (L.stb _).keep oX (kq _ fun z => z.elim pX (nzE pa pE))
  have dGX : ∀ a ∈ G, a ∉ Ex := fun a ha hx => p.held.nf a (sX.subset hx) i (inE a (List.mem_append_right _ (List.mem_append_left _ (List.mem_cons_of_mem _ ha))))
  obtain ⟨G', oG', subG, nG'⟩ := build Z3 (upd H2 pa (.lst vs')) (min k (js.length + 1 + m0) - js.length - 1) G Ex oG oX2 (List.nodup_append.mpr ⟨nG, p.held.nd.sublist sX, fun a ha b hb e => dGX a ha (e ▸ hb)⟩)
  have oN := put vs' ds' G' oG'
  let N : List Addr := A ++ (pa :: G' ++ B)
  have inN : ∀ a ∈ N, a ∈ Fs2 i ∨ a ∈ F := fun a ha => by
    rcases List.mem_append.mp ha with h | h
    · exact .inl (inE a (List.mem_append_left _ h))
    · rcases List.mem_append.mp h with h | h
      · rcases List.mem_cons.mp h with rfl | h
        · exact .inl pF
        · rcases subG a h with h | h
          · exact .inl (inE a (List.mem_append_right _ (List.mem_append_left _ (List.mem_cons_of_mem _ h))))
          · exact .inr (sX.subset h)
      · exact .inl (inE a (List.mem_append_right _ (List.mem_append_right _ h)))
  have notG' : ∀ a ∈ G', (a ∈ A → False) ∧ (a ∈ B → False) ∧ a ≠ pa := fun a h => by
    rcases subG a h with h | h
    · exact ⟨fun z => dA a z a (List.mem_append_left _ (List.mem_cons_of_mem _ h)) rfl, fun z => dG a (List.mem_cons_of_mem _ h) a z rfl, fun z => npa (z ▸ h)⟩
    · have nf := p.held.nf a (sX.subset h) i
      exact ⟨fun z => nf (inE a (List.mem_append_left _ z)), fun z => nf (inE a (List.mem_append_right _ (List.mem_append_right _ z))), fun z => nf (z ▸ pF)⟩
  have ndN : N.Nodup := by
    refine List.nodup_append.mpr ⟨nA, List.nodup_append.mpr ⟨List.nodup_cons.mpr ⟨fun h => (notG' pa h).2.2 rfl, nG'⟩, nB, fun a ha b hb e => ?_⟩, fun a ha b hb e => ?_⟩
    · subst e
      rcases List.mem_cons.mp ha with rfl | ha
      · exact dG a (List.mem_cons_self ..) a hb rfl
      · exact (notG' a ha).2.1 hb
    · subst e
      rcases List.mem_append.mp hb with hb | hb
      · rcases List.mem_cons.mp hb with rfl | hb
        · exact dA a ha a (List.mem_append_left _ (List.mem_cons_self ..)) rfl
        · exact (notG' a hb).1 ha
      · exact dA a ha a (List.mem_append_right _ hb) rfl
  have nzN : ∀ a ∈ N, ¬ Z3 a := fun a ha => by
    have hE : ∀ b, b ∈ A ++ (pa :: G ++ B) → ¬ Z3 b := fun b hb => nzE b (by rw [eE]; exact hb)
    rcases List.mem_append.mp ha with h | h
    · exact hE a (List.mem_append_left _ h)
    · rcases List.mem_append.mp h with h | h
      · rcases List.mem_cons.mp h with rfl | h
        · exact nzE _ pE
        · rcases subG a h with h | h
          · exact hE a (List.mem_append_right _ (List.mem_append_left _ (List.mem_cons_of_mem _ h)))
          · intro z
            rcases z with z | ⟨z, _⟩ | ⟨_, z⟩
            · exact p.held.nz a (sX.subset h) z
            · exact p.held.nf a (sX.subset h) i z
            · exact z h
      · exact hE a (List.mem_append_right _ (List.mem_append_right _ h))
  refine ⟨Z3, fun j => if j = i then N else Fs2 j, ⟨fun a o e nm => ?_, fun a e => ?_, fun a z => .inl (p.tr.zm a z), fun a z => ?_, fun j hj => ?_, fun j hj a ha => ?_⟩, ⟨by rw [List.length_set]; exact p.good.len, fun j d' k' e => ?_, fun j => ?_, fun j l ne a ha hb => ?_, fun j a ha z => ?_, fun j a ha => ?_, fun a z => ?_⟩, fun _ _ => rfl, rfl⟩
  · have e2 := p.tr.ev a o e fun j hj => nm j (List.mem_append_left _ hj)
    rw [upd_ne]
    · exact e2
    · rintro rfl
      rcases back a i pF with q | ⟨l, hl, q⟩
      · rw [e] at q; cases q
      · exact nm l hl q
  · by_cases q : a = pa
    · subst q; rw [upd_same] at e; cases e
    · rw [upd_ne q] at e; exact p.tr.dom a e
  · rcases z with z | ⟨z, _⟩ | ⟨z, _⟩
    · exact (p.tr.zb a z).imp id fun z => z.imp id fun ⟨l, hl, q⟩ => ⟨l, List.mem_append_left _ hl, q⟩
    · exact .inr (back a i z)
    · exact .inr ((p.new a z).imp id fun ⟨l, hl, q⟩ => ⟨l, List.mem_append_left _ hl, q⟩)
  · rw [if_neg fun e => hj (List.mem_append_right _ (by rw [e]; exact List.mem_singleton.mpr rfl))]
    exact p.tr.fo j fun z => hj (List.mem_append_left _ z)
  · by_cases q : j = i
    · rw [if_pos q] at ha
      rcases inN a ha with h | h
      · exact back a i h
      · exact (p.new a h).imp id fun ⟨l, hl, q⟩ => ⟨l, List.mem_append_left _ hl, q⟩
    · rw [if_neg q] at ha
      rcases back a j ha with h | ⟨l, hl, h⟩
      · exact .inl h
      · rcases List.mem_append.mp hl with hl | hl
        · exact .inr ⟨l, List.mem_append_left _ hl, h⟩
        · have := List.mem_singleton.mp hl
          subst this
          exact .inr ⟨l, hj, h⟩
  · by_cases q : j = i
    · subst q
      have lt : j < s2.length := by
        have := List.getElem?_eq_some_iff.mp hs
        exact this.1
      rw [List.getElem?_set_self lt] at e
      have e' := Option.some.inj (Option.some.inj e)
      cases e'
      rw [if_pos rfl]
      exact ⟨v0, hσ, oN⟩
    · rw [List.getElem?_set_ne (Ne.symm q)] at e
      rw [if_neg q]
      obtain ⟨w, ew, o⟩ := p.good.own j d' k' e
      exact ⟨w, ew, Own.zmono _ (Own.keep _ o (kq _ fun z => z.elim (fun z => p.good.dj i j (Ne.symm q) pa pF z) (p.good.nz i pa pF))) fun a z => .inl z⟩
  · by_cases q : j = i
    · rw [if_pos q]; exact ndN
    · rw [if_neg q]; exact p.good.nd j
  · by_cases q : j = i
    · rw [if_pos q] at ha
      rw [if_neg fun e => ne (q.trans e.symm)] at hb
      rcases inN a ha with h | h
      · exact p.good.dj i l (fun e => ne (q.trans e)) a h hb
      · exact p.held.nf a h l hb
    · rw [if_neg q] at ha
      by_cases q2 : l = i
      · rw [if_pos q2] at hb
        rcases inN a hb with h | h
        · exact p.good.dj i j (Ne.symm q) a h ha
        · exact p.held.nf a h j ha
      · rw [if_neg q2] at hb
        exact p.good.dj j l ne a ha hb
  · by_cases q : j = i
    · rw [if_pos q] at ha; exact nzN a ha z
    · rw [if_neg q] at ha
      rcases z with z | ⟨z, _⟩ | ⟨z, _⟩
      · exact p.good.nz j a ha z
      · exact p.good.dj i j (Ne.symm q) a z ha
      · exact p.held.nf a z j ha
  · by_cases q : j = i
    · rw [if_pos q] at ha; exact Own.isl _ oN a ha
    · rw [if_neg q] at ha
      obtain ⟨o, e, c⟩ := p.good.isl j a ha
      exact ⟨o, kq (fun a => a ∈ Fs2 j) (fun z => p.good.dj i j (Ne.symm q) pa pF z) a o e (.inl ha), c⟩
  · have tr : ∀ a o, H2 a = some o → ∃ o', upd H2 pa (.lst vs') a = some o' := fun a o e => by
      by_cases q : a = pa
      · subst q; exact ⟨_, upd_same⟩
      · exact ⟨o, by rw [upd_ne q]; exact e⟩
    rcases z with z | ⟨z, _⟩ | ⟨z, _⟩
    · obtain ⟨o, e⟩ := p.good.zt a z; exact tr a o e
    · obtain ⟨o, e, _⟩ := p.good.isl i a z; exact tr a o e
    · obtain ⟨o, e, _⟩ := ilF a z; exact tr a o e
theorem lows_one (K : PySem.W.Frag) (v : V) (x : DV) : Lows (POne K v x) (fun m Z H F => Own K Z H m v x.1 F) (dep x) where
  low := fun {Z H F m} h nd l => by
    refine Own.to h nd ?_
    unfold dep at l
    split at l
    · next f => exact .inl (full_iff.mp f)
    · exact .inr l
  stb := fun m => stb_one K v (x.1, m)
theorem lows_none (m0 : Nat) : Lows PNone (fun _ => PNone) m0 := ⟨fun {Z H F m} h _ _ => ⟨F, List.Sublist.refl _, fun _ _ _ => h⟩, fun _ => stb_none⟩
end
end Sq
end

section
namespace Sq
open PySem PySem.Spec L2
abbrev Pth := SD → Res (List Nat × SD)
def pSlot (i : Nat) : Pth := fun s => do
  let x ← slot s i
  match dAt [] x.1 with
  | some _ => if 0 < x.2 then .ok ([], s) else .bad
  | none => .bad
def pIdx (i : Nat) (p : Pth) (e : Ex) : Pth := fun s => do
  let (js, s) ← p s
  let (y, s) ← e s
  let x ← slot s i
  match dAt js x.1, y.1 with
  | some ds, .int n => match ixN ds.length n with
    | some j => match dAt (js ++ [j]) x.1 with
      | some _ => if js.length + 1 < x.2 then .ok (js ++ [j], s) else .bad
      | none => .bad
    | none => .bad
  | _, _ => .bad
/-- the list at the path becomes what op makes of it -/
def chg (i : Nat) (js : List Nat) (m0 : Nat) (op : List PyData → Res (List PyData)) (s : SD) : Res SD := do
  let x ← slot s i
  match dAt js x.1 with
  | some ds => do
    let ds' ← op ds
    if js.length < x.2 then .ok (s.set i (some (modAt js ds' x.1, min x.2 (js.length + 1 + m0)))) else .bad
  | none => .bad
def opApp (x : PyData) (ds : List PyData) : Res (List PyData) := if small (ds.length + 1) then .ok (ds ++ [x]) else .bad
def opExt (xs : List PyData) (ds : List PyData) : Res (List PyData) := if small (ds.length + xs.length) then .ok (ds ++ xs) else .bad
def opSet (n : Int) (x : PyData) (ds : List PyData) : Res (List PyData) := match ixN ds.length n with
  | some j => .ok (ds.set j x)
  | none => .bad
def sApp (i : Nat) (p : Pth) (fv : List Nat) (a : Ex) : Sx := fun s => do
  let (js, s) ← p s
  let (x, s) ← a s
  let s ← chg i js (dep x) (opApp x.1) (settle fv x s)
  .ok (.next, s)
def sExt (i : Nat) (p : Pth) (fv : List Nat) (a : Ex) : Sx := fun s => do
  let (js, s) ← p s
  let (x, s) ← a s
  match x.1 with
  | .list xs => do
    let s ← chg i js (depI x) (opExt xs) (settle fv x s)
    .ok (.next, s)
  | _ => .bad
def sSet (i : Nat) (fv : List Nat) (a : Ex) (p : Pth) (ix : Ex) : Sx := fun s => do
  let (x, s) ← a s
  let (js, s) ← p s
  let (y, s) ← ix s
  match y.1 with
  | .int n => do
    let s ← chg i js (dep x) (opSet n x.1) (settle fv x s)
    .ok (.next, s)
  | _ => .bad
def sRev (i : Nat) (p : Pth) : Sx := fun s => do
  let (js, s) ← p s
  let x ← slot s i
  let s ← chg i js x.2 (fun ds => .ok ds.reverse) s
  .ok (.next, s)
def sClr (i : Nat) (p : Pth) : Sx := fun s => do
  let (js, s) ← p s
  let x ← slot s i
  let s ← chg i js x.2 (fun ds => .ok []) s
  .ok (.next, s)

def tP (K : PySem.W.Frag) (i : Nat) (mv : List Nat) (f : Pth) : TE := fun σ H Q => ∃ Z s Fs js s', Good K Z H σ s Fs ∧ f s = .ok (js, s') ∧ ∀ v H' Z' Fs', Post K PNone [] mv H Z Fs σ s' H' Z' Fs' [] → (∃ v0, σ[i]? = some (some v0) ∧ Reach H' (Fs' i) v0 js v) → Q v H'

section
variable {K : PySem.W.Frag} {Z Z' Z1 Z2 : Zs} {H H' H1 H2 : Hp} {Fs Fs1 Fs2 : Fp} {σ : L2.St} {s s1 s2 : SD} {F F2 : List Addr} {fv mv : List Nat} {x : DV} {v u : V} {k i : Nat}
/-- by places from an own list to an own list -/
theorem Own.reach : ∀ (js : List Nat) {d : PyData} {k : Nat} {v : V} {F : List Addr} {ds : List PyData}, Own K Z H k v d F → js.length < k → dAt js d = some ds → ∃ u, Reach H F v js u
  | [], d, 0, _, _, _, _, l, _ => by simp at l
  | [], d, k + 1, v, F, ds, o, l, e => by
    cases d with
    | list d2 =>
      unfold Own at o
      obtain ⟨p, vs, F', rfl, hp, _, rfl⟩ := o
      exact ⟨.ref p, rfl, p, vs, rfl, List.mem_cons_self .., hp⟩
    | _ => cases e
  | j :: js, d, 0, _, _, _, _, l, _ => by simp at l
  | j :: js, d, k + 1, v, F, ds, o, l, e => by
    cases d with
    | list d2 =>
      unfold Own at o
      obtain ⟨p, vs, F', rfl, hp, hs', rfl⟩ := o
      unfold dAt at e
      cases ei : d2[j]? with
      | none => rw [ei] at e; cases e
      | some d3 =>
        rw [ei] at e
        obtain ⟨z, G2, ez, oz, sg⟩ := OwnAll.get d2 j hs' ei
        obtain ⟨u, r⟩ := Own.reach js oz (by simpa using l) e
        refine ⟨u, p, vs, z, rfl, List.mem_cons_self .., hp, ez, ?_⟩
        have up : ∀ (js : List Nat) {v u : V} {A B : List Addr}, (∀ a ∈ A, a ∈ B) → Reach H A v js u → Reach H B v js u := by
          intro js
          induction js with
          | nil => intro v u A B sb ⟨e, p, vs, e2, m, h⟩; exact ⟨e, p, vs, e2, sb p m, h⟩
          | cons j js ih => intro v u A B sb ⟨p, vs, w, e, m, h, ew, r⟩; exact ⟨p, vs, w, e, sb p m, h, ew, ih sb r⟩
        exact up js (fun a ha => List.mem_cons_of_mem _ (sg.subset ha)) r
    | _ => cases e
theorem Reach.inj : ∀ {js : List Nat} {v u u' : V} {A B : List Addr}, Reach H A v js u → Reach H B v js u' → u = u'
  | [], _, _, _, _, _, ⟨e, _⟩, ⟨e', _⟩ => e.symm.trans e'
  | j :: js, _, _, _, _, _, ⟨p, vs, w, e, m, h, ew, r⟩, ⟨p', vs', w', e', m', h', ew', r'⟩ => by
    rw [e] at e'
    cases e'
    rw [h] at h'
    cases h'
    rw [ew] at ew'
    cases ew'
    exact r.inj r'
theorem Reach.snoc : ∀ {js : List Nat} {v u u' : V} {A : List Addr} {j : Nat}, Reach H A v (js ++ [j]) u' → Reach H A v js u → ∃ p vs, u = .ref p ∧ H p = some (.lst vs) ∧ vs[j]? = some u'
  | [], _, _, _, _, _, ⟨p, vs, w, e, m, h, ew, e2, _⟩, ⟨e1, _⟩ => by
    subst e1 e2
    exact ⟨p, vs, e, h, ew⟩
  | i :: js, _, _, _, _, _, ⟨p, vs, w, e, m, h, ew, r⟩, ⟨p', vs', w', e', m', h', ew', r'⟩ => by
    rw [e] at e'
    cases e'
    rw [h] at h'
    cases h'
    rw [ew] at ew'
    cases ew'
    exact r.snoc r'
theorem Reach.on {js : List Nat} {mvb : List Nat} {v0 : V} (g : Good K Z H σ s Fs) (t : Tr mvb H Z Fs H' Z' Fs') (n : i ∉ mvb) (r : Reach H (Fs i) v0 js u) : Reach H' (Fs' i) v0 js u := by
  rw [t.fo i n]
  exact r.keep fun a ha o e => t.ev a o e fun j hj hb => g.dj i j (fun z => n (z ▸ hj)) a ha hb
end
section
variable {X : Cx} {e a b o : Expr} {pos apos cpos : Pos} {fv mv fvb mvb mva : List Nat} {f fb : Ex} {fp : Pth} {i : Nat}
theorem rp_slot {x : Str} (hN : X.N[i]? = some x) (hv : Vis X.env.scope x) (hd : (x == ("__debug__" : Str)) = false := by decide) (hcd : (x == ("__classdict__" : Str)) = false := by decide) : PE X (.Name x pos) (tP X.K i [] (pSlot i)) := by
  refine PE.of (pe_var hN hv hd hcd) fun σ H Q h => ?_
  obtain ⟨Z, s, Fs, js, s', gd, e, q⟩ := h
  unfold pSlot at e
  obtain ⟨y, ey, e⟩ := Res.bind_eq_ok.mp e
  obtain ⟨_, v, ev, ow⟩ := gd.slotAt ey
  cases ed : dAt [] y.1 with
  | none => rw [ed] at e; cases e
  | some ds =>
    rw [ed] at e
    simp only at e
    split at e
    · next l =>
      cases e
      obtain ⟨u, r⟩ := Own.reach [] ow l ed
      have : v = u := r.1
      subst this
      exact ⟨v, ev, q v H Z Fs (Post.start gd) ⟨v, ev, r⟩⟩
    · cases e
theorem rp_idx (ha : PE X a (tP X.K i mva fp)) (hb : PE X b (tE X.K fvb mvb fb)) (hs : PlainIx b) (d : djn [i] mvb = true := by rfl) : PE X (.Subscript a b pos) (tP X.K i (mva ++ mvb) (pIdx i fp fb)) := by
  refine PE.of (pe_ix ix_list ha hb hs) fun σ H Q h => ?_
  obtain ⟨Z, s, Fs, js', s', gd, e, q⟩ := h
  unfold pIdx at e
  obtain ⟨⟨js, s1⟩, ea, e⟩ := Res.bind_eq_ok.mp e
  obtain ⟨⟨y, s2⟩, eb, e⟩ := Res.bind_eq_ok.mp e
  obtain ⟨x, ex, e⟩ := Res.bind_eq_ok.mp e
  have ni : i ∉ mvb := djn_ok d i (List.mem_singleton.mpr rfl)
  refine ⟨Z, s, Fs, js, s1, gd, ea, fun v H1 Z1 Fs1 p1 ⟨v0, ev0, r1⟩ => ⟨Z1, s1, Fs1, y, s2, p1.good, eb, fun w H2 Z2 Fs2 F2 p2 => ?_⟩⟩
  have r2 := r1.on p1.good p2.tr ni
  obtain ⟨_, v0', ev0', ow⟩ := p2.good.slotAt ex
  rw [ev0] at ev0'
  cases ev0'
  obtain ⟨yd, yk⟩ := y
  cases ed : dAt js x.1 with
  | none => rw [ed] at e; cases e
  | some ds =>
    rw [ed] at e
    cases yd with
    | int n =>
      cases ej : ixN ds.length n with
      | none => simp only [ej] at e; cases e
      | some j =>
        simp only [ej] at e
        cases ed2 : dAt (js ++ [j]) x.1 with
        | none => rw [ed2] at e; cases e
        | some ds2 =>
          rw [ed2] at e
          simp only at e
          split at e
          · next l =>
            cases e
            obtain ⟨u, ru⟩ := Own.reach (js ++ [j]) ow (by simpa using l) ed2
            obtain ⟨pa, vs, ep, hp, eu⟩ := ru.snoc r2
            obtain ⟨pa', vs', A, G, B, ep', hp', _, og, _⟩ := Own.mod js x.1 ow (p2.good.nd i) (p2.good.nz i) (by omega) r2 ed
            rw [ep] at ep'
            cases ep'
            rw [hp] at hp'
            cases hp'
            have ll := OwnAll.len _ og
            refine ⟨pa, vs, n, u, ep, own_int p2.held.pr, .inl (.inl hp), ?_, q u H2 Z2 Fs2 (p1.seq p2.nothing).fv0 ⟨v0, ev0, ru⟩⟩
            unfold atI
            rw [ll, ej]
            exact eu
          · cases e
    | _ => cases e

/-! ### append, extend, a place set, reverse, clear -/
theorem chg_ok {K : PySem.W.Frag} {Z Z2 : Zs} {H H2 : Hp} {Fs Fs2 : Fp} {σ : L2.St} {s2 s3 : SD} {F : List Addr} {P : Pr} {Pm : Nat → Pr} {m0 : Nat} {js : List Nat} {v0 u : V} {op : List PyData → Res (List PyData)} (L : Lows P Pm m0) (SP : Stb P) (p : Post K P [] mv H Z Fs σ s2 H2 Z2 Fs2 F) (ec : chg i js m0 op s2 = .ok s3) (hσ : σ[i]? = some (some v0)) (hr : ∀ d k, s2[i]? = some (some (d, k)) → k ≠ 0 → Reach H2 (Fs2 i) v0 js u) :
    ∃ pa vs ds ds', u = .ref pa ∧ H2 pa = some (.lst vs) ∧ vs.length = ds.length ∧ (∃ k0 Z0 G0, OwnAll K Z0 H2 k0 vs ds G0) ∧ op ds = .ok ds' ∧ ∀ vs', (∀ Zq Hq m G Fx, OwnAll K Zq Hq m vs ds G → Pm m Zq Hq Fx → (G ++ Fx).Nodup → ∃ G', OwnAll K Zq Hq m vs' ds' G' ∧ (∀ a ∈ G', a ∈ G ∨ a ∈ Fx) ∧ G'.Nodup) →
      ∃ Z3 Fs3, PostS K [] (mv ++ [i]) σ H Z Fs σ s3 (upd H2 pa (.lst vs')) Z3 Fs3 := by
  unfold chg at ec
  obtain ⟨x, ex, ec⟩ := Res.bind_eq_ok.mp ec
  obtain ⟨es, v0', ev0', ow⟩ := p.good.slotAt ex
  cases ed : dAt js x.1 with
  | none => rw [ed] at ec; cases ec
  | some ds =>
    rw [ed] at ec
    obtain ⟨ds', eo, ec⟩ := Res.bind_eq_ok.mp ec
    split at ec
    · next l =>
      cases ec
      obtain ⟨pa, vs, h1, h2, h3, h4, h5⟩ := mutate L SP p es ed l hσ (hr x.1 x.2 es (by omega))
      exact ⟨pa, vs, ds, ds', h1, h2, h3, h4, eo, fun vs' b => h5 vs' ds' b⟩
    · cases ec
theorem Post.mono0 {K : PySem.W.Frag} {Z Z2 : Zs} {H H2 : Hp} {Fs Fs2 : Fp} {σ : L2.St} {s2 : SD} {F : List Addr} {P : Pr} (p : Post K P [] mv H Z Fs σ s2 H2 Z2 Fs2 F) : True := trivial
theorem OwnAll.one {K : PySem.W.Frag} {Z : Zs} {H : Hp} {k : Nat} {v : V} {d : PyData} {F : List Addr} (h : Own K Z H k v d F) : OwnAll K Z H k [v] [d] F := by
  unfold OwnAll
  refine ⟨v, [], F, [], rfl, h, ?_, by simp⟩
  unfold OwnAll
  exact ⟨rfl, rfl⟩
/-- a path, then a value: what holds then -/
theorem pathVal {K : PySem.W.Frag} {Z Z1 Z2 : Zs} {H H1 H2 : Hp} {Fs Fs1 Fs2 : Fp} {σ : L2.St} {s1 s2 : SD} {F : List Addr} {x : DV} {v u v0 : V} {js : List Nat} (p1 : Post K PNone [] mva H Z Fs σ s1 H1 Z1 Fs1 []) (r1 : Reach H1 (Fs1 i) v0 js u) (p2 : Post K (POne K v x) fv mv H1 Z1 Fs1 σ s2 H2 Z2 Fs2 F) (ni : i ∉ mv) :
    ∃ Z3 Fs3, Post K (POne K v x) [] (mva ++ (mv ++ fv)) H Z Fs σ (settle fv x s2) H2 Z3 Fs3 F ∧ ∀ d k, (settle fv x s2)[i]? = some (some (d, k)) → k ≠ 0 → Reach H2 (Fs3 i) v0 js u := by
  obtain ⟨Z3, Fs3, p3, f3⟩ := p2.settle
  refine ⟨Z3, Fs3, p1.seq p3, fun d k e nk => ?_⟩
  rcases f3 i with q | q
  · rw [q]
    exact r1.on p1.good p2.tr ni
  · exact absurd (q d k e) nk
theorem rs_append (ho : PE X o (tP X.K i mva fp)) (he : PE X e (tE X.K fv mv f)) (d : djn [i] mv = true := by rfl) (hbase : attributeBase o "append" X.env (eval o X.env) = eval o X.env := by rfl)
    (hfew : ((backTo cpos (starEach [e] X.env)).all (fun x => !x.1) && (backToKw cpos (keywordEach [] X.env)).all (fun x => x.1.isSome) && decide ([e].length + ([] : List Keyword).length + (if ([] : List Keyword).isEmpty then 0 else 1) < 30)) = true := by rfl)
    (hline : (apos.endLine == cpos.line) = true := by rfl) (hst : starEach [e] X.env = (false, eval e X.env) :: starEach [] X.env := by rfl) (hplain : (backTo cpos (starEach [] X.env)).any (·.1) = false := by rfl) :
    PS X (.Expr (.Call (.Attribute o "append" apos) [e] [] cpos) pos) (tS X.K [] (mva ++ (mv ++ fv) ++ [i]) (sApp i fp fv f)) := by
  refine PS.of (ps_expr (pe_bm PySem.F.plainAttrs_list PySem.F.slot_list_append PySem.F.type_list_append mt_append ho (pa_cons he pa_nil hst) hbase hfew hline hst hplain)) fun D σ H h => ?_
  obtain ⟨Z, s, Fs, fl, s', gd, e, q⟩ := h
  unfold sApp at e
  obtain ⟨⟨js, s1⟩, ea, e⟩ := Res.bind_eq_ok.mp e
  obtain ⟨⟨x, s2⟩, eb, e⟩ := Res.bind_eq_ok.mp e
  obtain ⟨s3, ec, e⟩ := Res.bind_eq_ok.mp e
  cases e
  have ni : i ∉ mv := djn_ok d i (List.mem_singleton.mpr rfl)
  refine ⟨Z, s, Fs, js, s1, gd, ea, fun u H1 Z1 Fs1 p1 ⟨v0, ev0, r1⟩ => ?_⟩
  obtain ⟨pa, vs, rfl, _, hp⟩ := r1.lastL
  refine ⟨.inl ⟨rfl, vs, .inl (.inl hp)⟩, Z1, s1, Fs1, x, s2, p1.good, eb, fun v H2 Z2 Fs2 F2 p2 => ?_⟩
  obtain ⟨Z3, Fs3, p3, r3⟩ := pathVal p1 r1 p2 ni
  obtain ⟨pa', ws, ds, ds', e1, h2, hl, _, eo, fin⟩ := chg_ok (lows_one X.K v x) (stb_one _ _ _) p3 ec ev0 r3
  unfold opApp at eo
  split at eo
  · next sm =>
    cases eo
    have sz := small_ok sm
    obtain ⟨Z4, Fs4, p4⟩ := fin (ws ++ [v]) fun Zq Hq m G Fx o1 o2 nd => ⟨G ++ Fx, OwnAll.app o1 (OwnAll.one o2), fun a ha => List.mem_append.mp ha, nd⟩
    exact ⟨pa', ws, v, e1, rfl, h2, by omega, q σ _ Z4 Fs4 p4⟩
  · cases eo
theorem OwnAll.setAt {K : PySem.W.Frag} {Z : Zs} {H : Hp} {k : Nat} : ∀ (ds : List PyData) {vs : List V} {G Fx : List Addr} {v : V} {d : PyData} (j : Nat), OwnAll K Z H k vs ds G → Own K Z H k v d Fx → (G ++ Fx).Nodup → ∃ G', OwnAll K Z H k (vs.set j v) (ds.set j d) G' ∧ (∀ a ∈ G', a ∈ G ∨ a ∈ Fx) ∧ G'.Nodup
  | [], vs, G, Fx, v, d, j, h, _, nd => by
    have h' := h
    unfold OwnAll at h
    obtain ⟨rfl, rfl⟩ := h
    exact ⟨[], by simpa using h', fun a ha => (by cases ha), List.nodup_nil⟩
  | d0 :: ds, _, _, Fx, v, d, 0, h, o, nd => by
    unfold OwnAll at h
    obtain ⟨w, vs', F1, F2, rfl, h1, h2, rfl⟩ := h
    obtain ⟨n1, n2, n3⟩ := List.nodup_append.mp nd
    obtain ⟨n4, n5, n6⟩ := List.nodup_append.mp n1
    refine ⟨Fx ++ F2, ?_, fun a ha => ?_, List.nodup_append.mpr ⟨n2, n5, fun a ha b hb e => n3 b (List.mem_append_right _ hb) a ha e.symm⟩⟩
    · rw [List.set_cons_zero, List.set_cons_zero]
      unfold OwnAll
      exact ⟨v, vs', Fx, F2, rfl, o, h2, rfl⟩
    · rcases List.mem_append.mp ha with ha | ha
      · exact .inr ha
      · exact .inl (List.mem_append_right _ ha)
  | d0 :: ds, _, _, Fx, v, d, j + 1, h, o, nd => by
    unfold OwnAll at h
    obtain ⟨w, vs', F1, F2, rfl, h1, h2, rfl⟩ := h
    obtain ⟨n1, n2, n3⟩ := List.nodup_append.mp nd
    obtain ⟨n4, n5, n6⟩ := List.nodup_append.mp n1
    obtain ⟨G', o', sb, nd'⟩ := OwnAll.setAt ds j h2 o (List.nodup_append.mpr ⟨n5, n2, fun a ha b hb e => n3 a (List.mem_append_right _ ha) b hb e⟩)
    refine ⟨F1 ++ G', ?_, fun a ha => ?_, List.nodup_append.mpr ⟨n4, nd', fun a ha b hb e => ?_⟩⟩
    · rw [List.set_cons_succ, List.set_cons_succ]
      unfold OwnAll
      exact ⟨w, _, F1, G', rfl, h1, o', rfl⟩
    · rcases List.mem_append.mp ha with ha | ha
      · exact .inl (List.mem_append_left _ ha)
      · exact (sb a ha).imp (fun h => List.mem_append_right _ h) id
    · subst e
      rcases sb a hb with h | h
      · exact n6 a ha a h rfl
      · exact n3 a (List.mem_append_left _ ha) a h rfl
theorem rs_setitem {ix : Expr} {fvx mvx : List Nat} {fx : Ex} {tpos : Pos} (he : PE X e (tE X.K fv mv f)) (ho : PE X o (tP X.K i mva fp)) (hi : PE X ix (tE X.K fvx mvx fx)) (d : djn fv (mva ++ mvx) = true := by rfl) (d2 : djn [i] mvx = true := by rfl)
    (hs : PG X (.Subscript o ix tpos) (gSub (tP X.K i mva fp) (tE X.K fvx mvx fx) rSetL)) (hsw : swapsWithSole [.Subscript o ix tpos] e pos.line X.env = pure false := by rfl) (hw : swappedStores [.Subscript o ix tpos] e X.env = pure none := by rfl) :
    PS X (.Assign [.Subscript o ix tpos] e pos) (tS X.K [] ((mv ++ (mva ++ mvx)) ++ fv ++ [i]) (sSet i fv f fp fx)) := by
  refine PS.of (ps_asg he hs hsw hw) fun D σ H h => ?_
  obtain ⟨Z, s, Fs, fl, s', gd, e, q⟩ := h
  unfold sSet at e
  obtain ⟨⟨x, s1⟩, ea, e⟩ := Res.bind_eq_ok.mp e
  obtain ⟨⟨js, s2⟩, eb, e⟩ := Res.bind_eq_ok.mp e
  obtain ⟨⟨y, s3⟩, ey, e⟩ := Res.bind_eq_ok.mp e
  obtain ⟨yd, yk⟩ := y
  cases yd with
  | int n =>
    obtain ⟨s4, ec, e⟩ := Res.bind_eq_ok.mp e
    cases e
    have ni : i ∉ mvx := djn_ok d2 i (List.mem_singleton.mpr rfl)
    have dd := djn_ok d
    refine ⟨Z, s, Fs, x, s1, gd, ea, fun v H1 Z1 Fs1 F1 p1 => ⟨Z1, s1, Fs1, js, s2, p1.good, eb, fun u H2 Z2 Fs2 p2 ⟨v0, ev0, r2⟩ => ⟨Z2, s2, Fs2, _, s3, p2.good, ey, fun w H3 Z3 Fs3 F3 p3 => ?_⟩⟩⟩
    have pp := p1.keepOn (stb_one _ _ _) ((p2.seq p3.nothing).fv0) fun j hj z => dd j hj z
    obtain ⟨Z4, Fs4, p4, f4⟩ := pp.settle
    have r3 := r2.on p2.good p3.tr ni
    obtain ⟨pa', ws, ds, ds', e1, h2, hl, _, eo, fin⟩ := chg_ok (lows_one X.K v x) (stb_one _ _ _) p4 ec ev0 (u := u) (js := js) (fun dd kk ee nk => by
      rcases f4 i with z | z
      · rw [z]; exact r3
      · exact absurd (z dd kk ee) nk)
    unfold opSet at eo
    cases ej : ixN ds.length n with
    | none => rw [ej] at eo; cases eo
    | some j =>
      rw [ej] at eo
      cases eo
      obtain ⟨Z5, Fs5, p5⟩ := fin (ws.set j v) fun Zq Hq m G Fx o1 o2 nd => OwnAll.setAt ds j o1 o2 nd
      exact ⟨pa', ws, n, j, e1, own_int p3.held.pr, h2, by rw [hl]; exact ej, q σ _ Z5 Fs5 p5⟩
  | _ => cases e
theorem lows_ext (K : PySem.W.Frag) (ws : List V) (es : List PyData) (k : Nat) : Lows (fun Z H F => OwnAll K Z H (k - 1) ws es F) (fun m Z H F => OwnAll K Z H m ws es F) (depI (.list es, k)) where
  low := fun {Z H F m} h nd l => OwnAll.to h nd (depI_ok l)
  stb := fun m => ⟨fun h k => OwnAll.keep _ h k, fun h m => OwnAll.zmono _ h m, fun h => OwnAll.isl _ h⟩
/-- list.extend by what may be read -/
def rExtR : V → List V → Hp → VK → Prop := fun x vs H Q => ∃ l b xs zs, x = .ref l ∧ vs = [.ref b] ∧ H l = some (.lst xs) ∧ Rd H b (.lst zs) ∧ xs.length + zs.length ≤ sizeLine ∧ Q .non (upd H l (.lst (xs ++ zs)))
theorem mt_extR : MtR X "list.extend" rExtR := by
  intro pins s σ H x vs v us Q I rx rv h
  obtain ⟨l, b, xs, zs, rfl, rfl, hH, hB, hz, q⟩ := h
  cases rx
  obtain ⟨u, rfl, ru⟩ := rv.one
  cases ru
  obtain ⟨z, its, n, r, hl, e⟩ := I.lstM hH
  obtain ⟨z2, its2, n2, r2, hl2, e2⟩ := Inv.lstR I hB
  have hsz : its.toArray.size + its2.toArray.size ≤ sizeLine := by rw [List.size_toArray, List.size_toArray]; omega
  have hlong : ¬ (!its.toArray.isEmpty && Builtin.List.listTooLong (its.toArray.size + its2.toArray.size)) = true := by
    rw [notLongL hsz, Bool.and_false]
    exact Bool.false_ne_true
  refine call_meets PySem.F.slot_list_extend ⟨_, e, rfl⟩ PySem.F.entry_list_extend (PySem.F.args_list_extend_2 _ _)
    (AutoSeq1.list_extend_list_list_0 l its.toArray n b its2.toArray n2 hlong (by rw [List.size_toArray]; omega) (by omega)) ⟨e, e2, ?_⟩
  refine ⟨.non, _, I.lset (its' := its ++ its2) hH e (by simp) (r.append r2) ?_, rfl, q⟩
  rw [List.length_append]
  omega
theorem rs_extend (ho : PE X o (tP X.K i mva fp)) (he : PE X e (tE X.K fv mv f)) (d : djn [i] mv = true := by rfl) (hbase : attributeBase o "extend" X.env (eval o X.env) = eval o X.env := by rfl)
    (hfew : ((backTo cpos (starEach [e] X.env)).all (fun x => !x.1) && (backToKw cpos (keywordEach [] X.env)).all (fun x => x.1.isSome) && decide ([e].length + ([] : List Keyword).length + (if ([] : List Keyword).isEmpty then 0 else 1) < 30)) = true := by rfl)
    (hline : (apos.endLine == cpos.line) = true := by rfl) (hst : starEach [e] X.env = (false, eval e X.env) :: starEach [] X.env := by rfl) (hplain : (backTo cpos (starEach [] X.env)).any (·.1) = false := by rfl) :
    PS X (.Expr (.Call (.Attribute o "extend" apos) [e] [] cpos) pos) (tS X.K [] (mva ++ (mv ++ fv) ++ [i]) (sExt i fp fv f)) := by
  refine PS.of (ps_expr (pe_bm PySem.F.plainAttrs_list PySem.F.slot_list_extend PySem.F.type_list_extend mt_extR ho (pa_cons he pa_nil hst) hbase hfew hline hst hplain)) fun D σ H h => ?_
  obtain ⟨Z, s, Fs, fl, s', gd, e, q⟩ := h
  unfold sExt at e
  obtain ⟨⟨js, s1⟩, ea, e⟩ := Res.bind_eq_ok.mp e
  obtain ⟨⟨x, s2⟩, eb, e⟩ := Res.bind_eq_ok.mp e
  obtain ⟨xd, xk⟩ := x
  cases xd with
  | list es =>
    obtain ⟨s3, ec, e⟩ := Res.bind_eq_ok.mp e
    cases e
    have ni : i ∉ mv := djn_ok d i (List.mem_singleton.mpr rfl)
    refine ⟨Z, s, Fs, js, s1, gd, ea, fun u H1 Z1 Fs1 p1 ⟨v0, ev0, r1⟩ => ?_⟩
    obtain ⟨pa, vs, rfl, _, hp⟩ := r1.lastL
    refine ⟨.inl ⟨rfl, vs, .inl (.inl hp)⟩, Z1, s1, Fs1, _, s2, p1.good, eb, fun v H2 Z2 Fs2 F2 p2 => ?_⟩
    obtain ⟨Z3, Fs3, p3, r3⟩ := pathVal p1 r1 p2 ni
    have ow : Own X.K _ _ xk v (.list es) F2 := p3.held.pr
    obtain ⟨b, zs, G0, rfl, rd, oz, sb⟩ := ow.sub
    have p3' := p3.sub (P' := fun Z H F => OwnAll X.K Z H (xk - 1) zs es F) sb oz
    obtain ⟨pa', ws, ds, ds', e1, h2, hl, _, eo, fin⟩ := chg_ok (lows_ext X.K zs es xk) ⟨fun h k => OwnAll.keep _ h k, fun h m => OwnAll.zmono _ h m, fun h => OwnAll.isl _ h⟩ p3' ec ev0 r3
    unfold opExt at eo
    split at eo
    · next sm =>
      cases eo
      have sz := small_ok sm
      have lz := OwnAll.len _ oz
      obtain ⟨Z4, Fs4, p4⟩ := fin (ws ++ zs) fun Zq Hq m G Fx o1 o2 nd => ⟨G ++ Fx, OwnAll.app o1 o2, fun a ha => List.mem_append.mp ha, nd⟩
      exact ⟨pa', b, ws, zs, e1, rfl, h2, rd, by omega, q σ _ Z4 Fs4 p4⟩
    · cases eo
  | _ => cases e
theorem OwnAll.rev {K : PySem.W.Frag} {Z : Zs} {H : Hp} {k : Nat} : ∀ (ds : List PyData) {vs : List V} {G : List Addr}, OwnAll K Z H k vs ds G → G.Nodup → ∃ G', OwnAll K Z H k vs.reverse ds.reverse G' ∧ (∀ a ∈ G', a ∈ G) ∧ G'.Nodup
  | [], vs, G, h, nd => by
    have h' := h
    unfold OwnAll at h
    obtain ⟨rfl, rfl⟩ := h
    exact ⟨[], h', fun a ha => ha, nd⟩
  | d :: ds, _, _, h, nd => by
    unfold OwnAll at h
    obtain ⟨w, vs', F1, F2, rfl, h1, h2, rfl⟩ := h
    obtain ⟨n1, n2, n3⟩ := List.nodup_append.mp nd
    obtain ⟨G', o, sb, nd'⟩ := OwnAll.rev ds h2 n2
    refine ⟨G' ++ F1, ?_, fun a ha => ?_, List.nodup_append.mpr ⟨nd', n1, fun a ha b hb e => n3 b hb a (sb a ha) e.symm⟩⟩
    · rw [List.reverse_cons, List.reverse_cons]
      exact OwnAll.app o (OwnAll.one h1)
    · rcases List.mem_append.mp ha with ha | ha
      · exact List.mem_append_right _ (sb a ha)
      · exact List.mem_append_left _ ha
theorem rs_reverse (ho : PE X o (tP X.K i mva fp)) (hbase : attributeBase o "reverse" X.env (eval o X.env) = eval o X.env := by rfl) (hline : (apos.endLine == cpos.line) = true := by rfl) :
    PS X (.Expr (.Call (.Attribute o "reverse" apos) [] [] cpos) pos) (tS X.K [] (mva ++ [i]) (sRev i fp)) := by
  refine PS.of (ps_expr (pe_bm0 PySem.F.plainAttrs_list PySem.F.slot_list_reverse PySem.F.type_list_reverse mt_reverse ho hbase hline)) fun D σ H h => ?_
  obtain ⟨Z, s, Fs, fl, s', gd, e, q⟩ := h
  unfold sRev at e
  obtain ⟨⟨js, s1⟩, ea, e⟩ := Res.bind_eq_ok.mp e
  obtain ⟨x, ex, e⟩ := Res.bind_eq_ok.mp e
  obtain ⟨s3, ec, e⟩ := Res.bind_eq_ok.mp e
  cases e
  refine ⟨Z, s, Fs, js, s1, gd, ea, fun u H1 Z1 Fs1 p1 ⟨v0, ev0, r1⟩ => ?_⟩
  obtain ⟨pa, vs, rfl, _, hp⟩ := r1.lastL
  refine ⟨.inl ⟨rfl, vs, .inl (.inl hp)⟩, ?_⟩
  obtain ⟨pa', ws, ds, ds', e1, h2, hl, _, eo, fin⟩ := chg_ok (lows_none x.2) stb_none p1 ec ev0 (fun _ _ _ _ => r1)
  cases eo
  obtain ⟨Z4, Fs4, p4⟩ := fin ws.reverse fun Zq Hq m G Fx o1 o2 nd => by
    obtain ⟨G', o, sb, nd'⟩ := OwnAll.rev ds o1 (List.nodup_append.mp nd).1
    exact ⟨G', o, fun a ha => .inl (sb a ha), nd'⟩
  exact ⟨pa', ws, e1, rfl, h2, q σ _ Z4 Fs4 p4⟩
theorem rs_clear (ho : PE X o (tP X.K i mva fp)) (hbase : attributeBase o "clear" X.env (eval o X.env) = eval o X.env := by rfl) (hline : (apos.endLine == cpos.line) = true := by rfl) :
    PS X (.Expr (.Call (.Attribute o "clear" apos) [] [] cpos) pos) (tS X.K [] (mva ++ [i]) (sClr i fp)) := by
  refine PS.of (ps_expr (pe_bm0 PySem.F.plainAttrs_list PySem.F.slot_list_clear PySem.F.type_list_clear mt_clear ho hbase hline)) fun D σ H h => ?_
  obtain ⟨Z, s, Fs, fl, s', gd, e, q⟩ := h
  unfold sClr at e
  obtain ⟨⟨js, s1⟩, ea, e⟩ := Res.bind_eq_ok.mp e
  obtain ⟨x, ex, e⟩ := Res.bind_eq_ok.mp e
  obtain ⟨s3, ec, e⟩ := Res.bind_eq_ok.mp e
  cases e
  refine ⟨Z, s, Fs, js, s1, gd, ea, fun u H1 Z1 Fs1 p1 ⟨v0, ev0, r1⟩ => ?_⟩
  obtain ⟨pa, vs, rfl, _, hp⟩ := r1.lastL
  refine ⟨.inl ⟨rfl, vs, .inl (.inl hp)⟩, ?_⟩
  obtain ⟨pa', ws, ds, ds', e1, h2, hl, _, eo, fin⟩ := chg_ok (lows_none x.2) stb_none p1 ec ev0 (fun _ _ _ _ => r1)
  cases eo
  obtain ⟨Z4, Fs4, p4⟩ := fin [] fun Zq Hq m G Fx o1 o2 nd => ⟨[], by unfold OwnAll; exact ⟨rfl, rfl⟩, fun a ha => (by cases ha), List.nodup_nil⟩
  exact ⟨pa', ws, e1, rfl, h2, q σ _ Z4 Fs4 p4⟩
end
end Sq
end

section
namespace Sq
open PySem PySem.Spec L2
/-! ### targets -/
abbrev Bd := DV → SD → Res SD
abbrev Bds := List DV → SD → Res SD
def bName (i : Nat) : Bd := fun x s => .ok (s.set i (some x))
def bNil : Bds := fun xs s => match xs with
  | [] => .ok s
  | _ => .bad
def bCons (b : Bd) (bs : Bds) : Bds := fun xs s => match xs with
  | x :: xs => do
    let s ← b x s
    bs xs s
  | [] => .bad
def bTup (n : Nat) (bs : Bds) : Bd := fun x s => match x.1 with
  | .tuple ds => if ds.length = n then bs (ds.map fun d => (d, x.2 - 1)) s else .bad
  | .list ds => if ds.length = n then bs (ds.map fun d => (d, x.2 - 1)) s else .bad
  | _ => .bad
structure PostG (K : PySem.W.Frag) (tgs : List Nat) (F : List Addr) (σ : L2.St) (Fs : Fp) (σ' : L2.St) (s' : SD) (H : Hp) (Z : Zs) (Fs' : Fp) : Prop where
  good : Good K Z H σ' s' Fs'
  st : ∀ i, i ∉ tgs → σ'[i]? = σ[i]?
  ln : σ'.length = σ.length
  fo : ∀ i, i ∉ tgs → Fs' i = Fs i
  fb : ∀ i ∈ tgs, ∀ a ∈ Fs' i, a ∈ F
def tG (K : PySem.W.Frag) (tgs : List Nat) (b : Bd) : TG := fun v σ H Q => ∃ Z s Fs x s' F, Good K Z H σ s Fs ∧ Held (POne K v x) [] H Z Fs F ∧ b x s = .ok s' ∧ ∀ σ' Fs', PostG K tgs F σ Fs σ' s' H Z Fs' → Q σ' H
def tGs (K : PySem.W.Frag) (tgs : List Nat) (b : Bds) : TGs := fun vs σ H Q => ∃ Z s Fs xs s' F, Good K Z H σ s Fs ∧ Held (PAll K vs xs) [] H Z Fs F ∧ b xs s = .ok s' ∧ ∀ σ' Fs', PostG K tgs F σ Fs σ' s' H Z Fs' → Q σ' H
section
variable {K : PySem.W.Frag} {Z : Zs} {H : Hp} {Fs Fs' : Fp} {σ σ' : L2.St} {s s' : SD} {F : List Addr} {x : DV} {v : V}
theorem zf0 {a : Addr} (z : Zf Z Fs [] a) : Z a := by
  rcases z with z | ⟨_, h, _⟩
  · exact z
  · cases h
theorem name_ok {i : Nat} (g : Good K Z H σ s Fs) (h : Held (POne K v x) [] H Z Fs F) : PostG K [i] F σ Fs (σ.set i (some v)) (s.set i (some x)) H Z (fun j => if j = i then F else Fs j) := by
  have ow : Own K Z H x.2 v x.1 F := Own.zmono _ h.pr fun a z => zf0 z
  have il : ∀ a ∈ F, ∃ o, H a = some o ∧ Chg o := fun a ha => Own.isl _ ow a ha
  refine ⟨⟨by rw [List.length_set, List.length_set]; exact g.len, fun j d k e => ?_, fun j => ?_, fun j l n a ha hb => ?_, fun j a ha z => ?_, fun j a ha => ?_, g.zt⟩, fun j hj => ?_, by rw [List.length_set], fun j hj => ?_, fun j hj a ha => ?_⟩
  · by_cases q : j = i
    · subst q
      by_cases l : j < s.length
      · rw [List.getElem?_set_self l] at e
        have e' := Option.some.inj (Option.some.inj e)
        subst e'
        rw [if_pos rfl]
        exact ⟨v, List.getElem?_set_self (by rw [← g.len]; exact l), ow⟩
      · rw [List.getElem?_eq_none (by simpa using l)] at e; cases e
    · rw [List.getElem?_set_ne (Ne.symm q)] at e
      rw [if_neg q, List.getElem?_set_ne (Ne.symm q)]
      exact g.own j d k e
  · by_cases q : j = i
    · rw [if_pos q]; exact h.nd
    · rw [if_neg q]; exact g.nd j
  · by_cases q : j = i
    · rw [if_pos q] at ha
      rw [if_neg (fun e => n (q.trans e.symm))] at hb
      exact h.nf a ha l hb
    · rw [if_neg q] at ha
      by_cases q2 : l = i
      · rw [if_pos q2] at hb
        exact h.nf a hb j ha
      · rw [if_neg q2] at hb
        exact g.dj j l n a ha hb
  · by_cases q : j = i
    · rw [if_pos q] at ha; exact h.nz a ha z
    · rw [if_neg q] at ha; exact g.nz j a ha z
  · by_cases q : j = i
    · rw [if_pos q] at ha; exact il a ha
    · rw [if_neg q] at ha; exact g.isl j a ha
  · exact List.getElem?_set_ne fun e => hj (by rw [← e]; exact List.mem_singleton.mpr rfl)
  · exact if_neg fun e => hj (by rw [e]; exact List.mem_singleton.mpr rfl)
  · rw [if_pos (List.mem_singleton.mp hj)] at ha
    exact ha
theorem allL {k : Nat} : ∀ {ds : List PyData} {vs : List V} {F : List Addr}, OwnAll K Z H k vs ds F → OwnL K Z H vs (ds.map fun d => (d, k)) F
  | [], vs, F, h => by unfold OwnAll at h; exact h
  | d :: ds, vs, F, h => by
    unfold OwnAll at h
    obtain ⟨v, vs', F1, F2, e, h1, h2, e2⟩ := h
    exact ⟨v, vs', F1, F2, e, h1, allL h2, e2⟩
end
section
variable {X : Cx} {e : Expr} {es : List Expr} {pos : Pos} {t1 t2 : List Nat} {b : Bd} {bs : Bds}
theorem PG.of {t t' : TG} (h : PG X e t) (i : ∀ v σ H Q, t' v σ H Q → t v σ H Q) : PG X e t' := ⟨fun pins s σ H v u Q I r q => h.run pins s σ H v u Q I r (i v σ H Q q)⟩
theorem PGs.of {t t' : TGs} (h : PGs X es t) (i : ∀ v σ H Q, t' v σ H Q → t v σ H Q) : PGs X es t' := ⟨fun pins s σ H v u Q I r q => h.run pins s σ H v u Q I r (i v σ H Q q)⟩
theorem PG.or {t t' : TG} (h : PG X e t) (h' : PG X e t') : PG X e (fun v σ H Q => t v σ H Q ∨ t' v σ H Q) := ⟨fun pins s σ H v u Q I r q => q.elim (h.run pins s σ H v u Q I r) (h'.run pins s σ H v u Q I r)⟩
theorem rg_name {i : Nat} {x : Str} (hN : X.N.Nodup) (hi : X.N[i]? = some x) (hx : Loc X.env.scope x) (hf : X.fn x = true ∨ X.env.scope.names.lookup x = some .local := by first | exact .inl rfl | exact .inr rfl | assumption) : PG X (.Name x pos) (tG X.K [i] (bName i)) := by
  refine PG.of (pg_name hN hi hx hf) fun v σ H Q h => ?_
  obtain ⟨Z, s, Fs, x, s', F, g, hd, e, q⟩ := h
  cases e
  exact q _ _ (name_ok g hd)
theorem rgs_nil : PGs X [] (tGs X.K [] bNil) := by
  refine PGs.of pgs_nil fun vs σ H Q h => ?_
  obtain ⟨Z, s, Fs, xs, s', F, g, hd, e, q⟩ := h
  unfold bNil at e
  cases xs with
  | nil =>
    cases e
    exact ⟨hd.pr.1, q σ Fs ⟨g, fun _ _ => rfl, rfl, fun _ _ => rfl, fun i hi => (by cases hi)⟩⟩
  | cons x xs => cases e
theorem rgs_cons (h1 : PG X e (tG X.K t1 b)) (h2 : PGs X es (tGs X.K t2 bs)) (hs : (assignEach (e :: es) X.env).map (·.2) = assign e X.env :: (assignEach es X.env).map (·.2) := by rfl) : PGs X (e :: es) (tGs X.K (t1 ++ t2) (bCons b bs)) := by
  refine PGs.of (pgs_cons h1 h2 hs) fun vs σ H Q h => ?_
  obtain ⟨Z, s, Fs, xs, s', F, g, hd, e, q⟩ := h
  unfold bCons at e
  cases xs with
  | nil => cases e
  | cons x xs =>
    obtain ⟨s1, e1, e2⟩ := Res.bind_eq_ok.mp e
    obtain ⟨v, vs', F1, F2, rfl, o1, o2, rfl⟩ := hd.pr
    obtain ⟨n1, n2, n3⟩ := List.nodup_append.mp hd.nd
    refine ⟨v, vs', rfl, Z, s, Fs, x, s1, F1, g, ⟨o1, n1, fun a ha => hd.nf a (List.mem_append_left _ ha), fun a ha => hd.nz a (List.mem_append_left _ ha)⟩, e1, fun σ1 Fs1 p1 => ?_⟩
    have h2' : Held (PAll X.K vs' xs) [] H Z Fs1 F2 := by
      refine ⟨OwnL.zmono (fun a z => .inl (zf0 z)) o2, n2, fun a ha i hb => ?_, fun a ha => hd.nz a (List.mem_append_right _ ha)⟩
      by_cases m : i ∈ t1
      · exact n3 a (p1.fb i m a hb) a ha rfl
      · rw [p1.fo i m] at hb
        exact hd.nf a (List.mem_append_right _ ha) i hb
    refine ⟨Z, s1, Fs1, xs, s', F2, p1.good, h2', e2, fun σ2 Fs2 p2 => q σ2 Fs2 ⟨p2.good, fun i hi => (p2.st i fun z => hi (List.mem_append_right _ z)).trans (p1.st i fun z => hi (List.mem_append_left _ z)), p2.ln.trans p1.ln, fun i hi => (p2.fo i fun z => hi (List.mem_append_right _ z)).trans (p1.fo i fun z => hi (List.mem_append_left _ z)), fun i hi a ha => ?_⟩⟩
    by_cases m : i ∈ t2
    · exact List.mem_append_right _ (p2.fb i m a ha)
    · rw [p2.fo i m] at ha
      by_cases m1 : i ∈ t1
      · exact List.mem_append_left _ (p1.fb i m1 a ha)
      · rcases List.mem_append.mp hi with z | z
        · exact absurd z m1
        · exact absurd z m
theorem rg_tup {k n : Nat} (hc : X.calm = true) (h : PGs X es (tGs X.K t1 bs)) (hn : (assignEach es X.env).length = n := by rfl) (hst : (assignEach es X.env).findIdx? (·.1) = none := by rfl) : PG X (.Tuple es k pos) (tG X.K t1 (bTup n bs)) := by
  refine PG.of (PG.or (pg_tup hc h hn hst) (pg_unl hc h hn hst)) fun v σ H Q h => ?_
  obtain ⟨Z, s, Fs, x, s', F, g, hd, e, q⟩ := h
  obtain ⟨xd, xk⟩ := x
  unfold bTup at e
  cases xd with
  | tuple ds =>
    simp only at e
    split at e
    · next l =>
      have o : Own X.K _ _ xk v (.tuple ds) F := hd.pr
      unfold Own at o
      obtain ⟨p, vs, rfl, r, hs⟩ := o
      exact .inl ⟨p, vs, rfl, r, (OwnAll.len _ hs).trans l, Z, s, Fs, _, s', F, g, ⟨allL hs, hd.nd, hd.nf, hd.nz⟩, e, q⟩
    · cases e
  | list ds =>
    simp only at e
    split at e
    · next l =>
      have o : Own X.K _ _ xk v (.list ds) F := hd.pr
      obtain ⟨p, vs, G, rfl, r, hs, sb⟩ := o.sub
      exact .inr ⟨p, vs, rfl, .inl r, (OwnAll.len _ hs).trans l, Z, s, Fs, _, s', G, g, ⟨allL hs, hd.nd.sublist sb, fun a ha => hd.nf a (sb.subset ha), fun a ha => hd.nz a (sb.subset ha)⟩, e, fun σ' Fs' p => q σ' Fs' ⟨p.good, p.st, p.ln, p.fo, fun i hi a ha => sb.subset (p.fb i hi a ha)⟩⟩
    · cases e
  | _ => cases e
/-! ### an assignment to several names -/
def sAsgT (b : Bd) (fv : List Nat) (a : Ex) : Sx := fun s => do
  let (x, s) ← a s
  let s ← b x (settle fv x s)
  .ok (.next, s)
theorem rs_asgT {tg e : Expr} {fv mv tgs : List Nat} {f : Ex} (he : PE X e (tE X.K fv mv f)) (hg : PG X tg (tG X.K tgs b)) (hs : swapsWithSole [tg] e pos.line X.env = pure false := by rfl) (hw : swappedStores [tg] e X.env = pure none := by rfl) (h1 : (assignEach [tg] X.env).map (·.2) = [assign tg X.env] := by rfl) : PS X (.Assign [tg] e pos) (tS X.K tgs (mv ++ fv ++ tgs) (sAsgT b fv f)) := by
  refine PS.of (ps_asg he hg hs hw h1) fun D σ H h => ?_
  obtain ⟨Z, s, Fs, fl, s', gd, e, q⟩ := h
  unfold sAsgT at e
  obtain ⟨⟨x, s1⟩, ea, e⟩ := Res.bind_eq_ok.mp e
  obtain ⟨s2, eb, e⟩ := Res.bind_eq_ok.mp e
  cases e
  refine ⟨Z, s, Fs, x, s1, gd, ea, fun v H1 Z1 Fs1 F p => ?_⟩
  obtain ⟨Z2, Fs2, p2, _⟩ := p.settle
  refine ⟨Z2, _, Fs2, x, _, F, p2.good, p2.held, eb, fun σ' Fs' g => q σ' H1 Z2 Fs' ⟨⟨fun a o e n => p2.tr.ev a o e fun i hi => n i (List.mem_append_left _ hi), p2.tr.dom, p2.tr.zm, fun a z => (p2.tr.zb a z).imp id fun z => z.imp id fun ⟨i, hi, q⟩ => ⟨i, List.mem_append_left _ hi, q⟩, fun i hi => ?_, fun i hi a ha => ?_⟩, g.good, g.st, g.ln⟩⟩
  · rw [g.fo i fun z => hi (List.mem_append_right _ z)]
    exact p2.tr.fo i fun z => hi (List.mem_append_left _ z)
  · by_cases m : i ∈ tgs
    · exact (p2.new a (g.fb i m a ha)).imp id fun ⟨j, hj, q⟩ => ⟨j, List.mem_append_left _ hj, q⟩
    · rw [g.fo i m] at ha
      by_cases m2 : i ∈ mv ++ fv
      · exact (p2.tr.fb i m2 a ha).imp id fun ⟨j, hj, q⟩ => ⟨j, List.mem_append_left _ hj, q⟩
      · rw [p2.tr.fo i m2] at ha
        exact .inr ⟨i, hi, ha⟩
end
end Sq
end

section
namespace Sq
open PySem PySem.Spec L2
section
variable {K : PySem.W.Frag} {Z Z1 : Zs} {H H1 : Hp} {Fs Fs1 : Fp} {σ σ' : L2.St} {s s1 : SD} {F : List Addr} {fv mv : List Nat}
theorem Post.settleA {k : Nat} {vs : List V} {ds : List PyData} (p : Post K (fun Z H F => OwnAll K Z H k vs ds F) fv mv H Z Fs σ s1 H1 Z1 Fs1 F) : ∃ Z2 Fs2, Post K (fun Z H F => OwnAll K Z H k vs ds F) [] (mv ++ fv) H Z Fs σ (Sq.settle fv (.tuple ds, k + 1) s1) H1 Z2 Fs2 F := by
  by_cases f : full (.tuple ds, k + 1) = true
  · refine ⟨Z1, Fs1, ?_⟩
    have e : Sq.settle fv (.tuple ds, k + 1) s1 = s1 := by unfold Sq.settle; rw [if_pos f]
    rw [e]
    have hk : hgtAll ds ≤ k := by
      have := full_iff.mp f
      simp only [hgt] at this
      split at this <;> omega
    exact ⟨p.tr.weak fun i hi => List.mem_append_left _ hi, p.good, ⟨OwnAll.lift _ p.held.pr hk hk, p.held.nd, p.held.nf, p.held.nz⟩, fun a ha => (p.new a ha).imp id fun ⟨i, hi, q⟩ => ⟨i, List.mem_append_left _ hi, q⟩⟩
  · refine ⟨Zf Z1 Fs1 fv, _, ⟨p.tr.trans (Tr.demote fv) (fun i hi => List.mem_append_left _ hi) (fun i hi => List.mem_append_right _ hi), ?_, ⟨OwnAll.zmono _ p.held.pr fun a z => .inl z, p.held.nd, fun a ha i z => ?_, fun a ha z => ?_⟩, fun a ha => (p.new a ha).imp id fun ⟨i, hi, q⟩ => ⟨i, List.mem_append_left _ hi, q⟩⟩⟩
    · unfold Sq.settle
      rw [if_neg f]
      exact p.good.demote fv
    · by_cases m : i ∈ fv
      · rw [if_pos m] at z; cases z
      · rw [if_neg m] at z; exact p.held.nf a ha i z
    · rcases z with z | ⟨i, _, z⟩
      · exact p.held.nz a ha z
      · exact p.held.nf a ha i z
theorem names2_ok {i j : Nat} {v w : V} {x y : DV} (g : Good K Z H σ s Fs) (hd : Held (PAll K [v, w] [x, y]) [] H Z Fs F) : ∃ Fs', PostG K [i, j] F σ Fs ((σ.set i (some v)).set j (some w)) ((s.set i (some x)).set j (some y)) H Z Fs' := by
  obtain ⟨v', vs', F1, F2, e1, o1, o2, rfl⟩ := hd.pr
  cases e1
  obtain ⟨n1, n2, n3⟩ := List.nodup_append.mp hd.nd
  have p1 := name_ok (i := i) g ⟨o1, n1, fun a ha => hd.nf a (List.mem_append_left _ ha), fun a ha => hd.nz a (List.mem_append_left _ ha)⟩
  obtain ⟨w', ws', F3, F4, e1, o3, o4, rfl⟩ := o2
  cases e1
  obtain ⟨_, rfl⟩ := o4
  rw [List.append_nil] at n3 n2 hd
  rw [List.append_nil]
  generalize (fun j => if j = i then F1 else Fs j) = Fs1 at p1
  have h2' : Held (POne K w y) [] H Z Fs1 F3 := by
    refine ⟨Own.zmono _ o3 (fun a z => .inl (zf0 z)), n2, fun a ha i' hb => ?_, fun a ha => hd.nz a (List.mem_append_right _ ha)⟩
    by_cases m : i' ∈ [i]
    · exact n3 a (p1.fb i' m a hb) a ha rfl
    · rw [p1.fo i' m] at hb
      exact hd.nf a (List.mem_append_right _ ha) i' hb
  have p2 := name_ok (i := j) p1.good h2'
  refine ⟨_, p2.good, fun l hl => (p2.st l fun z => hl (List.mem_append_right [i] z)).trans (p1.st l fun z => hl (List.mem_append_left [j] z)), p2.ln.trans p1.ln, fun l hl => (p2.fo l fun z => hl (List.mem_append_right [i] z)).trans (p1.fo l fun z => hl (List.mem_append_left [j] z)), fun l hl a ha => ?_⟩
  by_cases m : l ∈ [j]
  · exact List.mem_append_right _ (p2.fb l m a ha)
  · rw [p2.fo l m] at ha
    by_cases m1 : l ∈ [i]
    · exact List.mem_append_left _ (p1.fb l m1 a ha)
    · rcases List.mem_append.mp (show l ∈ [i] ++ [j] from hl) with z | z
      · exact absurd z m1
      · exact absurd z m
end
section
variable {X : Cx} {pos : Pos}
theorem rs_par {i j : Nat} {x y : Str} {a b : Expr} {px py pt : Pos} {kt k2 pt2} {fv mv : List Nat} {io : List (Nat × Nat)} {fs : Exs} (ha : PA X [a, b] (tA X.K fv mv io fs)) (hc : X.calm = true) (hN : X.N.Nodup) (hi : X.N[i]? = some x) (hj : X.N[j]? = some y) (hij : i ≠ j)
    (hx : X.env.scope.names.lookup x = some .local) (hy : X.env.scope.names.lookup y = some .local)
    (hw : swappedStores [.Tuple [.Name x px, .Name y py] kt pt] (.Tuple [a, b] k2 pt2) X.env = pure (some [x, y]))
    (hs : swapsWithSole [.Tuple [.Name x px, .Name y py] kt pt] (.Tuple [a, b] k2 pt2) pos.line X.env = pure false := by rfl) :
    PS X (.Assign [.Tuple [.Name x px, .Name y py] kt pt] (.Tuple [a, b] k2 pt2) pos) (tS X.K [i, j] (mv ++ fv ++ [i, j]) (sAsgT (bTup 2 (bCons (bName i) (bCons (bName j) bNil))) fv (evN gTup fs))) := by
  refine PS.of (ps_par hc hN hi hj hij hx hy ha hw hs) fun D σ H h => ?_
  obtain ⟨Z, s, Fs, fl, s', gd, e, q⟩ := h
  unfold sAsgT at e
  obtain ⟨⟨x, s1⟩, ea, e⟩ := Res.bind_eq_ok.mp e
  obtain ⟨s2, eb, e⟩ := Res.bind_eq_ok.mp e
  cases e
  unfold evN at ea
  obtain ⟨⟨xs, s1'⟩, ea', e⟩ := Res.bind_eq_ok.mp ea
  obtain ⟨z, eg, e⟩ := Res.bind_eq_ok.mp e
  cases e
  unfold gTup at eg
  split at eg
  · cases eg
    refine ⟨Z, s, Fs, xs, s1, gd, ea', fun vs H1 Z1 Fs1 F p _ => ?_⟩
    obtain ⟨F', sb, qq⟩ := OwnL.to (m := minAll (xs.map dep)) p.held.pr p.held.nd (Nat.le_refl _)
    have q0 : Post X.K (fun Z H F => OwnAll X.K Z H (minAll (xs.map dep)) vs (xs.map (·.1)) F) fv mv H Z Fs σ s1 H1 (Zp Z1 F F') Fs1 F' := p.shared (stb_all _ _ _) sb (qq _ (fun a z => z.imp (fun z => .inl z) id) fun a ha hn => .inl (.inr ⟨ha, hn⟩))
    obtain ⟨Z2, Fs2, p2⟩ := q0.settleA
    unfold bTup at eb
    simp only at eb
    split at eb
    · next hl =>
      obtain ⟨x1, x2, rfl⟩ : ∃ x1 x2, xs = [x1, x2] := by
        rw [List.length_map] at hl
        match xs, hl with
        | [x1, x2], _ => exact ⟨x1, x2, rfl⟩

      · skip
        simp only [List.map_cons, List.map_nil, bCons, bName, bNil, Res.bind_ok, Nat.add_sub_cancel] at eb p2
        cases eb
        have hL := allL (p2.held.pr)
        have lv : vs.length = 2 := OwnL.len p.held.pr
        obtain ⟨v, w, rfl⟩ : ∃ v w, vs = [v, w] := by
          match vs, lv with
          | [v, w], _ => exact ⟨v, w, rfl⟩
        · skip
          refine ⟨v, w, rfl, ?_⟩
          have hd : Held (PAll X.K [v, w] [(x1.1, minAll [dep x1, dep x2]), (x2.1, minAll [dep x1, dep x2])]) [] H1 Z2 Fs2 F' := ⟨hL, p2.held.nd, p2.held.nf, p2.held.nz⟩
          obtain ⟨Fs', g⟩ := names2_ok (i := i) (j := j) p2.good hd
          refine q _ H1 Z2 Fs' ⟨⟨fun a o e n => p2.tr.ev a o e fun i hi => n i (List.mem_append_left _ hi), p2.tr.dom, p2.tr.zm, fun a z => (p2.tr.zb a z).imp id fun z => z.imp id fun ⟨i, hi, q⟩ => ⟨i, List.mem_append_left _ hi, q⟩, fun l hi => ?_, fun l hi a ha => ?_⟩, g.good, g.st, g.ln⟩
          · rw [g.fo l fun z => hi (List.mem_append_right _ z)]
            exact p2.tr.fo l fun z => hi (List.mem_append_left _ z)
          · by_cases m : l ∈ [i, j]
            · exact (p2.new a (g.fb l m a ha)).imp id fun ⟨j, hj, q⟩ => ⟨j, List.mem_append_left _ hj, q⟩
            · rw [g.fo l m] at ha
              by_cases m2 : l ∈ mv ++ fv
              · exact (p2.tr.fb l m2 a ha).imp id fun ⟨j, hj, q⟩ => ⟨j, List.mem_append_left _ hj, q⟩
              · rw [p2.tr.fo l m2] at ha
                exact .inr ⟨l, hi, ha⟩
    · cases eb
  · cases eg
end
end Sq
end

section
namespace Sq
open PySem PySem.Spec L2
/-! ### what is walked -/
abbrev Src := SD → Res (List PyData × SD)
def dat (xs : List DV) : List PyData := xs.map (·.1)
def iL (a : Ex) : Src := fun s => do
  let (x, s) ← a s
  match x.1 with
  | .list ds => .ok (ds, s)
  | .tuple ds => .ok (ds, s)
  | .str z => .ok (z.cps.toList.map fun c => .str ⟨#[c]⟩, s)
  | _ => .bad
def lo62 (i : Int) : Bool := decide (-(2 ^ 62) ≤ i) && decide (i < 2 ^ 62)
def rng (lo : Int) (n : Nat) : List PyData := (List.range n).map fun i => .int (lo + (i : Nat))
def iR1 (a : Exs) : Src := fun s => do
  let (xs, s) ← a s
  match dat xs with
  | [.int j] => if lo62 j then .ok (rng 0 j.toNat, s) else .bad
  | _ => .bad
def iR2 (a : Exs) : Src := fun s => do
  let (xs, s) ← a s
  match dat xs with
  | [.int i, .int j] => if lo62 i && lo62 j then .ok (rng i (j - i).toNat, s) else .bad
  | _ => .bad
def rngD (hi : Int) (n : Nat) : List PyData := (List.range n).map fun i => .int (hi - (i : Nat))
def iR3 (a : Exs) : Src := fun s => do
  let (xs, s) ← a s
  match dat xs with
  | [.int i, .int j, .int (-1)] => if lo62 i && lo62 j then .ok (rngD i (i - j).toNat, s) else .bad
  | _ => .bad
def enumD (ds : List PyData) : List PyData := ds.mapIdx fun i d => .tuple [.int (i : Nat), d]
def iEn (a : Exs) : Src := fun s => do
  let (xs, s) ← a s
  match dat xs with
  | [.list ds] => .ok (enumD ds, s)
  | _ => .bad
def zipD (ds es : List PyData) : List PyData := ds.zipWith (fun d e => .tuple [d, e]) es
def iZ (a : Exs) : Src := fun s => do
  let (xs, s) ← a s
  match dat xs with
  | [.list ds, .list es] => .ok (zipD ds es, s)
  | _ => .bad
def iRv (a : Exs) : Src := fun s => do
  let (xs, s) ← a s
  match dat xs with
  | [.list ds] => .ok (ds.reverse, s)
  | _ => .bad

/-- the walk J goes through ds, as long as what is shared stays -/
def ItOk (K : PySem.W.Frag) (Z : Zs) (J : It) (ds : List PyData) (H0 : Hp) : Prop := ∀ H, Kp Z H0 H → (∀ i d, ds[i]? = some d → J.go i H ∧ ∀ x H', J.yld i H x H' → Own K Z H' 0 x d [] ∧ ((H' = H) ∨ ∃ p o, H p = none ∧ H' = upd H p (.tup o))) ∧ ∀ i, ds.length ≤ i → J.stop i H
def tI (K : PySem.W.Frag) (fv mv : List Nat) (f : Src) : TI := fun σ H R => ∃ Z s Fs ds s', Good K Z H σ s Fs ∧ f s = .ok (ds, s') ∧ ∀ J H' Z' Fs', Post K PNone [] mv H Z Fs σ s' H' Z' Fs' [] → ItOk K (Zf Z' Fs' fv) J ds H' → R J H'
section
variable {K : PySem.W.Frag} {Z Z1 Z2 : Zs} {H H1 H2 : Hp} {Fs Fs1 Fs2 : Fp} {σ : L2.St} {s s' s1 s2 : SD} {F F2 : List Addr} {fv mv : List Nat} {x : DV} {v : V}
theorem Post.shareAll (h : Post K (POne K v x) fv mv H Z Fs σ s1 H1 Z1 Fs1 F) : ∃ Z2, Post K (POne K v (x.1, 0)) fv mv H Z Fs σ s1 H1 Z2 Fs1 [] := by
  obtain ⟨F', sb, q⟩ := Own.lower (j := 0) x.1 h.held.pr h.held.nd (Nat.zero_le _)
  have e : F' = [] := Own.nil0 x.1 (q (fun _ => True) (fun _ _ => trivial) fun _ _ _ => trivial)
  subst e
  refine ⟨_, h.shared (stb_one _ _ _) sb ?_⟩
  exact q _ (fun a z => z.imp (fun z => .inl z) id) fun a ha hn => .inl (.inr ⟨ha, hn⟩)
theorem Post.drop {P : Pr} (h : Post K P fv mv H Z Fs σ s1 H1 Z1 Fs1 F) : Post K PNone [] mv H Z Fs σ s1 H1 Z1 Fs1 [] := h.nothing.fv0
/-- of a list, a tuple: an item as it is shared -/
theorem itemL {ds : List PyData} {vs : List V} {i : Nat} {d : PyData} {w : V} (o : OwnAll K Z H 0 vs ds []) (e : ds[i]? = some d) (ew : vs[i]? = some w) : Own K Z H 0 w d [] := by
  obtain ⟨w', F', ew', ow, sb⟩ := OwnAll.get ds i o e
  rw [ew] at ew'
  cases ew'
  rw [List.sublist_nil.mp sb] at ow
  exact ow
theorem it_list {p : Addr} {vs : List V} {ds : List PyData} (z : Z p) (r : Rd H p (.lst vs)) (o : OwnAll K Z H 0 vs ds []) : ItOk K Z (Itl K p) ds H := fun H' kp => by
  have r' : SqL K H' p vs := .inl (Rd.kp kp z r)
  have o' : OwnAll K Z H' 0 vs ds [] := OwnAll.keep ds o fun a ob e q => kp a ob e (q.imp (fun q => q.elim (fun q => (by cases q)) id) id)
  have l := OwnAll.len ds o
  refine ⟨fun i d e => ?_, fun i li => ⟨vs, r', by omega⟩⟩
  obtain ⟨w, _, ew, _, _⟩ := OwnAll.get ds i o' e
  exact ⟨⟨vs, w, r', ew⟩, fun x H2 ⟨e1, q⟩ => by subst e1; exact ⟨itemL o' e (q vs r'), .inl rfl⟩⟩
theorem it_tup {p : Addr} {vs : List V} {ds : List PyData} (r : SqT K H p vs) (o : OwnAll K Z H 0 vs ds []) : ItOk K Z (Itt K p) ds H := fun H' kp => by
  have r' : SqT K H' p vs := SqT.kp kp r
  have o' : OwnAll K Z H' 0 vs ds [] := OwnAll.keep ds o fun a ob e q => kp a ob e (q.imp (fun q => q.elim (fun q => (by cases q)) id) id)
  have l := OwnAll.len ds o
  refine ⟨fun i d e => ?_, fun i li => ⟨vs, r', by omega⟩⟩
  obtain ⟨w, _, ew, _, _⟩ := OwnAll.get ds i o' e
  exact ⟨⟨vs, w, r', ew⟩, fun x H2 ⟨e1, q⟩ => by subst e1; exact ⟨itemL o' e (q vs r'), .inl rfl⟩⟩
theorem it_str (z : Str) : ItOk K Z (Its z) (z.cps.toList.map fun c => .str ⟨#[c]⟩) H := fun H' kp => by
  refine ⟨fun i d e => ?_, fun i li => show z.cps.size ≤ i from by simpa using li⟩
  rw [List.getElem?_map] at e
  cases ec : z.cps.toList[i]? with
  | none => rw [ec] at e; cases e
  | some c =>
    rw [ec] at e
    cases e
    have ec' : z.cps[i]? = some c := by simpa using ec
    have lt : i < z.cps.size := by
      obtain ⟨h, _⟩ := Array.getElem?_eq_some_iff.mp ec'
      exact h
    exact ⟨lt, fun x H2 ⟨e1, c', e2, e3⟩ => by
      subst e1 e3
      rw [ec'] at e2
      cases e2
      exact ⟨str_own, .inl rfl⟩⟩
theorem it_rng (lo : Int) (n : Nat) : ItOk K Z (Itr lo n) (rng lo n) H := fun H' kp => by
  refine ⟨fun i d e => ?_, fun i li => show n ≤ i from by simpa [rng] using li⟩
  unfold rng at e
  rw [List.getElem?_map] at e
  by_cases l : i < n
  · rw [List.getElem?_range l] at e
    cases e
    exact ⟨l, fun x H2 ⟨e1, e2⟩ => by subst e1 e2; exact ⟨int_own, .inl rfl⟩⟩
  · rw [List.getElem?_eq_none (by simpa using l)] at e; cases e
theorem it_rngD (hi : Int) (n : Nat) : ItOk K Z (Itc hi (-1) n) (rngD hi n) H := fun H' kp => by
  refine ⟨fun i d e => ?_, fun i li => show n ≤ i from by simpa [rngD] using li⟩
  unfold rngD at e
  rw [List.getElem?_map] at e
  by_cases l : i < n
  · rw [List.getElem?_range l] at e
    cases e
    refine ⟨l, fun x H2 ⟨e1, e2⟩ => ?_⟩
    subst e1 e2
    rw [show hi + (i : Nat) * (-1) = hi - (i : Nat) by omega]
    exact ⟨int_own, .inl rfl⟩
  · rw [List.getElem?_eq_none (by simpa using l)] at e; cases e
theorem two_tup {T : Addr} {a b : V} {da db : PyData} (hn : H T = none) (oa : Own K Z H 0 a da []) (ob : Own K Z H 0 b db []) : Own K Z (upd H T (.tup [a, b])) 0 (.ref T) (.tuple [da, db]) [] := by
  have kp : ∀ S, Kp S H (upd H T (.tup [a, b])) := fun S c o e _ => by rw [upd_ne (ne_of_none e hn)]; exact e
  unfold Own
  refine ⟨T, [a, b], rfl, SqT.of upd_same, ?_⟩
  have := OwnAll.app (OwnAll.one (Own.keep _ oa (kp _))) (OwnAll.one (Own.keep _ ob (kp _)))
  simpa using this
theorem it_enum {p : Addr} {vs : List V} {ds : List PyData} (z : Z p) (r : Rd H p (.lst vs)) (o : OwnAll K Z H 0 vs ds []) : ItOk K Z (Ite K p) (enumD ds) H := fun H' kp => by
  have r' : SqL K H' p vs := .inl (Rd.kp kp z r)
  have o' : OwnAll K Z H' 0 vs ds [] := OwnAll.keep ds o fun a ob e q => kp a ob e (q.imp (fun q => q.elim (fun q => (by cases q)) id) id)
  have l := OwnAll.len ds o
  refine ⟨fun i d e => ?_, fun i li => ⟨vs, r', l ▸ (show ds.length ≤ i from by simpa [enumD] using li)⟩⟩
  unfold enumD at e
  rw [List.getElem?_mapIdx] at e
  cases ed : ds[i]? with
  | none => rw [ed] at e; cases e
  | some d0 =>
    rw [ed] at e
    cases e
    obtain ⟨w, _, ew, _, _⟩ := OwnAll.get ds i o' ed
    refine ⟨⟨vs, w, r', ew⟩, fun x H2 ⟨T, y, e1, hn, e2, q⟩ => ?_⟩
    subst e1 e2
    exact ⟨two_tup hn int_own (itemL o' ed (q vs r')), .inr ⟨T, _, hn, rfl⟩⟩
theorem it_zip {p p2 : Addr} {vs ws : List V} {ds es : List PyData} (z : Z p) (r : Rd H p (.lst vs)) (o : OwnAll K Z H 0 vs ds []) (z2 : Z p2) (r2 : Rd H p2 (.lst ws)) (o2 : OwnAll K Z H 0 ws es []) : ItOk K Z (Itz K p p2) (zipD ds es) H := fun H' kp => by
  have r' : SqL K H' p vs := .inl (Rd.kp kp z r)
  have o' : OwnAll K Z H' 0 vs ds [] := OwnAll.keep ds o fun a ob e q => kp a ob e (q.imp (fun q => q.elim (fun q => (by cases q)) id) id)
  have r2' : SqL K H' p2 ws := .inl (Rd.kp kp z2 r2)
  have o2' : OwnAll K Z H' 0 ws es [] := OwnAll.keep es o2 fun a ob e q => kp a ob e (q.imp (fun q => q.elim (fun q => (by cases q)) id) id)
  have l := OwnAll.len ds o
  have l2 := OwnAll.len es o2
  refine ⟨fun i d e => ?_, fun i li => ⟨vs, ws, r', r2', by have : min ds.length es.length ≤ i := by simpa [zipD] using li
                                                            omega⟩⟩
  unfold zipD at e
  rw [List.getElem?_zipWith] at e
  cases ed : ds[i]? with
  | none => rw [ed] at e; cases e
  | some d0 =>
    cases ee : es[i]? with
    | none => rw [ed, ee] at e; cases e
    | some d1 =>
      rw [ed, ee] at e
      cases e
      obtain ⟨w, _, ew, _, _⟩ := OwnAll.get ds i o' ed
      obtain ⟨w2, _, ew2, _, _⟩ := OwnAll.get es i o2' ee
      refine ⟨⟨vs, ws, w, w2, r', r2', ew, ew2⟩, fun x H2 ⟨T, y, y2, e1, hn, e2, q, q2⟩ => ?_⟩
      subst e1 e2
      exact ⟨two_tup hn (itemL o' ed (q vs r')) (itemL o2' ee (q2 ws r2')), .inr ⟨T, _, hn, rfl⟩⟩
theorem it_rev {p : Addr} {vs : List V} {ds : List PyData} (z : Z p) (r : Rd H p (.lst vs)) (o : OwnAll K Z H 0 vs ds []) : ItOk K Z (Itv K p vs.length) ds.reverse H := fun H' kp => by
  have r' : SqL K H' p vs := .inl (Rd.kp kp z r)
  have o' : OwnAll K Z H' 0 vs ds [] := OwnAll.keep ds o fun a ob e q => kp a ob e (q.imp (fun q => q.elim (fun q => (by cases q)) id) id)
  have l := OwnAll.len ds o
  refine ⟨fun i d e => ?_, fun i li => by have : ds.length ≤ i := by simpa using li
                                          show vs.length ≤ i
                                          omega⟩
  have lt : i < ds.length := by
    obtain ⟨h, _⟩ := List.getElem?_eq_some_iff.mp e
    simpa using h
  rw [List.getElem?_reverse lt] at e
  obtain ⟨w, _, ew, _, _⟩ := OwnAll.get ds _ o' e
  have ei : ds.length - 1 - i = vs.length - 1 - i := by omega
  rw [ei] at e ew
  exact ⟨⟨by omega, vs, w, r', ew⟩, fun x H2 ⟨e1, q⟩ => by subst e1; exact ⟨itemL o' e (q vs r'), .inl rfl⟩⟩
theorem ownl_ints {xs : List DV} {vs : List V} {F : List Addr} {is : List Int} (o : OwnL K Z H vs xs F) (e : xs.map (·.1) = is.map .int) : vs = is.map .int := by
  induction xs generalizing vs F is with
  | nil =>
    cases is with
    | nil => exact o.1
    | cons i is => cases e
  | cons x xs ih =>
    cases is with
    | nil => cases e
    | cons i is =>
      obtain ⟨v, vs', F1, F2, rfl, h1, h2, _⟩ := o
      obtain ⟨e1, e2⟩ := List.cons.inj e
      have e1' : x.1 = .int i := e1
      rw [e1'] at h1
      rw [own_int h1, ih h2 e2]
      rfl
theorem lo62_ok {i : Int} (h : lo62 i = true) : -(2 ^ 62) ≤ i ∧ i < 2 ^ 62 := by
  unfold lo62 at h
  rw [Bool.and_eq_true] at h
  exact ⟨of_decide_eq_true h.1, of_decide_eq_true h.2⟩
end
section
variable {X : Cx} {e tg a b : Expr} {es : List Expr} {pos p : Pos} {fv mv : List Nat} {f : Ex} {fs : Exs} {io : List (Nat × Nat)}
theorem PI.of {t t' : TI} (h : PI X tg e t) (i : ∀ σ H R, t' σ H R → t σ H R) : PI X tg e t' := ⟨fun pins s σ H R I q => h.run pins s σ H R I (i σ H R q)⟩
theorem PI.or {t t' : TI} (h : PI X tg e t) (h' : PI X tg e t') : PI X tg e (fun σ H R => t σ H R ∨ t' σ H R) := ⟨fun pins s σ H R I q => q.elim (h.run pins s σ H R I) (h'.run pins s σ H R I)⟩
theorem ri_list (h : PE X e (tE X.K fv mv f)) : PI X tg e (tI X.K fv mv (iL f)) := by
  refine PI.of (PI.or (PI.or (pi_list h) (pi_tup h)) (pi_str h)) fun σ H R h => ?_
  obtain ⟨Z, s, Fs, ds, s', gd, e, q⟩ := h
  unfold iL at e
  obtain ⟨⟨x, s1⟩, ea, e⟩ := Res.bind_eq_ok.mp e
  obtain ⟨xd, xk⟩ := x
  cases xd with
  | list d0 =>
    cases e
    refine .inl (.inl ⟨Z, s, Fs, _, _, gd, ea, fun v H1 Z1 Fs1 F p => ?_⟩)
    obtain ⟨Z2, p2⟩ := p.shareAll
    have o : Own X.K _ _ 0 v (.list ds) [] := p2.held.pr
    unfold Own at o
    obtain ⟨pa, vs, rfl, ⟨z, r⟩, o⟩ := o
    exact ⟨pa, rfl, ⟨vs, .inl r⟩, q _ H1 Z2 Fs1 p2.drop (it_list z r o)⟩
  | tuple d0 =>
    cases e
    refine .inl (.inr ⟨Z, s, Fs, _, _, gd, ea, fun v H1 Z1 Fs1 F p => ?_⟩)
    obtain ⟨Z2, p2⟩ := p.shareAll
    have o : Own X.K _ _ 0 v (.tuple ds) [] := p2.held.pr
    unfold Own at o
    obtain ⟨pa, vs, rfl, r, o⟩ := o
    exact ⟨pa, rfl, ⟨vs, r⟩, q _ H1 Z2 Fs1 p2.drop (it_tup r o)⟩
  | str z =>
    cases e
    refine .inr ⟨Z, s, Fs, _, _, gd, ea, fun v H1 Z1 Fs1 F p => ?_⟩
    exact ⟨z, own_str p.held.pr, q _ H1 Z1 Fs1 p.drop (it_str z)⟩
  | _ => cases e
theorem ri_range1 (hg : Gl X "range") (hm : X.mg "range" = none) (ha : PA X [a] (tA X.K fv mv io fs)) (hs : starEach [a] X.env = [(false, eval a X.env)] := by rfl) : PI X tg (.Call (.Name "range" p) [a] [] pos) (tI X.K fv mv (iR1 fs)) := by
  refine PI.of (pi_range1 hg hm ha hs) fun σ H R h => ?_
  obtain ⟨Z, s, Fs, ds, s', gd, e, q⟩ := h
  unfold iR1 at e
  obtain ⟨⟨xs, s1⟩, ea, e⟩ := Res.bind_eq_ok.mp e
  simp only at e
  split at e
  · next j ex =>
    split at e
    · next c =>
      cases e
      refine ⟨Z, s, Fs, _, _, gd, ea, fun vs H1 Z1 Fs1 F p _ => ?_⟩
      have ev := ownl_ints (is := [j]) p.held.pr ex
      obtain ⟨c1, c2⟩ := lo62_ok c
      exact ⟨j, ev, c1, c2, q _ H1 Z1 Fs1 p.drop (it_rng 0 _)⟩
    · cases e
  · cases e
theorem ri_range2 (hg : Gl X "range") (hm : X.mg "range" = none) (ha : PA X [a, b] (tA X.K fv mv io fs)) (hs : starEach [a, b] X.env = [(false, eval a X.env), (false, eval b X.env)] := by rfl) (hs2 : starEach [b] X.env = [(false, eval b X.env)] := by rfl) : PI X tg (.Call (.Name "range" p) [a, b] [] pos) (tI X.K fv mv (iR2 fs)) := by
  refine PI.of (pi_range2 hg hm ha hs hs2) fun σ H R h => ?_
  obtain ⟨Z, s, Fs, ds, s', gd, e, q⟩ := h
  unfold iR2 at e
  obtain ⟨⟨xs, s1⟩, ea, e⟩ := Res.bind_eq_ok.mp e
  simp only at e
  split at e
  · next i j ex =>
    split at e
    · next c =>
      cases e
      rw [Bool.and_eq_true] at c
      refine ⟨Z, s, Fs, _, _, gd, ea, fun vs H1 Z1 Fs1 F p _ => ?_⟩
      have ev := ownl_ints (is := [i, j]) p.held.pr ex
      obtain ⟨c1, c2⟩ := lo62_ok c.1
      obtain ⟨c3, c4⟩ := lo62_ok c.2
      exact ⟨i, j, ev, ⟨c1, c2, c3, c4⟩, q _ H1 Z1 Fs1 p.drop (it_rng i _)⟩
    · cases e
  · cases e
theorem ri_range3 {c : Expr} (hg : Gl X "range") (hm : X.mg "range" = none) (ha : PA X [a, b, c] (tA X.K fv mv io fs)) (hs : starEach [a, b, c] X.env = (false, eval a X.env) :: starEach [b, c] X.env := by rfl) (hpl : (backTo pos (starEach [b, c] X.env)).any (·.1) = false := by rfl) : PI X tg (.Call (.Name "range" p) [a, b, c] [] pos) (tI X.K fv mv (iR3 fs)) := by
  refine PI.of (pi_range3 hg hm ha hs hpl) fun σ H R h => ?_
  obtain ⟨Z, s, Fs, ds, s', gd, e, q⟩ := h
  unfold iR3 at e
  obtain ⟨⟨xs, s1⟩, ea, e⟩ := Res.bind_eq_ok.mp e
  simp only at e
  split at e
  · next i j ex =>
    split at e
    · next c =>
      cases e
      rw [Bool.and_eq_true] at c
      refine ⟨Z, s, Fs, _, _, gd, ea, fun vs H1 Z1 Fs1 F p _ => ?_⟩
      have ev := ownl_ints (is := [i, j, -1]) p.held.pr ex
      obtain ⟨c1, c2⟩ := lo62_ok c.1
      obtain ⟨c3, c4⟩ := lo62_ok c.2
      exact ⟨i, j, -1, _, ev, RgC.neg c1 c2 c3 c4, q _ H1 Z1 Fs1 p.drop (it_rngD i _)⟩
    · cases e
  · cases e
theorem one_list {K : PySem.W.Frag} {Z : Zs} {H : Hp} {vs : List V} {xs : List DV} {F : List Addr} {ds : List PyData} (o : OwnL K Z H vs xs F) (e : xs.map (·.1) = [.list ds]) : ∃ v k, vs = [v] ∧ Own K Z H k v (.list ds) F := by
  cases xs with
  | nil => cases e
  | cons x xs =>
    obtain ⟨e1, e2⟩ := List.cons.inj e
    have : xs = [] := by simpa using e2
    subst this
    obtain ⟨v, ev, ow⟩ := one_own o
    have e1' : x.1 = .list ds := e1
    rw [e1'] at ow
    exact ⟨v, x.2, ev, ow⟩
theorem Post.oneOf {K : PySem.W.Frag} {Z Z1 : Zs} {H H1 : Hp} {Fs Fs1 : Fp} {σ : L2.St} {s1 : SD} {F : List Addr} {vs : List V} {xs : List DV} {ds : List PyData} (p : Post K (PAll K vs xs) fv mv H Z Fs σ s1 H1 Z1 Fs1 F) (e : xs.map (·.1) = [.list ds]) : ∃ pa ws Z2, vs = [.ref pa] ∧ Zf Z2 Fs1 fv pa ∧ Rd H1 pa (.lst ws) ∧ OwnAll K (Zf Z2 Fs1 fv) H1 0 ws ds [] ∧ Post K PNone [] mv H Z Fs σ s1 H1 Z2 Fs1 [] := by
  obtain ⟨v, k, rfl, o⟩ := one_list p.held.pr e
  have p1 : Post K (POne K v (.list ds, k)) fv mv H Z Fs σ s1 H1 Z1 Fs1 F := p.sub (List.Sublist.refl _) o
  obtain ⟨Z2, p2⟩ := p1.shareAll
  have o2 : Own K _ _ 0 v (.list ds) [] := p2.held.pr
  unfold Own at o2
  obtain ⟨pa, ws, rfl, ⟨z, r⟩, o2⟩ := o2
  exact ⟨pa, ws, Z2, rfl, z, r, o2, p2.drop⟩
theorem ri_enum {elts : List Expr} {kk : Nat} {tpos : Pos} (hg : Gl X "enumerate") (hm : X.mg "enumerate" = none) (ha : PA X [a] (tA X.K fv mv io fs)) (hp : ∀ {ta : TA}, PA X [a] ta → PI X (.Tuple elts kk tpos) (.Call (.Name "enumerate" p) [a] [] pos) (iEnum X.K ta)) : PI X (.Tuple elts kk tpos) (.Call (.Name "enumerate" p) [a] [] pos) (tI X.K fv mv (iEn fs)) := by
  refine PI.of (hp ha) fun σ H R h => ?_
  obtain ⟨Z, s, Fs, ds, s', gd, e, q⟩ := h
  unfold iEn at e
  obtain ⟨⟨xs, s1⟩, ea, e⟩ := Res.bind_eq_ok.mp e
  simp only at e
  split at e
  · next d0 ex =>
    cases e
    refine ⟨Z, s, Fs, _, _, gd, ea, fun vs H1 Z1 Fs1 F p _ => ?_⟩
    obtain ⟨pa, ws, Z2, rfl, z, r, o, p2⟩ := p.oneOf ex
    exact ⟨pa, ws, rfl, .inl r, q _ H1 Z2 Fs1 p2 (it_enum z r o)⟩
  · cases e
theorem ri_rev (hg : Gl X "reversed") (hm : X.mg "reversed" = none) (ha : PA X [a] (tA X.K fv mv io fs)) (hp : ∀ {ta : TA}, PA X [a] ta → PI X tg (.Call (.Name "reversed" p) [a] [] pos) (iRev X.K ta)) : PI X tg (.Call (.Name "reversed" p) [a] [] pos) (tI X.K fv mv (iRv fs)) := by
  refine PI.of (hp ha) fun σ H R h => ?_
  obtain ⟨Z, s, Fs, ds, s', gd, e, q⟩ := h
  unfold iRv at e
  obtain ⟨⟨xs, s1⟩, ea, e⟩ := Res.bind_eq_ok.mp e
  simp only at e
  split at e
  · next d0 ex =>
    cases e
    refine ⟨Z, s, Fs, _, _, gd, ea, fun vs H1 Z1 Fs1 F p _ => ?_⟩
    obtain ⟨pa, ws, Z2, rfl, z, r, o, p2⟩ := p.oneOf ex
    exact ⟨pa, ws, rfl, .inl r, q _ H1 Z2 Fs1 p2 (it_rev z r o)⟩
  · cases e
theorem ri_zip {elts : List Expr} {kk : Nat} {tpos : Pos} (hg : Gl X "zip") (hm : X.mg "zip" = none) (ha : PA X [a, b] (tA X.K fv mv io fs)) (hp : ∀ {ta : TA}, PA X [a, b] ta → PI X (.Tuple elts kk tpos) (.Call (.Name "zip" p) [a, b] [] pos) (iZip X.K ta)) : PI X (.Tuple elts kk tpos) (.Call (.Name "zip" p) [a, b] [] pos) (tI X.K fv mv (iZ fs)) := by
  refine PI.of (hp ha) fun σ H R h => ?_
  obtain ⟨Z, s, Fs, ds, s', gd, e, q⟩ := h
  unfold iZ at e
  obtain ⟨⟨xs, s1⟩, ea, e⟩ := Res.bind_eq_ok.mp e
  simp only at e
  split at e
  · next d0 d1 ex =>
    cases e
    refine ⟨Z, s, Fs, _, _, gd, ea, fun vs H1 Z1 Fs1 F p _ => ?_⟩
    -- both of them shared
    obtain ⟨x, ys, rfl⟩ : ∃ x ys, xs = x :: ys := by
      cases xs with
      | nil => cases ex
      | cons x ys => exact ⟨x, ys, rfl⟩
    obtain ⟨e1, e2⟩ := List.cons.inj ex
    obtain ⟨y, rfl, e2'⟩ : ∃ y, ys = [y] ∧ y.1 = .list d1 := by
      cases ys with
      | nil => cases e2
      | cons y zs =>
        obtain ⟨e3, e4⟩ := List.cons.inj e2
        have : zs = [] := by simpa using e4
        subst this
        exact ⟨y, rfl, e3⟩
    obtain ⟨v, vs1, F1, F2, rfl, o1, o2, rfl⟩ := p.held.pr
    obtain ⟨w, rfl, o3⟩ := one_own o2
    have e1' : x.1 = .list d0 := e1
    rw [e1'] at o1
    rw [e2'] at o3
    obtain ⟨n1, n2, n3⟩ := List.nodup_append.mp p.held.nd
    obtain ⟨G1, t1, q1⟩ := Own.lower (j := 0) _ o1 n1 (Nat.zero_le _)
    obtain ⟨G2, t2, q2⟩ := Own.lower (j := 0) _ o3 n2 (Nat.zero_le _)
    have g1 : G1 = [] := Own.nil0 _ (q1 (fun _ => True) (fun _ _ => trivial) fun _ _ _ => trivial)
    have g2 : G2 = [] := Own.nil0 _ (q2 (fun _ => True) (fun _ _ => trivial) fun _ _ _ => trivial)
    subst g1 g2
    have p2 : Post X.K (fun Z H F => F = [] ∧ Own X.K Z H 0 v (.list d0) [] ∧ Own X.K Z H 0 w (.list d1) []) fv mv H Z Fs σ _ H1 (Zp Z1 (F1 ++ F2) []) Fs1 [] := p.shared (stb_all _ _ _) (List.nil_sublist _) ⟨rfl, q1 _ (fun a z => z.imp (fun z => .inl z) id) fun a ha hn => .inl (.inr ⟨List.mem_append_left _ ha, hn⟩), q2 _ (fun a z => z.imp (fun z => .inl z) id) fun a ha hn => .inl (.inr ⟨List.mem_append_right _ ha, hn⟩)⟩
    obtain ⟨_, oa, ob⟩ := p2.held.pr
    unfold Own at oa ob
    obtain ⟨pa, ws, rfl, ⟨z, r⟩, oa⟩ := oa
    obtain ⟨pb, us, rfl, ⟨z2, r2⟩, ob⟩ := ob
    exact ⟨pa, pb, ws, us, rfl, .inl r, .inl r2, q _ H1 _ Fs1 p2.drop (it_zip z r oa z2 r2 ob)⟩
  · cases e
end
end Sq
end

section
namespace Sq
open PySem PySem.Spec L2
/-! ### loops -/
def loopF (b : Bd) (body : Sx) : List PyData → SD → Res (Fl × SD)
  | [], s => .ok (.next, s)
  | d :: ds, s => do
    let s ← b (d, 0) s
    let (fl, s) ← body s
    match fl with
    | .next => loopF b body ds s
    | .cont => loopF b body ds s
    | .brk => .ok (.next, s)
    | .ret x => .ok (.ret x, s)
def sFor (b : Bd) (fv : List Nat) (it : Src) (body : Sx) : Sx := fun s => do
  let (ds, s) ← it s
  loopF b body ds (demote fv s)
/-- what a loop left alone is as it was; what it changed is kept where it shares nothing -/
def restore (ch : List Nat) (s1 s2 : SD) : SD := s1.mapIdx fun i o => if i ∈ ch then keepFull ((s2[i]?).getD none) else o
def sForR (b : Bd) (fv ch : List Nat) (it : Src) (body : Sx) : Sx := fun s => do
  let (ds, s) ← it s
  let (fl, s2) ← loopF b body ds (demote fv s)
  match fl with
  | .next => .ok (.next, restore ch s s2)
  | fl => .ok (fl, s2)
def loopW (c : Tst) (body : Sx) : Nat → SD → Res (Fl × SD)
  | 0, _ => .bad
  | n + 1, s => do
    let (t, s) ← c s
    if t then do
      let (fl, s) ← body s
      match fl with
      | .next => loopW c body n s
      | .cont => loopW c body n s
      | .brk => .ok (.next, s)
      | .ret x => .ok (.ret x, s)
    else .ok (.next, s)
def sWhile (fuel : Nat) (c : Tst) (body : Sx) : Sx := fun s => loopW c body fuel s
section
variable {K : PySem.W.Frag} {Z Z1 Z2 Z0 : Zs} {H H1 H2 H0 : Hp} {Fs Fs1 Fs2 Fs0 : Fp} {σ σ1 σ2 : L2.St} {s s' s1 s2 : SD} {F F2 : List Addr} {fv mv asg tgs : List Nat}
theorem Kp.of (g : Good K Z0 H0 σ s Fs0) (t : Tr mv H0 Z0 Fs0 H Z Fs) : Kp Z0 H0 H := fun a o e q => t.ev a o e fun i _ ha => by
  rcases q with q | q
  · exact g.nz i a ha q
  · obtain ⟨o', e', c⟩ := g.isl i a ha
    rw [e] at e'; cases e'
    exact q c
theorem Good.ext {H' : Hp} (g : Good K Z H σ s Fs) (h : (H' = H) ∨ ∃ p o, H p = none ∧ H' = upd H p (.tup o)) : Good K Z H' σ s Fs := by
  rcases h with rfl | ⟨p, o, hp, rfl⟩
  · exact g
  · exact g.laid hp
theorem Tr.ext {H' : Hp} (t : Tr mv H0 Z0 Fs0 H Z Fs) (h : (H' = H) ∨ ∃ p o, H p = none ∧ H' = upd H p (.tup o)) : Tr mv H0 Z0 Fs0 H' Z Fs := by
  rcases h with rfl | ⟨p, o, hp, rfl⟩
  · exact t
  · refine ⟨fun a u e n => ?_, fun a e => ?_, t.zm, t.zb, t.fo, t.fb⟩
    · have e1 := t.ev a u e n
      rw [upd_ne (ne_of_none e1 hp)]; exact e1
    · by_cases q : a = p
      · subst q; rw [upd_same] at e; cases e
      · rw [upd_ne q] at e; exact t.dom a e
/-- an item bound -/
theorem bound {b : Bd} {d : PyData} {v : V} (p : PostS K asg mv σ H0 Z0 Fs0 σ1 s1 H1 Z1 Fs1) (g : PostG K tgs [] σ1 Fs1 σ2 s2 H1 Z1 Fs2) : PostS K (asg ++ tgs) (mv ++ tgs) σ H0 Z0 Fs0 σ2 s2 H1 Z1 Fs2 := by
  refine ⟨⟨fun a o e n => p.tr.ev a o e fun i hi => n i (List.mem_append_left _ hi), p.tr.dom, p.tr.zm, fun a z => (p.tr.zb a z).imp id fun z => z.imp id fun ⟨i, hi, q⟩ => ⟨i, List.mem_append_left _ hi, q⟩, fun i hi => ?_, fun i hi a ha => ?_⟩, g.good, fun i hi => (g.st i fun z => hi (List.mem_append_right _ z)).trans (p.st i fun z => hi (List.mem_append_left _ z)), g.ln.trans p.ln⟩
  · rw [g.fo i fun z => hi (List.mem_append_right _ z)]
    exact p.tr.fo i fun z => hi (List.mem_append_left _ z)
  · by_cases m : i ∈ tgs
    · cases g.fb i m a ha
    · rw [g.fo i m] at ha
      by_cases m2 : i ∈ mv
      · exact (p.tr.fb i m2 a ha).imp id fun ⟨j, hj, q⟩ => ⟨j, List.mem_append_left _ hj, q⟩
      · rw [p.tr.fo i m2] at ha
        exact .inr ⟨i, hi, ha⟩
theorem held0 {v : V} {d : PyData} (h : Own K Z H 0 v d []) : Held (POne K v (d, 0)) [] H Z Fs [] := ⟨Own.zmono _ h fun a z => .inl z, List.nodup_nil, fun a ha => (by cases ha), fun a ha => (by cases ha)⟩
theorem app4 {α : Type} {a b : List α} {x : α} (h : x ∈ (a ++ b) ++ b) : x ∈ a ++ b := by
  rcases List.mem_append.mp h with h | h
  · exact h
  · exact List.mem_append_right _ h
/-- the loop itself, from a state in which what is walked is shared -/
theorem loop_ok {b : Bd} {body : Sx} {J : It} {ds : List PyData} {fl : Fl} {sf : SD} {D : Ends} {aB mB : List Nat} (g0 : Good K Z0 H0 σ s Fs0) (ok : ItOk K Z0 J ds H0) (ev : loopF b body ds s = .ok (fl, sf)) (E : EndS K (tgs ++ aB) (tgs ++ mB) σ H0 Z0 Fs0 sf D fl) :
    ∃ W : Nat → Nat → L2.St → Hp → Prop, (∃ m, W 0 m σ H0) ∧ ∀ i m σ H, W i m σ H →
      (J.stop i H ∧ D.nx σ H) ∨ (J.go i H ∧ ∃ N : L2.St → Hp → Prop, (∀ σ' H', N σ' H' → ∃ m', m' < m ∧ W (i + 1) m' σ' H') ∧ ∀ x H', J.yld i H x H' → tG K tgs b x σ H' fun σ2 H2 => tS K aB mB body { D with nx := N, ct := N, bk := D.nx } σ2 H2) := by
  refine ⟨fun i m σ' H' => m = ds.length - i ∧ i ≤ ds.length ∧ ∃ Z' s' Fs', PostS K (tgs ++ aB) (tgs ++ mB) σ H0 Z0 Fs0 σ' s' H' Z' Fs' ∧ loopF b body (ds.drop i) s' = .ok (fl, sf), ⟨ds.length, rfl, Nat.zero_le _, Z0, s, Fs0, ⟨Tr.refl _, g0, fun _ _ => rfl, rfl⟩, ev⟩, ?_⟩
  rintro i m σ1 H1 ⟨rfl, hi, Z1, s1, Fs1, p, ev⟩
  have kp := Kp.of g0 p.tr
  obtain ⟨go, stop⟩ := ok H1 kp
  by_cases lt : i < ds.length
  · have ed : ds[i]? = some ds[i] := List.getElem?_eq_getElem lt
    rw [List.drop_eq_getElem_cons lt] at ev
    unfold loopF at ev
    obtain ⟨s2, eb, ev⟩ := Res.bind_eq_ok.mp ev
    obtain ⟨⟨fl1, s3⟩, eB, ev⟩ := Res.bind_eq_ok.mp ev
    obtain ⟨hgo, yl⟩ := go i _ ed
    refine .inr ⟨hgo, fun σ' H' => ds.length - (i + 1) = ds.length - (i + 1) ∧ i + 1 ≤ ds.length ∧ ∃ Z' s' Fs', PostS K (tgs ++ aB) (tgs ++ mB) σ H0 Z0 Fs0 σ' s' H' Z' Fs' ∧ loopF b body (ds.drop (i + 1)) s' = .ok (fl, sf), fun σ' H' h => ⟨ds.length - (i + 1), by omega, h⟩, fun x H' y => ?_⟩
    obtain ⟨ow, ex⟩ := yl x H' y
    have g1 := p.good.ext ex
    refine ⟨Z1, s1, Fs1, (ds[i], 0), s2, [], g1, held0 (Own.zmono _ ow p.tr.zm), eb, fun σ2 Fs2 pg => ?_⟩
    have p1 : PostS K (tgs ++ aB) (tgs ++ mB) σ H0 Z0 Fs0 σ2 s2 H' Z1 Fs2 := by
      have := bound (b := b) (d := ds[i]) (v := x) (⟨p.tr.ext ex, g1, p.st, p.ln⟩ : PostS K (tgs ++ aB) (tgs ++ mB) σ H0 Z0 Fs0 σ1 s1 H' Z1 Fs1) pg
      exact this.weak (fun j hj => (List.mem_append.mp hj).elim id fun h => List.mem_append_left _ h) (fun j hj => (List.mem_append.mp hj).elim id fun h => List.mem_append_left _ h)
    have glue : ∀ {σ3 : L2.St} {H3 : Hp} {Z3 : Zs} {Fs3 : Fp}, PostS K aB mB σ2 H' Z1 Fs2 σ3 s3 H3 Z3 Fs3 → PostS K (tgs ++ aB) (tgs ++ mB) σ H0 Z0 Fs0 σ3 s3 H3 Z3 Fs3 := fun q => (p1.trans q).weak (fun j h => app4 h) (fun j h => app4 h)
    refine ⟨Z1, s2, Fs2, fl1, s3, p1.good, eB, ?_⟩
    cases fl1 with
    | next => exact fun σ3 H3 Z3 Fs3 q => ⟨rfl, lt, Z3, s3, Fs3, glue q, ev⟩
    | cont => exact fun σ3 H3 Z3 Fs3 q => ⟨rfl, lt, Z3, s3, Fs3, glue q, ev⟩
    | brk =>
      cases ev
      exact fun σ3 H3 Z3 Fs3 q => E σ3 H3 Z3 Fs3 (glue q)
    | ret x =>
      cases ev
      refine fun v σ3 H3 Z3 Fs3 F q h n => E v σ3 H3 Z3 Fs3 F (glue q) h fun a ha => ?_
      exact (newBack p1.tr (n a ha)).imp id fun ⟨j, hj, z⟩ => ⟨j, app4 hj, z⟩
  · have e : i = ds.length := by omega
    subst e
    rw [List.drop_length] at ev
    cases ev
    exact .inl ⟨stop _ (Nat.le_refl _), E σ1 H1 Z1 Fs1 p⟩
end
section
variable {X : Cx} {e tg iter : Expr} {pos : Pos} {fv mv tgs aB mB : List Nat} {b : Bd} {it : Src} {body : Sx} {sts : List Stmt}
theorem rs_for (hp : PassesOwn (model X.prog X.w) X.A X.env X.xe) (hc : X.calm = true) (hi : PI X tg iter (tI X.K fv mv it)) (hg : PG X tg (tG X.K tgs b)) (hb : PSs X sts (tS X.K aB mB body)) (hs : ∀ x, foldedSetIterable iter X.env x = pure x := by intro _; rfl) :
    PS X (.For tg iter sts [] pos) (tS X.K (tgs ++ aB) ((mv ++ fv) ++ (tgs ++ mB)) (sFor b fv it body)) := by
  refine PS.of (ps_for hp hc hi hg hb hs) fun D σ H h => ?_
  obtain ⟨Z, s, Fs, fl, s', gd, e, q⟩ := h
  unfold sFor at e
  obtain ⟨⟨ds, s1⟩, ea, e⟩ := Res.bind_eq_ok.mp e
  refine ⟨Z, s, Fs, ds, s1, gd, ea, fun J H1 Z1 Fs1 p ok => ?_⟩
  have pd : PostS X.K [] (mv ++ fv) σ H Z Fs σ (demote fv s1) H1 (Zf Z1 Fs1 fv) (fun i => if i ∈ fv then [] else Fs1 i) := ⟨p.tr.trans (Tr.demote fv) (fun i hi => List.mem_append_left _ hi) (fun i hi => List.mem_append_right _ hi), p.good.demote fv, fun _ _ => rfl, rfl⟩
  exact loop_ok pd.good ok e (EndS.trans (a1 := []) pd q)
theorem rs_forR (hp : PassesOwn (model X.prog X.w) X.A X.env X.xe) (hc : X.calm = true) (hi : PI X tg iter (tI X.K fv mv it)) (hg : PG X tg (tG X.K tgs b)) (hb : PSs X sts (tS X.K aB mB body)) (dj : djn aB mB = true ∨ True) (d : djn fv (tgs ++ aB ++ mB) = true := by rfl) (hs : ∀ x, foldedSetIterable iter X.env x = pure x := by intro _; rfl) :
    PS X (.For tg iter sts [] pos) (tS X.K (tgs ++ aB) ((mv ++ fv) ++ (tgs ++ (aB ++ mB))) (sForR b fv (tgs ++ (aB ++ mB)) it body)) := by
  refine PS.of (ps_for hp hc hi hg hb hs) fun D σ H h => ?_
  obtain ⟨Z, s, Fs, fl, s', gd, e, q⟩ := h
  unfold sForR at e
  obtain ⟨⟨ds, s1⟩, ea, e⟩ := Res.bind_eq_ok.mp e
  obtain ⟨⟨fl1, s2⟩, el, e⟩ := Res.bind_eq_ok.mp e
  have dd := djn_ok d
  refine ⟨Z, s, Fs, ds, s1, gd, ea, fun J H1 Z1 Fs1 p ok => ?_⟩
  let Z0 : Zs := Zf Z1 Fs1 fv
  let Fs0 : Fp := fun i => if i ∈ fv then [] else Fs1 i
  have g0 : Good X.K Z0 H1 σ (demote fv s1) Fs0 := p.good.demote fv
  have pd : PostS X.K [] (mv ++ fv) σ H Z Fs σ (demote fv s1) H1 Z0 Fs0 := ⟨p.tr.trans (Tr.demote fv) (fun i hi => List.mem_append_left _ hi) (fun i hi => List.mem_append_right _ hi), g0, fun _ _ => rfl, rfl⟩
  have wk : ∀ {σ' : L2.St} {s' : SD} {H' : Hp} {Z' : Zs} {Fs' : Fp}, PostS X.K (tgs ++ aB) (tgs ++ mB) σ H1 Z0 Fs0 σ' s' H' Z' Fs' → PostS X.K (tgs ++ aB) (tgs ++ (aB ++ mB)) σ H1 Z0 Fs0 σ' s' H' Z' Fs' := fun q => q.weak (fun i h => h) fun i h => (List.mem_append.mp h).elim (fun h => List.mem_append_left _ h) fun h => List.mem_append_right _ (List.mem_append_right _ h)
  -- all but next: nothing is given back
  have other : fl1 ≠ .next → EndS X.K (tgs ++ aB) (tgs ++ mB) σ H1 Z0 Fs0 s2 D fl1 := fun n => by
    have e' : fl = fl1 ∧ s' = s2 := by
      cases fl1 with
      | next => exact absurd rfl n
      | brk => cases e; exact ⟨rfl, rfl⟩
      | cont => cases e; exact ⟨rfl, rfl⟩
      | ret x => cases e; exact ⟨rfl, rfl⟩
    obtain ⟨rfl, rfl⟩ := e'
    refine EndS.weak (EndS.trans (a1 := []) pd q) (fun i h => h) fun i h => (List.mem_append.mp h).elim (fun h => List.mem_append_left _ h) fun h => List.mem_append_right _ (List.mem_append_right _ h)
  refine loop_ok g0 ok el ?_
  cases fl1 with
  | brk => exact other (by intro h; cases h)
  | cont => exact other (by intro h; cases h)
  | ret x => exact other (by intro h; cases h)
  | next =>
    cases e
    intro σ2 H2 Z2 Fs2 p2'
    have p2 := wk p2'
    let ch := tgs ++ (aB ++ mB)
    have fvch : ∀ i ∈ fv, i ∉ ch := fun i hi h => by
      refine dd i hi ?_
      rcases List.mem_append.mp h with h | h
      · exact List.mem_append_left _ (List.mem_append_left _ h)
      · rcases List.mem_append.mp h with h | h
        · exact List.mem_append_left _ (List.mem_append_right _ h)
        · exact List.mem_append_right _ h
    have asgch : ∀ i, i ∉ ch → σ2[i]? = σ[i]? := fun i hi => p2.st i fun h => hi ((List.mem_append.mp h).elim (fun h => List.mem_append_left _ h) fun h => List.mem_append_right _ (List.mem_append_left _ h))
    have f01 : ∀ i a, a ∈ Fs0 i → a ∈ Fs1 i := fun i a ha => by
      have ha' : a ∈ (if i ∈ fv then [] else Fs1 i) := ha
      by_cases m : i ∈ fv
      · rw [if_pos m] at ha'; cases ha'
      · rw [if_neg m] at ha'; exact ha'
    -- what the unchanged slots hold stays as it was
    have keep1 : ∀ a o, H1 a = some o → (∀ i ∈ ch, a ∉ Fs1 i) → H2 a = some o := fun a o e n => p2.tr.ev a o e fun i hi ha => n i hi (f01 i a ha)
    let Z3 : Zs := fun a => Z2 a ∧ ∀ i, i ∉ ch → a ∉ Fs1 i
    let Fs3 : Fp := fun i => if i ∈ ch then Fs2 i else Fs1 i
    have fb2 : ∀ i ∈ ch, ∀ a ∈ Fs2 i, H1 a = none ∨ ∃ j ∈ ch, a ∈ Fs1 j := fun i hi a ha => (p2.tr.fb i hi a ha).imp id fun ⟨j, hj, z⟩ => ⟨j, hj, f01 j a z⟩
    have z12 : ∀ a, Z1 a → Z2 a := fun a z => p2.tr.zm a (.inl z)
    refine q σ2 H2 Z3 Fs3 ⟨⟨fun a o e n => ?_, fun a e => p.tr.dom a (p2.tr.dom a e), fun a z => ⟨z12 a (p.tr.zm a z), fun i _ ha => p.good.nz i a ha (p.tr.zm a z)⟩, fun a z => ?_, fun i hi => ?_, fun i hi a ha => ?_⟩, ⟨?_, fun i d k es => ?_, fun i => ?_, fun i j ne a ha hb => ?_, fun i a ha z => ?_, fun i a ha => ?_, fun a z => p2.good.zt a z.1⟩, fun i hi => p2.st i hi, p2.ln⟩
    · refine keep1 a o (p.tr.ev a o e fun i hi => n i (List.mem_append_left _ (List.mem_append_left _ hi))) fun i hi ha => ?_
      by_cases m : i ∈ mv
      · rcases p.tr.fb i m a ha with z | ⟨j, hj, z⟩
        · rw [e] at z; cases z
        · exact n j (List.mem_append_left _ (List.mem_append_left _ hj)) z
      · rw [p.tr.fo i m] at ha
        exact n i (List.mem_append_right _ hi) ha
    · obtain ⟨z, zn⟩ := z
      rcases p2.tr.zb a z with (z | ⟨i, hi, z⟩) | z | ⟨i, hi, z⟩
      · exact (p.tr.zb a z).imp id fun z => z.imp id fun ⟨j, hj, z⟩ => ⟨j, List.mem_append_left _ (List.mem_append_left _ hj), z⟩
      · exact absurd z (zn i (fvch i hi))
      · exact .inr (.inl (p.tr.dom a z))
      · have z' := f01 i a z
        by_cases m : i ∈ mv
        · exact .inr ((p.tr.fb i m a z').imp id fun ⟨j, hj, z⟩ => ⟨j, List.mem_append_left _ (List.mem_append_left _ hj), z⟩)
        · rw [p.tr.fo i m] at z'
          exact .inr (.inr ⟨i, List.mem_append_right _ hi, z'⟩)
    · have nc : i ∉ ch := fun h => hi (List.mem_append_right _ h)
      show (if i ∈ ch then Fs2 i else Fs1 i) = Fs i
      rw [if_neg nc]
      exact p.tr.fo i fun h => hi (List.mem_append_left _ (List.mem_append_left _ h))
    · have up : ∀ j, a ∈ Fs1 j → H a = none ∨ ∃ l ∈ mv ++ fv ++ (tgs ++ (aB ++ mB)), a ∈ Fs l ∨ (l = j ∧ a ∈ Fs l) := fun j hj => by
        by_cases m : j ∈ mv
        · exact (p.tr.fb j m a hj).imp id fun ⟨l, hl, z⟩ => ⟨l, List.mem_append_left _ (List.mem_append_left _ hl), .inl z⟩
        · by_cases m2 : j ∈ mv ++ fv ++ (tgs ++ (aB ++ mB))
          · rw [p.tr.fo j m] at hj
            exact .inr ⟨j, m2, .inl hj⟩
          · exfalso
            have ha' : a ∈ (if i ∈ ch then Fs2 i else Fs1 i) := ha
            by_cases mi : i ∈ ch
            · rw [if_pos mi] at ha'
              rcases fb2 i mi a ha' with z | ⟨l, hl, z⟩
              · obtain ⟨o, e, _⟩ := p.good.isl j a hj; rw [z] at e; cases e
              · exact p.good.dj j l (fun e => m2 (List.mem_append_right _ (e ▸ hl))) a hj z
            · rw [if_neg mi] at ha'
              exact p.good.dj j i (fun e => m2 (e ▸ hi)) a hj ha'
      have fin : ∀ j, a ∈ Fs1 j → H a = none ∨ ∃ l ∈ mv ++ fv ++ (tgs ++ (aB ++ mB)), a ∈ Fs l := fun j hj => (up j hj).imp id fun ⟨l, hl, z⟩ => ⟨l, hl, z.elim id fun z => z.2⟩
      have ha' : a ∈ (if i ∈ ch then Fs2 i else Fs1 i) := ha
      by_cases mi : i ∈ ch
      · rw [if_pos mi] at ha'
        rcases fb2 i mi a ha' with z | ⟨l, hl, z⟩
        · exact .inl (p.tr.dom a z)
        · exact fin l z
      · rw [if_neg mi] at ha'
        exact fin i ha'
    · unfold restore
      rw [List.length_mapIdx, p.good.len, p2.ln]
    · unfold restore at es
      rw [List.getElem?_mapIdx] at es
      cases q1 : s1[i]? with
      | none => rw [q1] at es; cases es
      | some o1 =>
        rw [q1] at es
        have es' : (if i ∈ ch then keepFull ((s2[i]?).getD none) else o1) = some (d, k) := Option.some.inj es
        show ∃ v, σ2[i]? = some (some v) ∧ Own X.K Z3 H2 k v d (if i ∈ ch then Fs2 i else Fs1 i)
        by_cases m : i ∈ ch
        · rw [if_pos m] at es' ⊢
          unfold keepFull at es'
          split at es'
          · next y ey =>
            split at es'
            · next f =>
              cases es'
              have e2 : s2[i]? = some (some (d, k)) := by
                cases q2 : s2[i]? with
                | none => rw [q2] at ey; cases ey
                | some o => rw [q2] at ey; exact congrArg some ey
              obtain ⟨v, ev, ow⟩ := p2.good.own i d k e2
              exact ⟨v, ev, Own.lift d ow (full_iff.mp f) (full_iff.mp f)⟩
            · cases es'
          · cases es'
        · rw [if_neg m] at es' ⊢
          subst es'
          obtain ⟨v, ev, ow⟩ := p.good.own i d k q1
          refine ⟨v, (asgch i m).trans ev, Own.zmono d (Own.keep d ow fun a o e z => keep1 a o e fun j hj ha => ?_) fun a z => ⟨z12 a z, fun j _ ha => p.good.nz j a ha z⟩⟩
          rcases z with (z | z) | z
          · exact p.good.dj i j (fun e => m (e ▸ hj)) a z ha
          · exact p.good.nz j a ha z
          · obtain ⟨o', e', c⟩ := p.good.isl j a ha
            rw [e] at e'; cases e'
            exact z c
    · show (if i ∈ ch then Fs2 i else Fs1 i).Nodup
      by_cases m : i ∈ ch
      · rw [if_pos m]; exact p2.good.nd i
      · rw [if_neg m]; exact p.good.nd i
    · have ha' : a ∈ (if i ∈ ch then Fs2 i else Fs1 i) := ha
      have hb' : a ∈ (if j ∈ ch then Fs2 j else Fs1 j) := hb
      have cross : ∀ {i j : Nat}, i ∈ ch → j ∉ ch → a ∈ Fs2 i → a ∈ Fs1 j → False := fun {i j} mi mj h1 h2 => by
        rcases fb2 i mi a h1 with z | ⟨l, hl, z⟩
        · obtain ⟨o, e, _⟩ := p.good.isl j a h2; rw [z] at e; cases e
        · exact p.good.dj j l (fun e => mj (e ▸ hl)) a h2 z
      by_cases m : i ∈ ch
      · rw [if_pos m] at ha'
        by_cases m2 : j ∈ ch
        · rw [if_pos m2] at hb'; exact p2.good.dj i j ne a ha' hb'
        · rw [if_neg m2] at hb'; exact cross m m2 ha' hb'
      · rw [if_neg m] at ha'
        by_cases m2 : j ∈ ch
        · rw [if_pos m2] at hb'; exact cross m2 m hb' ha'
        · rw [if_neg m2] at hb'; exact p.good.dj i j ne a ha' hb'
    · have ha' : a ∈ (if i ∈ ch then Fs2 i else Fs1 i) := ha
      by_cases m : i ∈ ch
      · rw [if_pos m] at ha'; exact p2.good.nz i a ha' z.1
      · rw [if_neg m] at ha'; exact z.2 i m ha'
    · have ha' : a ∈ (if i ∈ ch then Fs2 i else Fs1 i) := ha
      by_cases m : i ∈ ch
      · rw [if_pos m] at ha'; exact p2.good.isl i a ha'
      · rw [if_neg m] at ha'
        obtain ⟨o, e, c⟩ := p.good.isl i a ha'
        exact ⟨o, keep1 a o e fun j hj h => p.good.dj i j (fun e => m (e ▸ hj)) a ha' h, c⟩
end
end Sq
end

section
namespace Sq
open PySem PySem.Spec L2
/-! ### while -/
section
variable {X : Cx} {ce : Expr} {pos : Pos} {mC aB mB : List Nat} {c : Tst} {body : Sx} {sts : List Stmt}
theorem rs_while (fuel : Nat) (hp : PassesOwn (model X.prog X.w) X.A X.env X.xe) (hc : PT X ce (tT X.K mC c)) (hb : PSs X sts (tS X.K aB mB body)) : PS X (.While ce sts [] pos) (tS X.K aB (mC ++ mB) (sWhile fuel c body)) := by
  refine PS.of (ps_while hp hc hb) fun D σ H h => ?_
  obtain ⟨Z, s, Fs, fl, sf, gd, e, q⟩ := h
  unfold sWhile at e
  refine ⟨fun m σ' H' => ∃ Z' s' Fs', PostS X.K aB (mC ++ mB) σ H Z Fs σ' s' H' Z' Fs' ∧ loopW c body m s' = .ok (fl, sf), ⟨fuel, Z, s, Fs, ⟨Tr.refl _, gd, fun _ _ => rfl, rfl⟩, e⟩, ?_⟩
  rintro m σ1 H1 ⟨Z1, s1, Fs1, p1, e1⟩
  cases m with
  | zero => cases e1
  | succ m =>
    unfold loopW at e1
    obtain ⟨⟨t, s2⟩, ec, e1⟩ := Res.bind_eq_ok.mp e1
    refine ⟨Z1, s1, Fs1, t, s2, p1.good, ec, fun H2 Z2 Fs2 p2 => ?_⟩
    have p12 : PostS X.K aB (mC ++ mB) σ H Z Fs σ1 s2 H2 Z2 Fs2 := (p1.trans p2.stm).weak (fun i h => by simpa using h) (fun i h => (List.mem_append.mp h).elim id fun h => List.mem_append_left _ h)
    cases t with
    | true =>
      show if true = true then _ else _
      rw [if_pos rfl]
      obtain ⟨⟨fl1, s3⟩, eb, e1⟩ := Res.bind_eq_ok.mp (show (body s2 >>= _) = _ from e1)
      refine ⟨fun σ' H' => ∃ Z' s' Fs', PostS X.K aB (mC ++ mB) σ H Z Fs σ' s' H' Z' Fs' ∧ loopW c body m s' = .ok (fl, sf), fun σ' H' h => ⟨m, by omega, h⟩, Z2, s2, Fs2, fl1, s3, p2.good, eb, ?_⟩
      have glue : ∀ {σ3 : L2.St} {H3 : Hp} {Z3 : Zs} {Fs3 : Fp}, PostS X.K aB mB σ1 H2 Z2 Fs2 σ3 s3 H3 Z3 Fs3 → PostS X.K aB (mC ++ mB) σ H Z Fs σ3 s3 H3 Z3 Fs3 := fun q => (p12.trans q).weak (fun i h => (List.mem_append.mp h).elim id id) (fun i h => (List.mem_append.mp h).elim id fun h => List.mem_append_right _ h)
      cases fl1 with
      | next => exact fun σ3 H3 Z3 Fs3 p3 => ⟨Z3, s3, Fs3, glue p3, e1⟩
      | cont => exact fun σ3 H3 Z3 Fs3 p3 => ⟨Z3, s3, Fs3, glue p3, e1⟩
      | brk => cases e1; exact fun σ3 H3 Z3 Fs3 p3 => q σ3 H3 Z3 Fs3 (glue p3)
      | ret x =>
        cases e1
        refine fun v σ3 H3 Z3 Fs3 F p3 h n => q v σ3 H3 Z3 Fs3 F (glue p3) h fun a ha => ?_
        exact (newBack p12.tr (n a ha)).imp id fun ⟨j, hj, z⟩ => ⟨j, (List.mem_append.mp hj).elim id fun h => List.mem_append_right _ h, z⟩
    | false =>
      show if false = true then _ else _
      rw [if_neg Bool.false_ne_true]
      cases e1
      exact q σ1 H2 Z2 Fs2 p12
end
/-! ### list comprehensions -/
def wipeD (vs : List Nat) (s : SD) : SD := s.mapIdx fun i o => if i ∈ vs then none else o
def loopC (vs : List Nat) (b : Bd) (c : Tst) (a : Ex) : List PyData → SD → Res (List DV × SD)
  | [], s => .ok ([], s)
  | d :: ds, s => do
    let s ← b (d, 0) (wipeD vs s)
    let (t, s) ← c s
    if t then do
      let (y, s) ← a s
      let (ys, s) ← loopC vs b c a ds s
      .ok (y :: ys, s)
    else loopC vs b c a ds s
def tYes2 : Tst := fun s => .ok (true, s)
def evLc (vs fv mvE : List Nat) (b : Bd) (it : Src) (c : Tst) (a : Ex) : Ex := fun s => do
  let (ds, s1) ← it s
  let (ys, s2) ← loopC vs b c a ds (demote fv s1)
  if small ys.length then .ok ((.list (ys.map (·.1)), minAll (ys.map dep) + 1), restore mvE s1 s2) else .bad
section
variable {K : PySem.W.Frag} {Z Z1 Z2 : Zs} {H H1 H2 : Hp} {Fs Fs0 Fs1 Fs2 : Fp} {σ σ1 σ2 σ' : L2.St} {s s1 s2 : SD} {F : List Addr} {fv ch vs : List Nat}
/-- what was left alone is given back -/
theorem restore_ok (g1 : Good K Z1 H1 σ s1 Fs1) (fvch : ∀ i ∈ fv, i ∉ ch) (f01 : ∀ i a, a ∈ Fs0 i → a ∈ Fs1 i) (t : Tr ch H1 (Zf Z1 Fs1 fv) Fs0 H2 Z2 Fs2) (g2 : Good K Z2 H2 σ2 s2 Fs2) (hl : σ'.length = σ.length) (h1 : ∀ i, i ∉ ch → σ'[i]? = σ[i]?) (h2 : ∀ i ∈ ch, σ'[i]? = σ2[i]?) :
    Tr ch H1 Z1 Fs1 H2 (fun a => Z2 a ∧ ∀ i, i ∉ ch → a ∉ Fs1 i) (fun i => if i ∈ ch then Fs2 i else Fs1 i) ∧ Good K (fun a => Z2 a ∧ ∀ i, i ∉ ch → a ∉ Fs1 i) H2 σ' (restore ch s1 s2) (fun i => if i ∈ ch then Fs2 i else Fs1 i) := by
  have keep1 : ∀ a o, H1 a = some o → (∀ i ∈ ch, a ∉ Fs1 i) → H2 a = some o := fun a o e n => t.ev a o e fun i hi ha => n i hi (f01 i a ha)
  have fb2 : ∀ i ∈ ch, ∀ a ∈ Fs2 i, H1 a = none ∨ ∃ j ∈ ch, a ∈ Fs1 j := fun i hi a ha => (t.fb i hi a ha).imp id fun ⟨j, hj, z⟩ => ⟨j, hj, f01 j a z⟩
  have z12 : ∀ a, Z1 a → Z2 a := fun a z => t.zm a (.inl z)
  refine ⟨⟨keep1, t.dom, fun a z => ⟨z12 a z, fun i _ ha => g1.nz i a ha z⟩, fun a z => ?_, fun i hi => if_neg hi, fun i hi a ha => ?_⟩, ⟨?_, fun i d k es => ?_, fun i => ?_, fun i j ne a ha hb => ?_, fun i a ha z => ?_, fun i a ha => ?_, fun a z => g2.zt a z.1⟩⟩
  · obtain ⟨z, zn⟩ := z
    rcases t.zb a z with (z | ⟨i, hi, z⟩) | z | ⟨i, hi, z⟩
    · exact .inl z
    · exact absurd z (zn i (fvch i hi))
    · exact .inr (.inl z)
    · exact .inr (.inr ⟨i, hi, f01 i a z⟩)
  · rw [if_pos hi] at ha
    exact fb2 i hi a ha
  · unfold restore
    rw [List.length_mapIdx, g1.len, hl]
  · unfold restore at es
    rw [List.getElem?_mapIdx] at es
    cases q1 : s1[i]? with
    | none => rw [q1] at es; cases es
    | some o1 =>
      rw [q1] at es
      have es' : (if i ∈ ch then keepFull ((s2[i]?).getD none) else o1) = some (d, k) := Option.some.inj es
      by_cases m : i ∈ ch
      · rw [if_pos m] at es' ⊢
        unfold keepFull at es'
        split at es'
        · next y ey =>
          split at es'
          · next f =>
            cases es'
            have e2 : s2[i]? = some (some (d, k)) := by
              cases q2 : s2[i]? with
              | none => rw [q2] at ey; cases ey
              | some o => rw [q2] at ey; exact congrArg some ey
            obtain ⟨v, ev, ow⟩ := g2.own i d k e2
            exact ⟨v, (h2 i m).trans ev, Own.lift d ow (full_iff.mp f) (full_iff.mp f)⟩
          · cases es'
        · cases es'
      · rw [if_neg m] at es' ⊢
        subst es'
        obtain ⟨v, ev, ow⟩ := g1.own i d k q1
        refine ⟨v, (h1 i m).trans ev, Own.zmono d (Own.keep d ow fun a o e z => keep1 a o e fun j hj ha => ?_) fun a z => ⟨z12 a z, fun j _ ha => g1.nz j a ha z⟩⟩
        rcases z with (z | z) | z
        · exact g1.dj i j (fun e => m (e ▸ hj)) a z ha
        · exact g1.nz j a ha z
        · obtain ⟨o', e', c⟩ := g1.isl j a ha
          rw [e] at e'; cases e'
          exact z c
  · by_cases m : i ∈ ch
    · rw [if_pos m]; exact g2.nd i
    · rw [if_neg m]; exact g1.nd i
  · have cross : ∀ {i j : Nat}, i ∈ ch → j ∉ ch → a ∈ Fs2 i → a ∈ Fs1 j → False := fun {i j} mi mj h1 h2 => by
      rcases fb2 i mi a h1 with z | ⟨l, hl, z⟩
      · obtain ⟨o, e, _⟩ := g1.isl j a h2; rw [z] at e; cases e
      · exact g1.dj j l (fun e => mj (e ▸ hl)) a h2 z
    by_cases m : i ∈ ch
    · rw [if_pos m] at ha
      by_cases m2 : j ∈ ch
      · rw [if_pos m2] at hb; exact g2.dj i j ne a ha hb
      · rw [if_neg m2] at hb; exact cross m m2 ha hb
    · rw [if_neg m] at ha
      by_cases m2 : j ∈ ch
      · rw [if_pos m2] at hb; exact cross m2 m hb ha
      · rw [if_neg m2] at hb; exact g1.dj i j ne a ha hb
  · by_cases m : i ∈ ch
    · rw [if_pos m] at ha; exact g2.nz i a ha z.1
    · rw [if_neg m] at ha; exact z.2 i m ha
  · by_cases m : i ∈ ch
    · rw [if_pos m] at ha; exact g2.isl i a ha
    · rw [if_neg m] at ha
      obtain ⟨o, e, c⟩ := g1.isl i a ha
      exact ⟨o, keep1 a o e fun j hj h => g1.dj i j (fun e => m (e ▸ hj)) a ha h, c⟩
theorem wipe_get (σ : L2.St) (i : Nat) : ∀ vs : List Nat, i ∉ vs → (wipe σ vs)[i]? = σ[i]?
  | [], _ => rfl
  | v :: vs, h => by
    unfold wipe
    rw [List.getElem?_set_ne fun e => h (by rw [e]; exact List.mem_cons_self ..)]
    exact wipe_get σ i vs fun m => h (List.mem_cons_of_mem _ m)
theorem wipe_in (σ : L2.St) (i : Nat) : ∀ vs : List Nat, i ∈ vs → i < σ.length → (wipe σ vs)[i]? = some none
  | [], h, _ => by cases h
  | v :: vs, h, l => by
    unfold wipe
    by_cases q : v = i
    · subst q
      exact List.getElem?_set_self (by rw [wipe_length]; exact l)
    · rw [List.getElem?_set_ne q]
      rcases List.mem_cons.mp h with e | h
      · exact absurd e.symm q
      · exact wipe_in σ i vs h l
theorem wipe_eq (h : σ2.length = σ.length) (e : ∀ i, i ∉ vs → σ2[i]? = σ[i]?) : wipe σ2 vs = wipe σ vs := by
  refine List.ext_getElem? fun i => ?_
  by_cases m : i ∈ vs
  · by_cases l : i < σ.length
    · rw [wipe_in σ2 i vs m (by omega), wipe_in σ i vs m l]
    · rw [List.getElem?_eq_none (by rw [wipe_length]; omega), List.getElem?_eq_none (by rw [wipe_length]; omega)]
  · rw [wipe_get σ2 i vs m, wipe_get σ i vs m, e i m]
/-- the block's own names forgotten -/
theorem Good.wipe (g : Good K Z H σ2 s Fs) (hl : σ1.length = σ2.length) (e : ∀ i, i ∉ vs → σ1[i]? = σ2[i]?) : Good K Z H σ1 (wipeD vs s) Fs := by
  refine ⟨by unfold wipeD; rw [List.length_mapIdx, g.len, hl], fun i d k es => ?_, g.nd, g.dj, g.nz, g.isl, g.zt⟩
  unfold wipeD at es
  rw [List.getElem?_mapIdx] at es
  cases q1 : s[i]? with
  | none => rw [q1] at es; cases es
  | some o1 =>
    rw [q1] at es
    have es' : (if i ∈ vs then none else o1) = some (d, k) := Option.some.inj es
    by_cases m : i ∈ vs
    · rw [if_pos m] at es'; cases es'
    · rw [if_neg m] at es'
      subst es'
      obtain ⟨v, ev, ow⟩ := g.own i d k q1
      exact ⟨v, (e i m).trans ev, ow⟩
/-- an object beside all that is held is changed -/
theorem Good.beside {D : Addr} {l l' : List V} (g : Good K Z H σ s Fs) (hD : H D = some (.lst l)) (nF : ∀ i, D ∉ Fs i) (nZ : ¬ Z D) : Good K Z (upd H D (.lst l')) σ s Fs := by
  have kq : ∀ (S : Addr → Prop), (¬ S D) → Kp S H (upd H D (.lst l')) := fun S n a o e q => by
    rw [upd_ne]
    · exact e
    · rintro rfl
      rcases q with q | q
      · exact n q
      · rw [hD] at e; cases e; exact q trivial
  refine ⟨g.len, fun i d k e => ?_, g.nd, g.dj, g.nz, fun i a ha => ?_, fun a z => ?_⟩
  · obtain ⟨v, ev, ow⟩ := g.own i d k e
    exact ⟨v, ev, Own.keep d ow (kq _ fun z => z.elim (nF i) nZ)⟩
  · obtain ⟨o, e, c⟩ := g.isl i a ha
    exact ⟨o, by rw [upd_ne (show a ≠ D from fun z => nF i (z ▸ ha))]; exact e, c⟩
  · obtain ⟨o, e⟩ := g.zt a z
    exact ⟨o, by rw [upd_ne (show a ≠ D from fun q => nZ (q ▸ z))]; exact e⟩
theorem OwnL.app : ∀ {xs ys : List DV} {vs ws : List V} {F G : List Addr}, OwnL K Z H vs xs F → OwnL K Z H ws ys G → OwnL K Z H (vs ++ ws) (xs ++ ys) (F ++ G)
  | [], ys, vs, ws, F, G, h, h2 => by
    obtain ⟨rfl, rfl⟩ := h
    exact h2
  | x :: xs, ys, vs, ws, F, G, ⟨v, vs', F1, F2, e, h1, h2, e2⟩, h3 => by
    subst e e2
    exact ⟨v, vs' ++ ws, F1, F2 ++ G, rfl, h1, OwnL.app h2 h3, by rw [List.append_assoc]⟩
end
section
variable {X : Cx} {elt tg iter : Expr} {ifs : List Expr} {scope : Scope} {own : List (Str × Nat)} {pos : Pos} {fv mv tgs fvE mC mE : List Nat} {b : Bd} {it : Src} {c : Tst} {a : Ex}
theorem wipeD_out {vs ch : List Nat} {s1 s2 : SD} (h : ∀ i ∈ vs, i ∉ ch) : restore ch s1 (wipeD vs s2) = restore ch s1 s2 := by
  unfold restore
  refine List.ext_getElem? fun i => ?_
  rw [List.getElem?_mapIdx, List.getElem?_mapIdx]
  cases s1[i]? with
  | none => rfl
  | some o =>
    show some (if i ∈ ch then keepFull (((wipeD vs s2)[i]?).getD none) else o) = some (if i ∈ ch then keepFull ((s2[i]?).getD none) else o)
    by_cases m : i ∈ ch
    · rw [if_pos m, if_pos m]
      unfold wipeD
      rw [List.getElem?_mapIdx]
      cases s2[i]? with
      | none => rfl
      | some o2 =>
        show some (keepFull ((some (if i ∈ vs then none else o2)).getD none)) = _
        rw [if_neg fun z => h i z m]
    · rw [if_neg m, if_neg m]
/-- what the rules for comprehensions ask, from what it is worth -/
theorem lc_imp {K : PySem.W.Frag} {σ : L2.St} {H : Hp} {Q : VK} (hv : own.map (·.2) = tgs) (d1 : djn fv (mC ++ mE) = true) (d2 : djn fvE (mC ++ mE) = true) (d3 : djn tgs (mC ++ mE) = true)
    (h : tE K (fv ++ fvE) (mv ++ (mC ++ mE)) (evLc tgs fv (mC ++ mE) b it c a) σ H Q) : tLc (tI K fv mv it) (tG K tgs b) (tT K mC c) (tE K fvE mE a) (own.map (·.2)) σ H Q := by
  obtain ⟨Z, s, Fs, z, s', gd, e, q⟩ := h
  unfold evLc at e
  obtain ⟨⟨ds, s1⟩, ea, e⟩ := Res.bind_eq_ok.mp e
  obtain ⟨⟨ys, s2⟩, el, e⟩ := Res.bind_eq_ok.mp e
  simp only at e
  split at e
  · next sm =>
    cases e
    have sm := small_ok sm
    rw [hv]
    have fvch := djn_ok d1
    have fech := djn_ok d2
    have tgch := djn_ok d3
    refine ⟨Z, s, Fs, ds, s1, gd, ea, fun J H1 Z1 Fs1 p ok D hD => ?_⟩
    let Z0 : Zs := Zf Z1 Fs1 fv
    let Fs0 : Fp := fun i => if i ∈ fv ∨ i ∈ tgs then [] else Fs1 i
    have f01 : ∀ i a, a ∈ Fs0 i → a ∈ Fs1 i := fun i a ha => by
      have ha' : a ∈ (if i ∈ fv ∨ i ∈ tgs then [] else Fs1 i) := ha
      by_cases m : i ∈ fv ∨ i ∈ tgs
      · rw [if_pos m] at ha'; cases ha'
      · rw [if_neg m] at ha'; exact ha'
    have ft0 : ∀ i ∈ tgs, Fs0 i = [] := fun i hi => if_pos (.inr hi)
    have gd1 := p.good.demote fv
    have g0 : Good K Z0 H1 (wipe σ tgs) (wipeD tgs (demote fv s1)) Fs0 := by
      have gw := Good.wipe (vs := tgs) (σ1 := wipe σ tgs) gd1 (by rw [wipe_length]) fun i hi => wipe_get σ i tgs hi
      have sub : ∀ i a, a ∈ Fs0 i → a ∈ (fun i => if i ∈ fv then [] else Fs1 i) i := fun i a ha => by
        have ha' : a ∈ (if i ∈ fv ∨ i ∈ tgs then [] else Fs1 i) := ha
        show a ∈ (if i ∈ fv then [] else Fs1 i)
        by_cases m : i ∈ fv ∨ i ∈ tgs
        · rw [if_pos m] at ha'; cases ha'
        · rw [if_neg m] at ha'
          rw [if_neg fun h => m (.inl h)]
          exact ha'
      refine ⟨gw.len, fun i d k e => ?_, fun i => ?_, fun i j n a ha hb => gw.dj i j n a (sub i a ha) (sub j a hb), fun i a ha => gw.nz i a (sub i a ha), fun i a ha => gw.isl i a (sub i a ha), gw.zt⟩
      · obtain ⟨v, ev, ow⟩ := gw.own i d k e
        refine ⟨v, ev, ?_⟩
        have nt : i ∉ tgs := fun m => by
          unfold wipeD at e
          rw [List.getElem?_mapIdx] at e
          cases q1 : (demote fv s1)[i]? with
          | none => rw [q1] at e; cases e
          | some o =>
            rw [q1] at e
            have e' : (if i ∈ tgs then none else o) = some (d, k) := Option.some.inj e
            rw [if_pos m] at e'; cases e'
        have : Fs0 i = (fun i => if i ∈ fv then [] else Fs1 i) i := by
          show (if i ∈ fv ∨ i ∈ tgs then [] else Fs1 i) = (if i ∈ fv then [] else Fs1 i)
          by_cases m : i ∈ fv
          · rw [if_pos m, if_pos (.inl m)]
          · rw [if_neg m, if_neg fun h => h.elim m nt]
        rw [this]
        exact ow
      · show (if i ∈ fv ∨ i ∈ tgs then [] else Fs1 i).Nodup
        by_cases m : i ∈ fv ∨ i ∈ tgs
        · rw [if_pos m]; exact List.nodup_nil
        · rw [if_neg m]; exact p.good.nd i
    let ch := mC ++ mE
    -- between two turns
    let W : Nat → Hp → Prop := fun i H' => i ≤ ds.length ∧ ∃ Zb sb Fsb accV accX rest FA, Tr ch H1 Z0 Fs0 H' Zb Fsb ∧ Good K Zb H' (wipe σ tgs) (wipeD tgs sb) Fsb ∧ H' D = some (.lst accV) ∧ (∀ j, D ∉ Fsb j) ∧ ¬ Zb D ∧
      Held (PAll K accV accX) fvE H' Zb Fsb FA ∧ (∀ a ∈ FA, H1 a = none ∨ ∃ i ∈ ch, a ∈ Fs0 i) ∧ D ∉ FA ∧ loopC tgs b c a (ds.drop i) sb = .ok (rest, s2) ∧ accX ++ rest = ys
    refine ⟨fun i m H' => m = ds.length - i ∧ W i H', ⟨ds.length, rfl, Nat.zero_le _, Z0, demote fv s1, Fs0, [], [], ys, [], ?_, g0.laid hD, upd_same, fun j hj => ?_, fun z => ?_, ⟨⟨rfl, rfl⟩, List.nodup_nil, fun a ha => (by cases ha), fun a ha => (by cases ha)⟩, fun a ha => (by cases ha), fun ha => (by cases ha), el, rfl⟩, ?_⟩
    · exact ⟨fun a o e n => by rw [upd_ne (ne_of_none e hD)]; exact e, fun a e => by
        by_cases q : a = D
        · rw [q]; exact hD
        · rw [upd_ne q] at e; exact e, fun a z => z, fun a z => .inl z, fun i hi => rfl, fun i hi a ha => .inr ⟨i, hi, ha⟩⟩
    · obtain ⟨o, e, _⟩ := g0.isl j D hj; rw [hD] at e; cases e
    · obtain ⟨o, e⟩ := g0.zt D z; rw [hD] at e; cases e
    · rintro i m H2 ⟨rfl, hi, Zb, sb, Fsb, accV, accX, rest, FA, t, g, hDv, nF, nZ, hA, nA, dA, ev, ey⟩
      have ftb : ∀ j ∈ tgs, Fsb j = [] := fun j hj => (t.fo j (tgch j hj)).trans (ft0 j hj)
      have kp : Kp Z0 H1 H2 := Kp.of g0 t
      obtain ⟨go, stop⟩ := ok H2 kp
      by_cases lt : i < ds.length
      · have ed : ds[i]? = some ds[i] := List.getElem?_eq_getElem lt
        rw [List.drop_eq_getElem_cons lt] at ev
        unfold loopC at ev
        obtain ⟨s3, eb, ev⟩ := Res.bind_eq_ok.mp ev
        obtain ⟨⟨tt, s4⟩, ec, ev⟩ := Res.bind_eq_ok.mp ev
        obtain ⟨hgo, yl⟩ := go i _ ed
        refine .inr ⟨hgo, W (i + 1), fun H' w => ⟨ds.length - (i + 1), by omega, rfl, w⟩, fun x H3 y => ?_⟩
        obtain ⟨ow, ex⟩ := yl x H3 y
        have hD3 : H3 D = some (.lst accV) := by
          rcases ex with rfl | ⟨p', o', hp', rfl⟩
          · exact hDv
          · rw [upd_ne (ne_of_none hDv hp')]; exact hDv
        have hA3 : Held (PAll K accV accX) fvE H3 Zb Fsb FA := by
          rcases ex with rfl | ⟨p', o', hp', rfl⟩
          · exact hA
          · exact ⟨(stb_all K _ _).keep hA.pr (g.kp hp' _), hA.nd, hA.nf, hA.nz⟩
        have tw := t.ext ex
        refine ⟨Zb, _, Fsb, (ds[i], 0), s3, [], g.ext ex, held0 (Own.zmono _ ow t.zm), eb, fun σ3 Fs3 pg => ⟨?_, ?_⟩⟩
        · exact (wipe_eq (by rw [pg.ln]) fun j hj => pg.st j hj).trans (wipe_eq (by rw [wipe_length]) fun j hj => wipe_get σ j tgs hj)
        -- behind the binding no slot owns more
        have e3 : ∀ j, Fs3 j = Fsb j := fun j => by
          by_cases m : j ∈ tgs
          · rw [ftb j m]
            cases q1 : Fs3 j with
            | nil => rfl
            | cons x r => have := pg.fb j m x (by rw [q1]; exact List.mem_cons_self ..); cases this
          · exact pg.fo j m
        have e3' : Fs3 = Fsb := funext e3
        subst e3'
        refine ⟨Zb, s3, Fs3, tt, s4, pg.good, ec, fun H4 Z4 Fs4 p4 => ?_⟩
        have hA4 := hA3.on (stb_all K _ _) pg.good p4.tr fun j hj h => fech j hj (List.mem_append_left _ h)
        have hD4 : H4 D = some (.lst accV) := p4.tr.ev D _ hD3 fun j _ h => nF j h
        have nF4 : ∀ j, D ∉ Fs4 j := fun j h => by
          by_cases m : j ∈ mC
          · rcases p4.tr.fb j m D h with z | ⟨l, _, z⟩
            · rw [hD3] at z; cases z
            · exact nF l z
          · rw [p4.tr.fo j m] at h; exact nF j h
        have nZ4 : ¬ Z4 D := fun z => by
          rcases p4.tr.zb D z with z | z | ⟨l, _, z⟩
          · exact nZ z
          · rw [hD3] at z; cases z
          · exact nF l z
        have t4 : Tr ch H1 Z0 Fs0 H4 Z4 Fs4 := tw.trans p4.tr (fun j h => h) fun j h => List.mem_append_left _ h
        cases tt with
        | false =>
          show if false = true then _ else _
          rw [if_neg Bool.false_ne_true]
          refine ⟨lt, Z4, s4, Fs4, accV, accX, rest, FA, t4, ?_, hD4, nF4, nZ4, hA4, nA, dA, ev, ey⟩
          exact Good.wipe (σ1 := wipe σ tgs) p4.good (by rw [pg.ln]) fun j hj => (pg.st j hj).symm
        | true =>
          show if true = true then _ else _
          rw [if_pos rfl]
          obtain ⟨⟨y0, s5⟩, e5, ev⟩ := Res.bind_eq_ok.mp (show (a s4 >>= _) = _ from ev)
          obtain ⟨⟨yr, s6⟩, e6, ev⟩ := Res.bind_eq_ok.mp ev
          cases ev
          refine ⟨Z4, s4, Fs4, y0, s5, p4.good, e5, fun w H5 Z5 Fs5 Fy p5 => ?_⟩
          have hA5 := hA4.on (stb_all K _ _) p4.good p5.tr fun j hj h => fech j hj (List.mem_append_right _ h)
          have hD5 : H5 D = some (.lst accV) := p5.tr.ev D _ hD4 fun j _ h => nF4 j h
          have nF5 : ∀ j, D ∉ Fs5 j := fun j h => by
            by_cases m : j ∈ mE
            · rcases p5.tr.fb j m D h with z | ⟨l, _, z⟩
              · rw [hD4] at z; cases z
              · exact nF4 l z
            · rw [p5.tr.fo j m] at h; exact nF4 j h
          have nZ5 : ¬ Z5 D := fun z => by
            rcases p5.tr.zb D z with z | z | ⟨l, _, z⟩
            · exact nZ4 z
            · rw [hD4] at z; cases z
            · exact nF4 l z
          have nDy : D ∉ Fy := fun h => by
            rcases p5.new D h with z | ⟨l, _, z⟩
            · rw [hD4] at z; cases z
            · exact nF4 l z
          have dis : ∀ x ∈ FA, x ∉ Fy := fun x hx hy => by
            rcases p5.new x hy with z | ⟨l, _, z⟩
            · obtain ⟨o, e, _⟩ := (stb_all K _ _).isl hA4.pr x hx; rw [z] at e; cases e
            · exact hA4.nf x hx l z
          have la : accV.length = accX.length := OwnL.len hA.pr
          have ly : ys.length = accX.length + (yr.length + 1) := by rw [← ey]; simp
          have kq : ∀ (S : Addr → Prop), (¬ S D) → Kp S H5 (upd H5 D (.lst (accV ++ [w]))) := fun S n x o e q => by
            rw [upd_ne]
            · exact e
            · rintro rfl
              rcases q with q | q
              · exact n q
              · rw [hD5] at e; cases e; exact q trivial
          have nzf : ¬ Zf Z5 Fs5 fvE D := fun z => z.elim nZ5 fun ⟨l, _, z⟩ => nF5 l z
          refine ⟨accV, hD5, by omega, lt, Z5, s5, Fs5, accV ++ [w], accX ++ [y0], yr, FA ++ Fy, ?_, ?_, upd_same, nF5, nZ5, ⟨?_, List.nodup_append.mpr ⟨hA5.nd, p5.held.nd, fun x hx z hz e => dis x hx (e ▸ hz)⟩, fun x hx => ?_, fun x hx => ?_⟩, fun x hx => ?_, fun h => ?_, e6, by rw [List.append_assoc]; exact ey⟩
          · have t5 : Tr ch H1 Z0 Fs0 H5 Z5 Fs5 := t4.trans p5.tr (fun j h => h) fun j h => List.mem_append_right _ h
            refine ⟨fun x o e n => ?_, fun x e => ?_, t5.zm, t5.zb, t5.fo, t5.fb⟩
            · rw [upd_ne (show x ≠ D from fun z => by rw [z, hD] at e; cases e)]
              exact t5.ev x o e n
            · by_cases z : x = D
              · rw [z]; exact hD
              · rw [upd_ne z] at e; exact t5.dom x e
          · exact (Good.wipe (σ1 := wipe σ tgs) p5.good (by rw [pg.ln]) fun j hj => (pg.st j hj).symm).beside hD5 nF5 nZ5
          · refine OwnL.app ((stb_all K _ _).keep hA5.pr (kq _ fun z => z.elim dA nzf)) ?_
            refine ⟨w, [], Fy, [], rfl, (stb_one K w y0).keep p5.held.pr (kq _ fun z => z.elim nDy nzf), ⟨rfl, rfl⟩, by simp⟩
          · rcases List.mem_append.mp hx with h | h
            · exact hA5.nf x h
            · exact p5.held.nf x h
          · rcases List.mem_append.mp hx with h | h
            · exact hA5.nz x h
            · exact p5.held.nz x h
          · rcases List.mem_append.mp hx with h | h
            · exact nA x h
            · rcases p5.new x h with z | ⟨l, hl, z⟩
              · exact .inl (t4.dom x z)
              · by_cases m : l ∈ ch
                · exact t4.fb l m x z
                · exact absurd (List.mem_append_right _ hl) m
          · rcases List.mem_append.mp h with h | h
            · exact dA h
            · exact nDy h
      · have e : i = ds.length := by omega
        subst e
        rw [List.drop_length] at ev
        cases ev
        rw [List.append_nil] at ey
        subst ey
        refine .inl ⟨stop _ (Nat.le_refl _), ?_⟩
        obtain ⟨tr3, g3⟩ := restore_ok (σ' := σ) p.good fvch f01 t g rfl (fun _ _ => rfl) fun j hj => (wipe_get σ j tgs fun m => tgch j m hj).symm
        rw [wipeD_out tgch] at g3
        -- what is held, seen from outside
        have hz : ∀ x, Zf Zb Fsb fvE x → Zf (fun a => Zb a ∧ ∀ i, i ∉ ch → a ∉ Fs1 i) (fun i => if i ∈ ch then Fsb i else Fs1 i) (fv ++ fvE) x := fun x z => by
          rcases z with z | ⟨j, hj, z⟩
          · by_cases m : ∃ j, j ∉ ch ∧ x ∈ Fs1 j
            · obtain ⟨j, hj, mx⟩ := m
              have jf : j ∈ fv := by
                rcases t.zb x z with (z | ⟨l, hl, z⟩) | z | ⟨l, hl, z⟩
                · exact absurd z (p.good.nz j x mx)
                · by_cases e : j = l
                  · rw [e]; exact hl
                  · exact absurd z (p.good.dj j l e x mx)
                · obtain ⟨o, e, _⟩ := p.good.isl j x mx; rw [z] at e; cases e
                · exact absurd (f01 l x z) (p.good.dj j l (fun e => hj (e ▸ hl)) x mx)
              refine .inr ⟨j, List.mem_append_left _ jf, ?_⟩
              show x ∈ (if j ∈ ch then Fsb j else Fs1 j)
              rw [if_neg hj]
              exact mx
            · exact .inl ⟨z, fun j hj h => m ⟨j, hj, h⟩⟩
          · have nj := fech j hj
            refine .inr ⟨j, List.mem_append_right _ hj, ?_⟩
            show x ∈ (if j ∈ ch then Fsb j else Fs1 j)
            rw [if_neg nj]
            rw [t.fo j nj] at z
            exact f01 j x z
        have offF : ∀ x ∈ FA, ∀ j, x ∉ (if j ∈ ch then Fsb j else Fs1 j) := fun x hx j h => by
          by_cases m : j ∈ ch
          · rw [if_pos m] at h; exact hA.nf x hx j h
          · rw [if_neg m] at h
            rcases nA x hx with z | ⟨l, hl, z⟩
            · obtain ⟨o, e, _⟩ := p.good.isl j x h; rw [z] at e; cases e
            · exact p.good.dj j l (fun e => m (e ▸ hl)) x h (f01 l x z)
        have pp : Post K (PAll K accV accX) (fv ++ fvE) (mv ++ ch) H Z Fs σ (restore ch s1 s2) H2 (fun a => Zb a ∧ ∀ i, i ∉ ch → a ∉ Fs1 i) (fun i => if i ∈ ch then Fsb i else Fs1 i) FA :=
          ⟨p.tr.trans tr3 (fun j h => List.mem_append_left _ h) (fun j h => List.mem_append_right _ h), g3, ⟨(stb_all K _ _).zm hA.pr hz, hA.nd, offF, fun x hx z => hA.nz x hx z.1⟩, fun x hx => newBack p.tr ((nA x hx).imp id fun ⟨l, hl, z⟩ => ⟨l, hl, f01 l x z⟩)⟩
        obtain ⟨F', sb', qq⟩ := OwnL.to (m := minAll (accX.map dep)) pp.held.pr pp.held.nd (Nat.le_refl _)
        have p9 : Post K (fun Z H F => OwnAll K Z H (minAll (accX.map dep)) accV (accX.map (·.1)) F) (fv ++ fvE) (mv ++ ch) H Z Fs σ (restore ch s1 s2) H2 _ _ F' := pp.shared (stb_all K _ _) sb' (qq _ (fun a z => z.imp (fun z => .inl z) id) fun a ha hn => .inl (.inr ⟨ha, hn⟩))
        have nDs : ∀ j, D ∉ (if j ∈ ch then Fsb j else Fs1 j) := fun j h => by
          by_cases m : j ∈ ch
          · rw [if_pos m] at h; exact nF j h
          · rw [if_neg m] at h
            obtain ⟨o, e, _⟩ := p.good.isl j D h; rw [hD] at e; cases e
        refine q (.ref D) H2 _ _ (D :: F') ⟨p9.tr, p9.good, ⟨?_, List.nodup_cons.mpr ⟨fun h => dA (sb'.subset h), p9.held.nd⟩, fun x hx j h => ?_, fun x hx z => ?_⟩, fun x hx => ?_⟩
        · show Own K _ _ (minAll (accX.map dep) + 1) _ (.list (accX.map (·.1))) _
          unfold Own
          exact ⟨D, accV, F', rfl, hDv, p9.held.pr, rfl⟩
        · rcases List.mem_cons.mp hx with rfl | hx
          · exact nDs j h
          · exact p9.held.nf x hx j h
        · rcases List.mem_cons.mp hx with rfl | hx
          · rcases z with z | ⟨z, _⟩
            · exact nZ z.1
            · exact dA z
          · exact p9.held.nz x hx z
        · rcases List.mem_cons.mp hx with rfl | hx
          · exact .inl (p.tr.dom _ hD)
          · exact p9.new x hx
  · cases e
theorem re_lc (hc : X.calm = true) (hN : X.N.Nodup) (hi : PI X tg iter (tI X.K fv mv it)) (ok : BlkOk X.N X.env.scope scope own)
    (hg : ∀ (s : Shared) (H : Hp) (C : Addr) (cl : List (Str × Addr)) (fp : List Addr), PG (X.blk s H scope (compEnvC scope cl C X.env) fp) tg (tG X.K tgs b))
    (ht : ∀ (s : Shared) (H : Hp) (C : Addr) (cl : List (Str × Addr)) (fp : List Addr), PTs (X.blk s H scope (compEnvC scope cl C X.env) fp) ifs (tT X.K mC c))
    (he : ∀ (s : Shared) (H : Hp) (C : Addr) (cl : List (Str × Addr)) (fp : List Addr), PE (X.blk s H scope (compEnvC scope cl C X.env) fp) elt (tE X.K fvE mE a))
    (hv : own.map (·.2) = tgs := by rfl) (d1 : djn fv (mC ++ mE) = true := by rfl) (d2 : djn fvE (mC ++ mE) = true := by rfl) (d3 : djn tgs (mC ++ mE) = true := by rfl) (hs : ∀ x, foldedSetIterable iter X.env x = pure x := by intro _; rfl) :
    PE X (.ListComp elt [⟨tg, iter, ifs, 0⟩] scope pos) (tE X.K (fv ++ fvE) (mv ++ (mC ++ mE)) (evLc tgs fv (mC ++ mE) b it c a)) :=
  PE.of (pe_lc hc hN hi ok hg ht he hs) fun σ H Q h => lc_imp hv d1 d2 d3 h
theorem rts_nil : PTs X [] (tT X.K [] tYes2) := by
  refine ⟨fun pins s σ H Q I h => (pts_nil (X := X)).run pins s σ H Q I ?_⟩
  obtain ⟨Z, s, Fs, b, s', gd, e, q⟩ := h
  cases e
  exact q H Z Fs (Post.start gd)
theorem rts_one {ce : Expr} (h : PT X ce (tT X.K mC c)) : PTs X [ce] (tT X.K mC c) := pts_one h
/-- name = [..] on one line -/
theorem rs_asgLc {i : Nat} {y : Str} {py spos : Pos} (hc : X.calm = true) (hN : X.N.Nodup) (hy : X.N[i]? = some y) (hyl : X.env.scope.names.lookup y = some .local)
    (hsw : swapsWith (.ListComp elt [⟨tg, iter, ifs, 0⟩] scope pos) (some (.Name y py)) spos.line X.env = pure true) (hi : PI X tg iter (tI X.K fv mv it)) (ok : BlkOk X.N X.env.scope scope own)
    (hg : ∀ (s : Shared) (H : Hp) (C : Addr) (cl : List (Str × Addr)) (fp : List Addr), PG (X.blk s H scope (compEnvC scope cl C X.env) fp) tg (tG X.K tgs b))
    (ht : ∀ (s : Shared) (H : Hp) (C : Addr) (cl : List (Str × Addr)) (fp : List Addr), PTs (X.blk s H scope (compEnvC scope cl C X.env) fp) ifs (tT X.K mC c))
    (he : ∀ (s : Shared) (H : Hp) (C : Addr) (cl : List (Str × Addr)) (fp : List Addr), PE (X.blk s H scope (compEnvC scope cl C X.env) fp) elt (tE X.K fvE mE a))
    (hv : own.map (·.2) = tgs := by rfl) (d1 : djn fv (mC ++ mE) = true := by rfl) (d2 : djn fvE (mC ++ mE) = true := by rfl) (d3 : djn tgs (mC ++ mE) = true := by rfl) (hs : ∀ x, foldedSetIterable iter X.env x = pure x := by intro _; rfl) :
    PS X (.Assign [.Name y py] (.ListComp elt [⟨tg, iter, ifs, 0⟩] scope pos) spos) (tS X.K [i] ((mv ++ (mC ++ mE)) ++ (fv ++ fvE) ++ [i]) (sAsg i (fv ++ fvE) (evLc tgs fv (mC ++ mE) b it c a))) :=
  PS.of (ps_setLc hc hN hy hyl hsw hi ok hg ht he hs) fun D σ H h => lc_imp hv d1 d2 d3 (asg_imp h)
end
end Sq
end

section
namespace Sq
open PySem PySem.Spec L2
/-! ### isinstance -/
inductive Cl where
  | list | tuple | int | str | bool
def Cl.nm : Cl → String
  | .list => "list" | .tuple => "tuple" | .int => "int" | .str => "str" | .bool => "bool"
def isA : PyData → Cl → Bool
  | .bool _, .bool => true
  | .bool _, .int => true
  | .int _, .int => true
  | .str _, .str => true
  | .list _, .list => true
  | .tuple _, .tuple => true
  | _, _ => false
def tyN : PyData → String
  | .none => "NoneType" | .bool _ => "bool" | .int _ => "int" | .str _ => "str" | .list _ => "list" | .tuple _ => "tuple" | .dict _ => "dict"
theorem kit_isA : ∀ (d : PyData) (c : Cl), kitB (tyN d) c.nm = some (isA d c)
  | .none, .list => by decide +kernel | .none, .tuple => by decide +kernel | .none, .int => by decide +kernel | .none, .str => by decide +kernel | .none, .bool => by decide +kernel
  | .bool _, .list => by show kitB "bool" "list" = some false; decide +kernel
  | .bool _, .tuple => by show kitB "bool" "tuple" = some false; decide +kernel
  | .bool _, .int => by show kitB "bool" "int" = some true; decide +kernel
  | .bool _, .str => by show kitB "bool" "str" = some false; decide +kernel
  | .bool _, .bool => by show kitB "bool" "bool" = some true; decide +kernel
  | .int _, .list => by show kitB "int" "list" = some false; decide +kernel
  | .int _, .tuple => by show kitB "int" "tuple" = some false; decide +kernel
  | .int _, .int => by show kitB "int" "int" = some true; decide +kernel
  | .int _, .str => by show kitB "int" "str" = some false; decide +kernel
  | .int _, .bool => by show kitB "int" "bool" = some false; decide +kernel
  | .str _, .list => by show kitB "str" "list" = some false; decide +kernel
  | .str _, .tuple => by show kitB "str" "tuple" = some false; decide +kernel
  | .str _, .int => by show kitB "str" "int" = some false; decide +kernel
  | .str _, .str => by show kitB "str" "str" = some true; decide +kernel
  | .str _, .bool => by show kitB "str" "bool" = some false; decide +kernel
  | .list _, .list => by show kitB "list" "list" = some true; decide +kernel
  | .list _, .tuple => by show kitB "list" "tuple" = some false; decide +kernel
  | .list _, .int => by show kitB "list" "int" = some false; decide +kernel
  | .list _, .str => by show kitB "list" "str" = some false; decide +kernel
  | .list _, .bool => by show kitB "list" "bool" = some false; decide +kernel
  | .tuple _, .list => by show kitB "tuple" "list" = some false; decide +kernel
  | .tuple _, .tuple => by show kitB "tuple" "tuple" = some true; decide +kernel
  | .tuple _, .int => by show kitB "tuple" "int" = some false; decide +kernel
  | .tuple _, .str => by show kitB "tuple" "str" = some false; decide +kernel
  | .tuple _, .bool => by show kitB "tuple" "bool" = some false; decide +kernel
  | .dict _, .list => by show kitB "dict" "list" = some false; decide +kernel
  | .dict _, .tuple => by show kitB "dict" "tuple" = some false; decide +kernel
  | .dict _, .int => by show kitB "dict" "int" = some false; decide +kernel
  | .dict _, .str => by show kitB "dict" "str" = some false; decide +kernel
  | .dict _, .bool => by show kitB "dict" "bool" = some false; decide +kernel
def gIsA (cs : List Cl) (x : DV) : Res DV := .ok (.bool (cs.any (isA x.1)), 0)
section
variable {K : PySem.W.Frag} {Z : Zs} {H : Hp} {k : Nat} {v : V} {F : List Addr}
theorem own_ty {d : PyData} (h : Own K Z H k v d F) : TyX K H v (.type (tyN d)) := by
  cases d with
  | none => unfold Own at h; rw [h.1]; exact .base .non
  | bool b => unfold Own at h; rw [h.1]; exact .base (.bl _)
  | int i => unfold Own at h; rw [h.1]; exact .base (.int _)
  | str x => unfold Own at h; rw [h.1]; exact .base (.str _)
  | list ds =>
    obtain ⟨p, vs, F', rfl, r, _⟩ := h.rdL
    rcases r with r | ⟨o, r⟩
    · exact .base (.lst r)
    · exact .base (.frz r)
  | tuple ds =>
    unfold Own at h
    obtain ⟨p, vs, rfl, r, _⟩ := h
    rcases r with (r | ⟨o, r⟩) | ⟨o, its, n, e, c, _⟩
    · exact .base (.tup r)
    · exact .fTuple r
    · exact .kTuple e c
  | dict kvs =>
    obtain ⟨p, es, rfl, r, _⟩ := h.dicR
    exact .base (.dK r)
end
section
variable {X : Cx} {a : Expr} {p pos : Pos} {fv mv : List Nat} {f : Ex}
theorem re_isi1 (c : Cl) {pc : Pos} (ha : PE X a (tE X.K fv mv f)) (hg : Gl X "isinstance") (hm : X.mg "isinstance" = none) (hc : PE X (.Name c.nm pc) (tC (.ty c.nm)))
    (he : starEach [a, .Name c.nm pc] X.env = (false, eval a X.env) :: starEach [.Name c.nm pc] X.env := by rfl) (he2 : starEach [.Name c.nm pc] X.env = (false, eval (.Name c.nm pc) X.env) :: starEach [] X.env := by rfl) (hpl : (backTo pos (starEach [.Name c.nm pc] X.env)).any (·.1) = false := by rfl) :
    PE X (.Call (.Name "isinstance" p) [a, .Name c.nm pc] [] pos) (tE X.K fv mv (ev1 (gIsA [c]) f)) := by
  refine PE.of (pe_callB call_isi hg hm (by decide +kernel) (pa_cons ha (pa_cons hc pa_nil he2) he) (he := he) (hpl := hpl)) fun σ H Q h => imp1 (r := fun x H1 Q => rIsi X.K [x, .ty c.nm] H1 Q) ?_ h
  intro fv mv H Z Fs σ s' H1 Z1 Fs1 F v x z Q e p q
  cases e
  refine ⟨v, .ty c.nm, .type (tyN x.1), .type c.nm, isA x.1 c, rfl, ?_, own_ty p.held.pr, kit_ty (kit_isA x.1 c), ?_⟩
  · first | exact .ty _ | exact ClsV.ty _ | constructor
  · have : [c].any (isA x.1) = isA x.1 c := by simp
    rw [this] at q
    exact q _ _ _ _ (p.sc bl_own)
theorem re_isi2 (c d : Cl) {pc pd pt : Pos} {kt : Nat} (ha : PE X a (tE X.K fv mv f)) (hg : Gl X "isinstance") (hm : X.mg "isinstance" = none) (hc : PE X (.Name c.nm pc) (tC (.ty c.nm))) (hd : PE X (.Name d.nm pd) (tC (.ty d.nm)))
    (he : starEach [a, .Tuple [.Name c.nm pc, .Name d.nm pd] kt pt] X.env = (false, eval a X.env) :: starEach [.Tuple [.Name c.nm pc, .Name d.nm pd] kt pt] X.env := by rfl) (he2 : starEach [.Tuple [.Name c.nm pc, .Name d.nm pd] kt pt] X.env = (false, eval (.Tuple [.Name c.nm pc, .Name d.nm pd] kt pt) X.env) :: starEach [] X.env := by rfl)
    (he3 : starEach [.Name c.nm pc, .Name d.nm pd] X.env = (false, eval (.Name c.nm pc) X.env) :: starEach [.Name d.nm pd] X.env := by rfl) (he4 : starEach [.Name d.nm pd] X.env = (false, eval (.Name d.nm pd) X.env) :: starEach [] X.env := by rfl) (hpl : (backTo pos (starEach [.Tuple [.Name c.nm pc, .Name d.nm pd] kt pt] X.env)).any (·.1) = false := by rfl) :
    PE X (.Call (.Name "isinstance" p) [a, .Tuple [.Name c.nm pc, .Name d.nm pd] kt pt] [] pos) (tE X.K fv mv (ev1 (gIsA [c, d]) f)) := by
  refine PE.of (pe_callB call_isiT hg hm (by decide +kernel) (pa_cons ha (pa_cons (pe_tup (pa_cons hc (pa_cons hd pa_nil he4) he3)) pa_nil he2) he) (he := he) (hpl := hpl)) fun σ H Q h => imp1 (r := fun x H1 Q => 2 ≤ sizeLine ∧ ∀ tp, H1 tp = none → rIsiT X.K [x, .ref tp] (upd H1 tp (.tup [.ty c.nm, .ty d.nm])) Q) ?_ h
  intro fv mv H Z Fs σ s' H1 Z1 Fs1 F v x z Q e p q
  cases e
  refine ⟨by decide, fun tp ht => ?_⟩
  have p2 := p.newO (stb_one _ _ _) (o := .tup [.ty c.nm, .ty d.nm]) ht
  refine ⟨v, tp, [.ty c.nm, .ty d.nm], .type (tyN x.1), [.type c.nm, .type d.nm], isA x.1 c || isA x.1 d, rfl, upd_same, ?_, own_ty p2.held.pr, ?_, ?_⟩
  · exact .cons (by first | exact .ty _ | exact ClsV.ty _ | constructor) (.cons (by first | exact .ty _ | exact ClsV.ty _ | constructor) .nil)
  · refine kitAny_cons (kit_ty (kit_isA x.1 c)) (fun h => ?_) (fun h => by rw [h]; rfl)
    rw [h, Bool.false_or]
    refine kitAny_cons (kit_ty (kit_isA x.1 d)) (fun h => ?_) (fun h => h)
    rw [h]
    rfl
  · have : [c, d].any (isA x.1) = (isA x.1 c || isA x.1 d) := by simp
    rw [this] at q
    exact q _ _ _ _ (p2.sc bl_own)
end
end Sq
end

section
namespace Sq
open PySem PySem.Spec L2
/-! ### a loop that changes the items of an own list -/
def loopM (x : Nat) (body : Sx) (k : Nat) : List PyData → SD → Res (List DV × SD)
  | [], s => .ok ([], s)
  | d :: ds, s => do
    let (fl, s) ← body (s.set x (some (d, k)))
    match fl with
    | .next => do
      let y ← slot s x
      let (ys, s) ← loopM x body k ds (s.set x none)
      .ok (y :: ys, s)
    | _ => .bad
def sForM (x y : Nat) (body : Sx) : Sx := fun s => do
  let z ← slot s y
  match z.1 with
  | .list ds =>
    if 0 < z.2 then (do
      let (ys, s2) ← loopM x body (z.2 - 1) ds (s.set y none)
      .ok (.next, s2.set y (some (.list (ys.map (·.1)), minAll (ys.map dep) + 1))))
    else .bad
  | _ => .bad
section
variable {K : PySem.W.Frag}
/-- the list at p, what is done and what is still to be walked -/
def PM (K : PySem.W.Frag) (p : Addr) (vs : List V) (i k : Nat) (xs : List DV) (ds : List PyData) : Pr := fun Z H F => ∃ F1 F2, F = p :: (F1 ++ F2) ∧ H p = some (.lst vs) ∧ OwnL K Z H (vs.take i) xs F1 ∧ OwnAll K Z H k (vs.drop i) ds F2
theorem stb_pm (p : Addr) (vs : List V) (i k : Nat) (xs : List DV) (ds : List PyData) : Stb (PM K p vs i k xs ds) where
  keep := fun {Z H H' F} ⟨F1, F2, e, h, o1, o2⟩ kp => by
    subst e
    exact ⟨F1, F2, rfl, kp _ _ h (.inl (.inl (List.mem_cons_self ..))), OwnL.keep o1 fun a o e q => kp a o e (q.imp (fun q => q.imp (fun q => List.mem_cons_of_mem _ (List.mem_append_left _ q)) id) id), OwnAll.keep _ o2 fun a o e q => kp a o e (q.imp (fun q => q.imp (fun q => List.mem_cons_of_mem _ (List.mem_append_right _ q)) id) id)⟩
  zm := fun {Z Z' H F} ⟨F1, F2, e, h, o1, o2⟩ m => ⟨F1, F2, e, h, OwnL.zmono m o1, OwnAll.zmono _ o2 m⟩
  isl := fun {Z H F} ⟨F1, F2, e, h, o1, o2⟩ a ha => by
    subst e
    rcases List.mem_cons.mp ha with rfl | ha
    · exact ⟨_, h, trivial⟩
    · rcases List.mem_append.mp ha with ha | ha
      · exact OwnL.isl o1 a ha
      · exact OwnAll.isl _ o2 a ha
theorem Held.weakF {P P' : Pr} {fv : List Nat} {H : Hp} {Z : Zs} {Fs Fs' : Fp} {F F' : List Addr} (h : Held P fv H Z Fs F) (sb : ∀ a ∈ F', a ∈ F) (nd : F'.Nodup) (pr : P' (Zf Z Fs' fv) H F') (fs : ∀ a ∈ F', ∀ i, a ∈ Fs' i → a ∈ Fs i) : Held P' fv H Z Fs' F' := ⟨pr, nd, fun a ha i hb => h.nf a (sb a ha) i (fs a ha i hb), fun a ha => h.nz a (sb a ha)⟩
end
section
variable {X : Cx} {px py pos : Pos} {aB mB : List Nat} {x y : Nat} {nx ny : Str} {body : Sx} {sts : List Stmt}
theorem rs_forM (hp : PassesOwn (model X.prog X.w) X.A X.env X.xe) (hc : X.calm = true) (hN : X.N.Nodup) (hx : X.N[x]? = some nx) (hxl : Loc X.env.scope nx) (hy : X.N[y]? = some ny) (hyv : Vis X.env.scope ny) (hb : PSs X sts (tS X.K aB mB body)) (d : djn [x, y] aB = true := by rfl) (d2 : djn [y] mB = true := by rfl) (nxy : (x == y) = false := by rfl)
    (hf : X.fn nx = true ∨ X.env.scope.names.lookup nx = some .local := by first | exact .inl rfl | exact .inr rfl | assumption) (hd : (ny == ("__debug__" : Str)) = false := by decide) (hcd : (ny == ("__classdict__" : Str)) = false := by decide) (hs : ∀ x, foldedSetIterable (.Name ny py) X.env x = pure x := by intro _; rfl) :
    PS X (.For (.Name nx px) (.Name ny py) sts [] pos) (tS X.K (x :: aB) (x :: y :: mB) (sForM x y body)) := by
  refine PS.of (ps_for hp hc (pi_list (pe_var hy hyv hd hcd)) (pg_name hN hx hxl hf) hb hs) fun D σ H h => ?_
  obtain ⟨Z, s, Fs, fl, sf, gd, e, q⟩ := h
  unfold sForM at e
  obtain ⟨⟨zd, zk⟩, ez, e⟩ := Res.bind_eq_ok.mp e
  obtain ⟨es, v, ev, ow⟩ := gd.slotAt ez
  cases zd with
  | list ds =>
    simp only at e
    split at e
    · next lk =>
      obtain ⟨⟨ys, s2⟩, el, e⟩ := Res.bind_eq_ok.mp e
      cases e
      obtain ⟨k, rfl⟩ : ∃ k, zk = k + 1 := ⟨zk - 1, by omega⟩
      have nyx : y ≠ x := fun e => by
        rw [e] at nxy
        simp at nxy
      have nyB : y ∉ mB := djn_ok d2 y (List.mem_singleton.mpr rfl)
      have nxA : x ∉ aB := djn_ok d x (List.mem_cons_self ..)
      have nyA : y ∉ aB := djn_ok d y (List.mem_cons_of_mem _ (List.mem_singleton.mpr rfl))
      unfold Own at ow
      obtain ⟨p, vs, F0, rfl, hpv, oA, eF⟩ := ow
      have lv := OwnAll.len _ oA
      have tk := gd.take (x := (.list ds, k + 1)) ev (by unfold Own; exact ⟨p, vs, F0, rfl, hpv, oA, eF⟩)
      refine ⟨.ref p, ev, p, rfl, ⟨vs, .inl (.inl hpv)⟩, ?_⟩
      let Fy : Fp := fun j => if j = y then [] else Fs j
      let mv := x :: y :: mB
      -- between two turns
      let W : Nat → L2.St → Hp → Prop := fun i σ' H' => i ≤ ds.length ∧ ∃ Z' s' Fs' xs rest F', Tr mv H Z Fs H' Z' Fs' ∧ Good X.K Z' H' σ' s' Fs' ∧ (∀ j, j ∉ x :: aB → σ'[j]? = σ[j]?) ∧ σ'.length = σ.length ∧ Held (PM X.K p vs i k xs (ds.drop i)) [] H' Z' Fs' F' ∧ (∀ a ∈ F', H a = none ∨ ∃ j ∈ mv, a ∈ Fs j) ∧ loopM x body k (ds.drop i) s' = .ok (rest, s2) ∧ xs ++ rest = ys
      have my : y ∈ mv := List.mem_cons_of_mem _ (List.mem_cons_self ..)
      have mx : x ∈ mv := List.mem_cons_self ..
      have mb : ∀ j ∈ mB, j ∈ mv := fun j h => List.mem_cons_of_mem _ (List.mem_cons_of_mem _ h)
      refine ⟨fun i m σ' H' => m = ds.length - i ∧ W i σ' H', ⟨ds.length, rfl, Nat.zero_le _, Z, s.set y none, Fy, [], ys, Fs y, tk.tr.weak fun j hj => by rw [List.mem_singleton.mp hj]; exact my, tk.good, fun _ _ => rfl, rfl, ⟨⟨[], F0, by rw [eF]; rfl, hpv, ⟨rfl, rfl⟩, OwnAll.zmono _ oA fun a z => .inl z⟩, gd.nd y, fun a ha i hb => tk.held.nf a ha i hb, fun a ha => gd.nz y a ha⟩, fun a ha => .inr ⟨y, my, ha⟩, el, rfl⟩, ?_⟩
      rintro i m σ1 H1 ⟨rfl, hi, Z1, s1, Fs1, xs, rest, F1, t, g, st, ln, hd1, new1, ev1, ey⟩
      obtain ⟨FD, FT, eF1, hp1, oD, oT⟩ := hd1.pr
      by_cases lt : i < ds.length
      · have ltv : i < vs.length := by omega
        have ed : ds.drop i = ds[i] :: ds.drop (i + 1) := List.drop_eq_getElem_cons lt
        have edv : vs.drop i = vs[i] :: vs.drop (i + 1) := List.drop_eq_getElem_cons ltv
        rw [ed] at ev1 oT
        rw [edv] at oT
        unfold OwnAll at oT
        obtain ⟨w, vs', Fi, FT', e1, oi, oR, rfl⟩ := oT
        obtain ⟨rfl, rfl⟩ := List.cons.inj e1
        unfold loopM at ev1
        obtain ⟨⟨fl1, s3⟩, eb, ev1⟩ := Res.bind_eq_ok.mp ev1
        cases fl1 with
        | next =>
          obtain ⟨yv, ey1, ev1⟩ := Res.bind_eq_ok.mp ev1
          obtain ⟨⟨ys', s4⟩, er, ev1⟩ := Res.bind_eq_ok.mp ev1
          cases ev1
          subst eF1
          have nd1 := hd1.nd
          obtain ⟨np, nDT⟩ := List.nodup_cons.mp nd1
          obtain ⟨nD, nT, dDT⟩ := List.nodup_append.mp nDT
          obtain ⟨ni, nR, diR⟩ := List.nodup_append.mp nT
          refine .inr ⟨⟨vs, vs[i], .inl (.inl hp1), List.getElem?_eq_getElem ltv⟩, W (i + 1), fun σ' H' w => ⟨ds.length - (i + 1), by omega, rfl, w⟩, fun v' H' yl => ?_⟩
          obtain ⟨rfl, yv'⟩ := yl
          have evi : v' = vs[i] := by
            have := yv' vs (.inl (.inl hp1))
            rw [List.getElem?_eq_getElem ltv] at this
            exact (Option.some.inj this).symm
          subst evi
          -- the item bound
          have hI : Held (POne X.K vs[i] (ds[i], k)) [] H' Z1 Fs1 Fi := ⟨oi, ni, fun a ha => hd1.nf a (List.mem_cons_of_mem _ (List.mem_append_right _ (List.mem_append_left _ ha))), fun a ha => hd1.nz a (List.mem_cons_of_mem _ (List.mem_append_right _ (List.mem_append_left _ ha)))⟩
          have pg := name_ok (i := x) g hI
          let Fs2 : Fp := fun j => if j = x then Fi else Fs1 j
          let PR : Pr := fun Z H F => ∃ F1 F2, F = p :: (F1 ++ F2) ∧ H p = some (.lst vs) ∧ OwnL X.K Z H (vs.take i) xs F1 ∧ OwnAll X.K Z H k (vs.drop (i + 1)) (ds.drop (i + 1)) F2
          have sPR : Stb PR := by
            refine ⟨fun {Z H H' F} ⟨F1, F2, e, h, o1, o2⟩ kp => ?_, fun {Z Z' H F} ⟨F1, F2, e, h, o1, o2⟩ m => ⟨F1, F2, e, h, OwnL.zmono m o1, OwnAll.zmono _ o2 m⟩, fun {Z H F} ⟨F1, F2, e, h, o1, o2⟩ a ha => ?_⟩
            · subst e
              exact ⟨F1, F2, rfl, kp _ _ h (.inl (.inl (List.mem_cons_self ..))), OwnL.keep o1 fun a o e q => kp a o e (q.imp (fun q => q.imp (fun q => List.mem_cons_of_mem _ (List.mem_append_left _ q)) id) id), OwnAll.keep _ o2 fun a o e q => kp a o e (q.imp (fun q => q.imp (fun q => List.mem_cons_of_mem _ (List.mem_append_right _ q)) id) id)⟩
            · subst e
              rcases List.mem_cons.mp ha with rfl | ha
              · exact ⟨_, h, trivial⟩
              · rcases List.mem_append.mp ha with ha | ha
                · exact OwnL.isl o1 a ha
                · exact OwnAll.isl _ o2 a ha
          have sub : ∀ a ∈ p :: (FD ++ FT'), a ∈ p :: (FD ++ (Fi ++ FT')) := fun a ha => by
            rcases List.mem_cons.mp ha with rfl | ha
            · exact List.mem_cons_self ..
            · rcases List.mem_append.mp ha with ha | ha
              · exact List.mem_cons_of_mem _ (List.mem_append_left _ ha)
              · exact List.mem_cons_of_mem _ (List.mem_append_right _ (List.mem_append_right _ ha))
          have ndR : (p :: (FD ++ FT')).Nodup := List.nodup_cons.mpr ⟨fun h => np ((List.mem_append.mp h).elim (fun h => List.mem_append_left _ h) fun h => List.mem_append_right _ (List.mem_append_right _ h)), List.nodup_append.mpr ⟨nD, nR, fun a ha b hb e => dDT a ha b (List.mem_append_right _ hb) e⟩⟩
          have offI : ∀ a ∈ p :: (FD ++ FT'), a ∉ Fi := fun a ha hb => by
            rcases List.mem_cons.mp ha with rfl | ha
            · exact np (List.mem_append_right _ (List.mem_append_left _ hb))
            · rcases List.mem_append.mp ha with ha | ha
              · exact dDT a ha a (List.mem_append_left _ hb) rfl
              · exact diR a hb a ha rfl
          have hR : Held PR [] H' Z1 Fs2 (p :: (FD ++ FT')) := by
            refine ⟨⟨FD, FT', rfl, hp1, OwnL.zmono (fun a z => .inl (zf0 z)) oD, OwnAll.zmono _ oR fun a z => .inl (zf0 z)⟩, ndR, fun a ha j hb => ?_, fun a ha => hd1.nz a (sub a ha)⟩
            have hb' : a ∈ (if j = x then Fi else Fs1 j) := hb
            by_cases m : j = x
            · rw [if_pos m] at hb'; exact offI a ha hb'
            · rw [if_neg m] at hb'; exact hd1.nf a (sub a ha) j hb'
          refine ⟨Z1, _, Fs2, .next, s3, pg.good, eb, fun σ3 H3 Z3 Fs3 p3 => ?_⟩
          have hR3 := hR.on sPR pg.good p3.tr fun j hj => (by cases hj)
          obtain ⟨ex3, vx, evx, ox⟩ := p3.good.slotAt ey1
          have hxl : x < σ1.length := by
            refine Nat.lt_of_not_le fun h => ?_
            have hn : (σ1.set x (some vs[i]))[x]? = none := List.getElem?_eq_none (by simpa using h)
            have := (p3.st x nxA).trans hn
            rw [evx] at this
            cases this
          have evi : vx = vs[i] := by
            have := evx.symm.trans ((p3.st x nxA).trans (List.getElem?_set_self hxl))
            exact Option.some.inj (Option.some.inj this)
          subst evi
          have tk3 := p3.good.take evx ox
          obtain ⟨F1', F2', eR, hp3, oD3, oR3⟩ := hR3.pr
          have noX : ∀ a ∈ p :: (FD ++ FT'), a ∉ Fs3 x := fun a ha => hR3.nf a ha x
          -- what the slots own from the start on
          have t2 : Tr mv H Z Fs H' Z1 Fs2 := by
            refine ⟨t.ev, t.dom, t.zm, t.zb, fun j hj => ?_, fun j hj a ha => ?_⟩
            · show (if j = x then Fi else Fs1 j) = Fs j
              rw [if_neg fun e => hj (by rw [e]; exact mx)]
              exact t.fo j hj
            · have ha' : a ∈ (if j = x then Fi else Fs1 j) := ha
              by_cases m : j = x
              · rw [if_pos m] at ha'
                exact new1 a (List.mem_cons_of_mem _ (List.mem_append_right _ (List.mem_append_left _ ha')))
              · rw [if_neg m] at ha'
                exact t.fb j hj a ha'
          have t3 : Tr mv H Z Fs H3 Z3 Fs3 := t2.trans p3.tr (fun j h => h) mb
          have t4 : Tr mv H Z Fs H3 Z3 (fun j => if j = x then [] else Fs3 j) := t3.trans tk3.tr (fun j h => h) fun j h => by rw [List.mem_singleton.mp h]; exact mx
          have eL : (F1' ++ F2').length = (F1' ++ F2').length := rfl
          have eRR : F1' ++ F2' = FD ++ FT' := (List.cons.inj eR).2.symm
          have inR : ∀ a, a ∈ p :: (F1' ++ F2') → a ∈ p :: (FD ++ FT') := fun a ha => by rw [← eRR]; exact ha
          have ndR' : (p :: (F1' ++ F2')).Nodup := by rw [eRR]; exact ndR
          obtain ⟨np', nFF⟩ := List.nodup_cons.mp ndR'
          obtain ⟨n1', n2', d12⟩ := List.nodup_append.mp nFF
          have newN : ∀ a ∈ Fs3 x, H a = none ∨ ∃ j ∈ mv, a ∈ Fs j := fun a ha => t3.fb x mx a ha
          refine ⟨lt, Z3, s3.set x none, fun j => if j = x then [] else Fs3 j, xs ++ [yv], ys', p :: ((F1' ++ Fs3 x) ++ F2'), t4, tk3.good, fun j hj => ?_, ?_, ⟨⟨F1' ++ Fs3 x, F2', rfl, hp3, ?_, OwnAll.zmono _ oR3 fun a z => .inl (zf0 z)⟩, ?_, fun a ha j hb => ?_, fun a ha => ?_⟩, fun a ha => ?_, er, by rw [List.append_assoc]; exact ey⟩
          · rw [p3.st j fun h => hj (List.mem_cons_of_mem _ h), List.getElem?_set_ne fun e => hj (by rw [← e]; exact List.mem_cons_self ..)]
            exact st j hj
          · rw [p3.ln, List.length_set, ln]
          · have et : vs.take (i + 1) = vs.take i ++ [vs[i]] := by
              rw [List.take_succ, List.getElem?_eq_getElem ltv]
              rfl
            rw [et]
            exact OwnL.app (OwnL.zmono (fun a z => .inl (zf0 z)) oD3) ⟨vs[i], [], Fs3 x, [], rfl, Own.zmono _ ox fun a z => .inl z, ⟨rfl, rfl⟩, by simp⟩
          · refine List.nodup_cons.mpr ⟨fun h => ?_, List.nodup_append.mpr ⟨List.nodup_append.mpr ⟨n1', p3.good.nd x, fun a ha b hb e => noX a (inR a (List.mem_cons_of_mem _ (List.mem_append_left _ ha))) (e ▸ hb)⟩, n2', fun a ha b hb e => ?_⟩⟩
            · rcases List.mem_append.mp h with h | h
              · rcases List.mem_append.mp h with h | h
                · exact np' (List.mem_append_left _ h)
                · exact noX p (List.mem_cons_self ..) h
              · exact np' (List.mem_append_right _ h)
            · subst e
              rcases List.mem_append.mp ha with ha | ha
              · exact d12 a ha a hb rfl
              · exact noX a (inR a (List.mem_cons_of_mem _ (List.mem_append_right _ hb))) ha
          · have hb' : a ∈ (if j = x then [] else Fs3 j) := hb
            by_cases m : j = x
            · rw [if_pos m] at hb'; cases hb'
            · rw [if_neg m] at hb'
              rcases List.mem_cons.mp ha with rfl | ha
              · exact hR3.nf a (List.mem_cons_self ..) j hb'
              · rcases List.mem_append.mp ha with ha | ha
                · rcases List.mem_append.mp ha with ha | ha
                  · exact hR3.nf a (inR a (List.mem_cons_of_mem _ (List.mem_append_left _ ha))) j hb'
                  · exact p3.good.dj x j (Ne.symm m) a ha hb'
                · exact hR3.nf a (inR a (List.mem_cons_of_mem _ (List.mem_append_right _ ha))) j hb'
          · rcases List.mem_cons.mp ha with rfl | ha
            · exact hR3.nz a (List.mem_cons_self ..)
            · rcases List.mem_append.mp ha with ha | ha
              · rcases List.mem_append.mp ha with ha | ha
                · exact hR3.nz a (inR a (List.mem_cons_of_mem _ (List.mem_append_left _ ha)))
                · exact p3.good.nz x a ha
              · exact hR3.nz a (inR a (List.mem_cons_of_mem _ (List.mem_append_right _ ha)))
          · have old : ∀ b, b ∈ p :: (F1' ++ F2') → H b = none ∨ ∃ j ∈ mv, b ∈ Fs j := fun b hb => new1 b (sub b (inR b hb))
            rcases List.mem_cons.mp ha with rfl | ha
            · exact old a (List.mem_cons_self ..)
            · rcases List.mem_append.mp ha with ha | ha
              · rcases List.mem_append.mp ha with ha | ha
                · exact old a (List.mem_cons_of_mem _ (List.mem_append_left _ ha))
                · exact newN a ha
              · exact old a (List.mem_cons_of_mem _ (List.mem_append_right _ ha))
        | ret x => cases ev1
        | brk => cases ev1
        | cont => cases ev1
      · have e : i = ds.length := by omega
        subst e
        rw [List.drop_length] at ev1 oT
        cases ev1
        rw [List.append_nil] at ey
        subst ey
        have tv : vs.take ds.length = vs := List.take_of_length_le (by omega)
        have dv : vs.drop ds.length = [] := List.drop_eq_nil_of_le (by omega)
        rw [dv] at oT
        unfold OwnAll at oT
        obtain ⟨_, rfl⟩ := oT
        rw [tv] at oD
        rw [List.append_nil] at eF1
        subst eF1
        refine .inl ⟨⟨vs, .inl (.inl hp1), by omega⟩, ?_⟩
        obtain ⟨np, nD⟩ := List.nodup_cons.mp hd1.nd
        obtain ⟨F', sb, qq⟩ := OwnL.to (m := minAll (xs.map dep)) oD nD (Nat.le_refl _)
        -- back into the slot
        have pp : Post X.K (PM X.K p vs ds.length k xs []) [] mv H Z Fs σ1 _ H1 Z1 Fs1 (p :: FD) := ⟨t, g, ⟨by
            have := hd1.pr
            rw [List.drop_length] at this
            exact this, hd1.nd, hd1.nf, hd1.nz⟩, new1⟩
        have p2 : Post X.K (POne X.K (.ref p) (.list (xs.map (·.1)), minAll (xs.map dep) + 1)) [] mv H Z Fs σ1 _ H1 _ Fs1 (p :: F') := pp.shared (stb_pm _ _ _ _ _ _) (sb.cons₂ p) (by
          show Own X.K _ _ (minAll (xs.map dep) + 1) _ (.list (xs.map (·.1))) _
          unfold Own
          refine ⟨p, vs, F', rfl, hp1, qq _ (fun a z => .inl (.inl (zf0 z))) fun a ha hn => .inl (.inr ⟨List.mem_cons_of_mem _ ha, fun h => ?_⟩), rfl⟩
          rcases List.mem_cons.mp h with h | h
          · exact np (h ▸ ha)
          · exact hn h)
        have p3 := p2.put y
        have eσ : σ1.set y (some (.ref p)) = σ1 := by
          refine List.ext_getElem? fun j => ?_
          by_cases m : y = j
          · subst m
            have ey1 : σ1[y]? = some (some (.ref p)) := (st y (by
              intro h
              rcases List.mem_cons.mp h with h | h
              · exact nyx h
              · exact nyA h)).trans ev
            rw [List.getElem?_set_self (List.getElem?_eq_some_iff.mp ey1).1, ey1]
          · rw [List.getElem?_set_ne m]
        rw [eσ] at p3
        refine q σ1 H1 _ _ ⟨p3.tr.weak fun j hj => ?_, p3.good, st, ln⟩
        rcases List.mem_append.mp hj with h | h
        · exact h
        · rw [List.mem_singleton.mp h]; exact my
    · cases e
  | _ => cases e
end
end Sq
end

section
namespace Sq
open PySem PySem.Spec L2
/-! ### the head, with a further look at what the top wrote -/
abbrev AlB : Type := Bool × He.AlD
def obsB (B : PySem.W.Frag → Bool) (fa : List He.Fa) (fn : List He.DefD) (K : PySem.W.Frag) : AlB := (B K, He.obsD fa fn K)
def SaysB (B : PySem.W.Frag → Bool) (fa : List He.Fa) (fn : List He.DefD) (K : PySem.W.Frag) : Prop := obsB B fa fn K = (true, He.valD fn)
def obsBG (B : PySem.W.Frag → Bool) (n : Nat) (fa : List He.Fa) (fn : List He.DefD) (g : Addr → Option Obj) : AlB := obsB B fa fn (He.frG g (He.asD g n))
def hookB (B : PySem.W.Frag → Bool) (n : Nat) (fa : List He.Fa) (fn : List He.DefD) : PySem.W.Hook where
  α := AlB
  obs := fun s => obsBG B n fa fn s.heap.get?
  val := fun _ => (true, He.valD fn)
  says := fun _ h => ∃ K : PySem.W.Frag, K.In h ∧ SaysB B fa fn K
  of := fun _ _ e => ⟨_, He.frG_in, e⟩
  keeps := fun _ _ _ ⟨K, hK, c⟩ k => ⟨K, PySem.W.Frag.In.keeps hK k, c⟩
theorem obsBG_eq {B : PySem.W.Frag → Bool} {n : Nat} {fa : List He.Fa} {fn : List He.DefD} {g : Addr → Option Obj} {s : Shared} (h : ∀ a, g a = s.heap.get? a) : obsBG B n fa fn g = (hookB B n fa fn).obs s := by
  have e : g = s.heap.get? := funext h
  rw [e] <;> rfl
theorem SaysB.d {B : PySem.W.Frag → Bool} {fa : List He.Fa} {fn : List He.DefD} {K : PySem.W.Frag} (h : SaysB B fa fn K) : He.SaysD fa fn K := congrArg (fun z : AlB => z.2) h
theorem SaysB.b {B : PySem.W.Frag → Bool} {fa : List He.Fa} {fn : List He.DefD} {K : PySem.W.Frag} (h : SaysB B fa fn K) : B K = true := congrArg (fun z : AlB => z.1) h
/-- no list of the top's has an int first, or nothing at all -/
def lstOff (o : Obj) : Bool := match o.data with
  | .seq its _ => (match its.toList with
    | .str _ _ :: _ => true
    | .ref _ :: _ => true
    | _ => false)
  | _ => true
def noIntL (K : PySem.W.Frag) : Bool := K.all fun p => !(decide (p.2.cls = .type "list")) || lstOff p.2
theorem lk_mem {a : Addr} {o : Obj} : ∀ {l : List (Addr × Obj)}, l.lookup a = some o → (a, o) ∈ l
  | [], h => by cases h
  | (b, u) :: r, h => by
    have h2 : (match a == b with | true => some u | false => r.lookup a) = some o := h
    cases q : (a == b) with
    | true =>
      rw [q] at h2
      have e : u = o := Option.some.inj h2
      rw [beq_iff_eq.mp q, e]
      exact List.mem_cons_self
    | false =>
      rw [q] at h2
      exact List.mem_cons_of_mem _ (lk_mem h2)
theorem script_rd {K : PySem.W.Frag} {H : Hp} {a : Addr} {ns : List Int} (b : noIntL K = true) (h : SqL K H a (ns.map V.int)) : Rd H a (.lst (ns.map V.int)) := by
  rcases h with h | ⟨o, its, n, lk, hc, _, hd, _, hv⟩
  · exact h
  · exfalso
    have q := List.all_eq_true.mp b (a, o) (lk_mem lk)
    simp only [hc, decide_true, Bool.not_true, Bool.false_or] at q
    unfold lstOff at q
    rw [hd] at q
    cases ns with
    | nil =>
      rw [List.map_nil] at hv
      have : its.toList = [] := by
        cases e : its.toList with
        | nil => rfl
        | cons x r => rw [e] at hv; cases hv
      simp only [this] at q
      cases q
    | cons i ns =>
      rw [List.map_cons] at hv
      cases e : its.toList with
      | nil => rw [e] at hv; cases hv
      | cons x r =>
        rw [e] at hv
        cases hv with
        | cons r1 r2 =>
          obtain ⟨t, rfl⟩ := (show ∃ t, x = Value.int i t from r1)
          simp only [e] at q
          cases q
theorem ints_own {K : PySem.W.Frag} {Z : Zs} {H : Hp} : ∀ ns : List Int, OwnAll K Z H 0 (ns.map V.int) (ns.map PyData.int) []
  | [] => by
    show OwnAll K Z H 0 [] [] []
    unfold OwnAll
    exact ⟨rfl, rfl⟩
  | n :: ns => by
    rw [List.map_cons, List.map_cons]
    unfold OwnAll
    exact ⟨.int n, ns.map V.int, [], [], rfl, int_own, ints_own ns, rfl⟩
/-- the law's promise from what it is worth -/
theorem law_sp {K : PySem.W.Frag} {H : Hp} {a : Addr} {ns : List Int} {g : Fn} {E : XK} (b : noIntL K = true) (h : SqL K H a (ns.map V.int)) (hg : ∃ kk fin, g [(.list (ns.map .int), 0)] = .ok ((.bool true, kk), fin)) : spF K 1 g [.ref a] H (fun v _ => v = .bl true) E := by
  obtain ⟨kk, fin, e⟩ := hg
  have r := script_rd b h
  refine ⟨rfl, fun p => p = a, [(.list (ns.map .int), 0)], fun _ => [], _, fin, ⟨rfl, fun i d k es => ?_, fun i => List.nodup_nil, fun i j n x hx => (by cases hx), fun i x hx => (by cases hx), fun i x hx => (by cases hx), fun x z => ?_⟩, e, fun v H' Z' Fa' F p => ?_⟩
  · cases i with
    | zero =>
      have es' : ((PyData.list (ns.map .int), 0) : DV) = (d, k) := Option.some.inj (Option.some.inj es)
      cases es'
      refine ⟨.ref a, rfl, ?_⟩
      unfold Own
      exact ⟨a, ns.map V.int, rfl, ⟨rfl, r⟩, ints_own ns⟩
    | succ i => simp at es
  · subst z
    rcases r with r | ⟨o, r⟩
    · exact ⟨_, r⟩
    · exact ⟨_, r⟩
  · exact own_bl p.held.pr
/-! ### defs by levels -/
abbrev FnP (K : PySem.W.Frag) (x : Str) (st : Stmt) (f : Addr) (fd : FuncData) : Prop := FunD K x x (defArgs st) (defBody st) (defScope st) [] [] f fd
theorem fn0 {P : Program} {w : World} {K : PySem.W.Frag} {mg : Str → Option Value} {base : Heap} {CX : CXT} {k : Nat} {f : Addr} {fd : FuncData} {ps : List Str} {n : Nat} {g : Fn} (hg : ∀ xs, g xs = .bad) (hl : n = ps.length) : FnOk P w K mg base CX k f fd ps (spF K n g) :=
  ⟨fun vs H Q E h => h.1.trans hl, fun A outer s H args us vs Q E _ _ _ _ h => by
    obtain ⟨_, Z, ds, Fa, z, fin, _, e, _⟩ := h
    rw [hg] at e
    cases e⟩
def subs (a b : List Nat) : Bool := a.all fun i => b.contains i
theorem subs_ok {a b : List Nat} (h : subs a b = true) : ∀ i ∈ a, i ∈ b := fun i hi => by
  unfold subs at h
  rw [List.all_eq_true] at h
  simpa using h i hi
theorem tS_weak {K : PySem.W.Frag} {a1 a2 m : List Nat} {f : Sx} {D : Ends} {σ : L2.St} {H : Hp} (ha : ∀ i ∈ a1, i ∈ a2) (h : tS K a2 m f D σ H) : tS K a1 m f D σ H := by
  obtain ⟨Z, s, Fs, fl, s', g, e, q⟩ := h
  exact ⟨Z, s, Fs, fl, s', g, e, q.weak ha fun i h => h⟩
/-- THE RULE for a def -/
theorem fn_step {P : Program} {w : World} {K : PySem.W.Frag} {mg : Str → Option Value} {base : Heap} {x : Str} {st : Stmt} {f : Addr} {fd : FuncData} {N ps : List Str} {k n np : Nat} {asg : List Nat} {body : Sx} (F : FnP K x st f fd) (S : FnScope N ps (defScope st)) (hN : N.length = n) (hp : ps.length = np)
    (hb : ∀ (cdv : Value) (A : Around) (outer : List Env) (s : Shared) (H : Hp) (E : XK), Room k (A.deeper (PyProof.Rows.envOfC x (defScope st) s.heap.objs.size f cdv)) →
      ∃ a m, PSs (cxOf CX0 P w K mg base N x (defScope st) f cdv A outer s H E).nox (defBody st) (tS K a m body) ∧ subs a asg = true) : FnOk P w K mg base CX0 (k + 1) f fd ps (spF K np (defn n np asg body)) := by
  refine F.ok S (fun vs H Q E h => h.1.trans hp.symm) (fun cdv A outer s H vs Q E hr h => ?_)
  obtain ⟨a, m, hps, hs⟩ := hb cdv A outer s H E hr
  refine ⟨_, PSs.nox hps, ?_⟩
  have := def_ok (mv := m) h fun _ _ => .inr trivial
  rw [← hN] at this
  exact tS_weak (subs_ok hs) this
theorem hu64 {A : Around} {k : Nat} (hr : Room k A) : A.units + 64 < cLine := by have := hr.un; omega
theorem hu65 {A : Around} {k : Nat} (hr : Room k A) : A.units + 65 < cLine := by have := hr.un; omega
end Sq
end

section
namespace Sq
open PySem PySem.Spec L2
/-! ### short words for derivations -/
def gSub : DV → DV → Res DV := gI fun i j => i - j
def gXor : DV → DV → Res DV := gI Builtin.bitXor
def gLt : DV → DV → Res DV := gB fun i j => decide (i < j)
def gLe : DV → DV → Res DV := gB fun i j => decide (i ≤ j)
def gGt : DV → DV → Res DV := gB fun i j => decide (j < i)
def gGe : DV → DV → Res DV := gB fun i j => decide (j ≤ i)
section
variable {X : Cx} {e a b : Expr} {es : List Expr} {pos p : Pos} {fv mv fva mva fvb mvb : List Nat} {f fa fb : Ex} {fs : Exs} {io : List (Nat × Nat)} {k : Nat}
theorem xv (i : Nat) {x : Str} {pos : Pos} (hN : X.N[i]? = some x := by rfl) (hv : Vis X.env.scope x := by first | exact Or.inl rfl | exact Or.inr (Or.inl rfl) | exact Or.inr (Or.inr rfl)) (hd : (x == ("__debug__" : Str)) = false := by decide) (hcd : (x == ("__classdict__" : Str)) = false := by decide) : PE X (.Name x pos) (tE X.K [i] [] (eVar i)) := re_var hN hv hd hcd
theorem xm (i : Nat) {x : Str} {pos : Pos} (hN : X.N[i]? = some x := by rfl) (hv : Vis X.env.scope x := by first | exact Or.inl rfl | exact Or.inr (Or.inl rfl) | exact Or.inr (Or.inr rfl)) (hd : (x == ("__debug__" : Str)) = false := by decide) (hcd : (x == ("__classdict__" : Str)) = false := by decide) : PE X (.Name x pos) (tE X.K [] [i] (eMove i)) := re_move hN hv hd hcd
theorem xp (i : Nat) {x : Str} {pos : Pos} (hN : X.N[i]? = some x := by rfl) (hv : Vis X.env.scope x := by first | exact Or.inl rfl | exact Or.inr (Or.inl rfl) | exact Or.inr (Or.inr rfl)) (hd : (x == ("__debug__" : Str)) = false := by decide) (hcd : (x == ("__classdict__" : Str)) = false := by decide) : PE X (.Name x pos) (tP X.K i [] (pSlot i)) := rp_slot hN hv hd hcd
theorem xio (i : Nat) {x : Str} {pos : Pos} (hr : PA X es (tA X.K fvb mvb io fs)) (hN : X.N[i]? = some x := by rfl) (hv : Vis X.env.scope x := by first | exact Or.inl rfl | exact Or.inr (Or.inl rfl) | exact Or.inr (Or.inr rfl)) (hs : starEach (.Name x pos :: es) X.env = (false, eval (.Name x pos) X.env) :: starEach es X.env := by rfl) (hd : (x == ("__debug__" : Str)) = false := by decide) (hcd : (x == ("__classdict__" : Str)) = false := by decide) : PA X (.Name x pos :: es) (tA X.K fvb (i :: mvb) ((0, i) :: ioUp io) (eCons (eMove i) fs)) := ra_io hN hv hr hs hd hcd
theorem xadd (ha : PE X a (tE X.K fva mva fa)) (hb : PE X b (tE X.K fvb mvb fb)) (d : djn fva mvb = true := by rfl) : PE X (.BinOp a .Add b pos) (tE X.K (fva ++ fvb) (mva ++ mvb) (ev2 gAdd fa fb)) := re_op op_addX ok_add ha hb d
theorem xsub (ha : PE X a (tE X.K fva mva fa)) (hb : PE X b (tE X.K fvb mvb fb)) (d : djn fva mvb = true := by rfl) : PE X (.BinOp a .Sub b pos) (tE X.K (fva ++ fvb) (mva ++ mvb) (ev2 gSub fa fb)) := re_op op_sub ok_gI0 ha hb d
theorem xmul (ha : PE X a (tE X.K fva mva fa)) (hb : PE X b (tE X.K fvb mvb fb)) (d : djn fva mvb = true := by rfl) : PE X (.BinOp a .Mult b pos) (tE X.K (fva ++ fvb) (mva ++ mvb) (ev2 gMul fa fb)) := re_op op_mulX ok_mul ha hb d
theorem xfdiv (ha : PE X a (tE X.K fva mva fa)) (hb : PE X b (tE X.K fvb mvb fb)) (d : djn fva mvb = true := by rfl) : PE X (.BinOp a .FloorDiv b pos) (tE X.K (fva ++ fvb) (mva ++ mvb) (ev2 gFdiv fa fb)) := re_op op_fdivW ok_fdiv ha hb d
theorem xmod (ha : PE X a (tE X.K fva mva fa)) (hb : PE X b (tE X.K fvb mvb fb)) (d : djn fva mvb = true := by rfl) : PE X (.BinOp a .Mod b pos) (tE X.K (fva ++ fvb) (mva ++ mvb) (ev2 gMod fa fb)) := re_op op_mod ok_mod ha hb d
theorem xpow (ha : PE X a (tE X.K fva mva fa)) (hb : PE X b (tE X.K fvb mvb fb)) (d : djn fva mvb = true := by rfl) : PE X (.BinOp a .Pow b pos) (tE X.K (fva ++ fvb) (mva ++ mvb) (ev2 gPow fa fb)) := re_op op_pow ok_pow ha hb d
theorem xxor (ha : PE X a (tE X.K fva mva fa)) (hb : PE X b (tE X.K fvb mvb fb)) (d : djn fva mvb = true := by rfl) : PE X (.BinOp a .BitXor b pos) (tE X.K (fva ++ fvb) (mva ++ mvb) (ev2 gXor fa fb)) := re_op op_xor ok_gI0 ha hb d
theorem xeq (hr : Room k X.A) (ha : PE X a (tE X.K fva mva fa)) (hb : PE X b (tE X.K fvb mvb fb)) (d : djn fva mvb = true := by rfl) (hm : behindInMarks .Eq b = false := by rfl) : PE X (.Compare a [.Eq] [b] pos) (tE X.K (fva ++ fvb) (mva ++ mvb) (ev2 gEq fa fb)) := re_cmp (op_eqD (hu64 hr)) ok_eq ha hb d hm
theorem xne (hr : Room k X.A) (ha : PE X a (tE X.K fva mva fa)) (hb : PE X b (tE X.K fvb mvb fb)) (d : djn fva mvb = true := by rfl) (hm : behindInMarks .NotEq b = false := by rfl) : PE X (.Compare a [.NotEq] [b] pos) (tE X.K (fva ++ fvb) (mva ++ mvb) (ev2 gNe fa fb)) := re_cmp (op_neD (hu64 hr)) ok_ne ha hb d hm
theorem xin (hr : Room k X.A) (ha : PE X a (tE X.K fva mva fa)) (hb : PE X b (tE X.K fvb mvb fb)) (d : djn fva mvb = true := by rfl) (hm : behindInMarks .In b = false := by rfl) : PE X (.Compare a [.In] [b] pos) (tE X.K (fva ++ fvb) (mva ++ mvb) (ev2 gIn fa fb)) := re_cmp (op_inD (hu65 hr)) ok_in ha hb d hm
theorem xnotin (hr : Room k X.A) (ha : PE X a (tE X.K fva mva fa)) (hb : PE X b (tE X.K fvb mvb fb)) (d : djn fva mvb = true := by rfl) (hm : behindInMarks .NotIn b = false := by rfl) : PE X (.Compare a [.NotIn] [b] pos) (tE X.K (fva ++ fvb) (mva ++ mvb) (ev2 gNotIn fa fb)) := re_cmp (op_notInD (hu65 hr)) ok_notIn ha hb d hm
theorem xlt (ha : PE X a (tE X.K fva mva fa)) (hb : PE X b (tE X.K fvb mvb fb)) (d : djn fva mvb = true := by rfl) (hm : behindInMarks .Lt b = false := by rfl) : PE X (.Compare a [.Lt] [b] pos) (tE X.K (fva ++ fvb) (mva ++ mvb) (ev2 gLt fa fb)) := re_cmp op_lt ok_gB0 ha hb d hm
theorem xle (ha : PE X a (tE X.K fva mva fa)) (hb : PE X b (tE X.K fvb mvb fb)) (d : djn fva mvb = true := by rfl) (hm : behindInMarks .LtE b = false := by rfl) : PE X (.Compare a [.LtE] [b] pos) (tE X.K (fva ++ fvb) (mva ++ mvb) (ev2 gLe fa fb)) := re_cmp op_le ok_gB0 ha hb d hm
theorem xgt (ha : PE X a (tE X.K fva mva fa)) (hb : PE X b (tE X.K fvb mvb fb)) (d : djn fva mvb = true := by rfl) (hm : behindInMarks .Gt b = false := by rfl) : PE X (.Compare a [.Gt] [b] pos) (tE X.K (fva ++ fvb) (mva ++ mvb) (ev2 gGt fa fb)) := re_cmp op_gt ok_gB0 ha hb d hm
theorem xge (ha : PE X a (tE X.K fva mva fa)) (hb : PE X b (tE X.K fvb mvb fb)) (d : djn fva mvb = true := by rfl) (hm : behindInMarks .GtE b = false := by rfl) : PE X (.Compare a [.GtE] [b] pos) (tE X.K (fva ++ fvb) (mva ++ mvb) (ev2 gGe fa fb)) := re_cmp op_ge ok_gB0 ha hb d hm
theorem zeq (hr : Room k X.A) (ha : PE X a (tE X.K fva mva fa)) (hb : PE X b (tE X.K fvb mvb fb)) (d : djn fva mvb = true := by rfl) (hm : behindInMarks .Eq b = false := by rfl) : PT X (.Compare a [.Eq] [b] pos) (tT X.K (mva ++ mvb) (tst (ev2 gEq fa fb))) := rt_cmp (op_eqD (hu64 hr)) ok_eq ha hb d hm
theorem zne (hr : Room k X.A) (ha : PE X a (tE X.K fva mva fa)) (hb : PE X b (tE X.K fvb mvb fb)) (d : djn fva mvb = true := by rfl) (hm : behindInMarks .NotEq b = false := by rfl) : PT X (.Compare a [.NotEq] [b] pos) (tT X.K (mva ++ mvb) (tst (ev2 gNe fa fb))) := rt_cmp (op_neD (hu64 hr)) ok_ne ha hb d hm
theorem zin (hr : Room k X.A) (ha : PE X a (tE X.K fva mva fa)) (hb : PE X b (tE X.K fvb mvb fb)) (d : djn fva mvb = true := by rfl) (hm : behindInMarks .In b = false := by rfl) : PT X (.Compare a [.In] [b] pos) (tT X.K (mva ++ mvb) (tst (ev2 gIn fa fb))) := rt_cmp (op_inD (hu65 hr)) ok_in ha hb d hm
theorem znotin (hr : Room k X.A) (ha : PE X a (tE X.K fva mva fa)) (hb : PE X b (tE X.K fvb mvb fb)) (d : djn fva mvb = true := by rfl) (hm : behindInMarks .NotIn b = false := by rfl) : PT X (.Compare a [.NotIn] [b] pos) (tT X.K (mva ++ mvb) (tst (ev2 gNotIn fa fb))) := rt_cmp (op_notInD (hu65 hr)) ok_notIn ha hb d hm
theorem zlt (ha : PE X a (tE X.K fva mva fa)) (hb : PE X b (tE X.K fvb mvb fb)) (d : djn fva mvb = true := by rfl) (hm : behindInMarks .Lt b = false := by rfl) : PT X (.Compare a [.Lt] [b] pos) (tT X.K (mva ++ mvb) (tst (ev2 gLt fa fb))) := rt_cmp op_lt ok_gB0 ha hb d hm
theorem zle (ha : PE X a (tE X.K fva mva fa)) (hb : PE X b (tE X.K fvb mvb fb)) (d : djn fva mvb = true := by rfl) (hm : behindInMarks .LtE b = false := by rfl) : PT X (.Compare a [.LtE] [b] pos) (tT X.K (mva ++ mvb) (tst (ev2 gLe fa fb))) := rt_cmp op_le ok_gB0 ha hb d hm
theorem zgt (ha : PE X a (tE X.K fva mva fa)) (hb : PE X b (tE X.K fvb mvb fb)) (d : djn fva mvb = true := by rfl) (hm : behindInMarks .Gt b = false := by rfl) : PT X (.Compare a [.Gt] [b] pos) (tT X.K (mva ++ mvb) (tst (ev2 gGt fa fb))) := rt_cmp op_gt ok_gB0 ha hb d hm
theorem zge (ha : PE X a (tE X.K fva mva fa)) (hb : PE X b (tE X.K fvb mvb fb)) (d : djn fva mvb = true := by rfl) (hm : behindInMarks .GtE b = false := by rfl) : PT X (.Compare a [.GtE] [b] pos) (tT X.K (mva ++ mvb) (tst (ev2 gGe fa fb))) := rt_cmp op_ge ok_gB0 ha hb d hm
theorem xlen (hm : X.mg "len" = none) (ha : PA X [e] (tA X.K fv mv io fs)) (hg : Gl X "len" := by rfl) (he : starEach [e] X.env = (false, eval e X.env) :: starEach [] X.env := by rfl) (hpl : (backTo pos (starEach [] X.env)).any (·.1) = false := by rfl) : PE X (.Call (.Name "len" p) [e] [] pos) (tE X.K fv mv (evN gLen fs)) := re_callB (CallR.or call_len_seq call_len_str) ok_len hg hm PySem.boot_len ha (by decide) (by decide) he hpl
theorem xabs (hm : X.mg "abs" = none) (ha : PA X [e] (tA X.K fv mv io fs)) (hg : Gl X "abs" := by rfl) (he : starEach [e] X.env = (false, eval e X.env) :: starEach [] X.env := by rfl) (hpl : (backTo pos (starEach [] X.env)).any (·.1) = false := by rfl) : PE X (.Call (.Name "abs" p) [e] [] pos) (tE X.K fv mv (evN gAbs fs)) := re_callB call_abs ok_abs hg hm (by decide +kernel) ha (by decide) (by decide) he hpl
theorem xint (hm : X.mg "int" = none) (ha : PA X [e] (tA X.K fv mv io fs)) (hg : Gl X "int" := by rfl) (he : starEach [e] X.env = (false, eval e X.env) :: starEach [] X.env := by rfl) (hpl : (backTo pos (starEach [] X.env)).any (·.1) = false := by rfl) : PE X (.Call (.Name "int" p) [e] [] pos) (tE X.K fv mv (evN gInt fs)) := re_callT call_int1 ok_int hg hm (by decide +kernel) ha (by decide) (by decide) he hpl
theorem xset {i : Nat} {x : Str} {pos' : Pos} (hN : X.N.Nodup) (he : PE X e (tE X.K fv mv f)) (hi : X.N[i]? = some x := by rfl) (hx : L2.Loc X.env.scope x := by first | exact Or.inl rfl | exact Or.inr rfl) (hs : swapsWith e (some (.Name x pos')) pos.line X.env = pure false := by rfl) (hf : X.fn x = true ∨ X.env.scope.names.lookup x = some .local := by first | exact .inl rfl | exact .inr rfl | assumption) :
    PS X (.Assign [.Name x pos'] e pos) (tS X.K [i] (mv ++ fv ++ [i]) (sAsg i fv f)) := rs_asg hN hi hx he hs hf
theorem xg (i : Nat) {x : Str} {pos : Pos} (hN : X.N.Nodup) (hi : X.N[i]? = some x := by rfl) (hx : L2.Loc X.env.scope x := by first | exact Or.inl rfl | exact Or.inr rfl) (hf : X.fn x = true ∨ X.env.scope.names.lookup x = some .local := by first | exact .inl rfl | exact .inr rfl | assumption) : PG X (.Name x pos) (tG X.K [i] (bName i)) := rg_name hN hi hx hf
theorem xty (c : Cl) {pos : Pos} (hm : X.mg c.nm = none) (hg : Gl X c.nm := by rfl) : PE X (.Name c.nm pos) (tC (.ty c.nm)) :=
  pe_bltn (u := .type c.nm) hg hm (by cases c <;> decide +kernel) (by cases c <;> rfl) (by cases c <;> decide) (by cases c <;> decide)
end
end Sq
end

section
namespace Sq
open PySem PySem.Spec L2
/-! ### built-in functions over lists -/
def intsD : List PyData → Option (List Int)
  | [] => some []
  | .int i :: ds => match intsD ds with
    | some is => some (i :: is)
    | none => none
  | _ :: _ => none
def blsD : List PyData → Option (List Bool)
  | [] => some []
  | .bool i :: ds => match blsD ds with
    | some is => some (i :: is)
    | none => none
  | _ :: _ => none
def strsD : List PyData → Option (List Str)
  | [] => some []
  | .str i :: ds => match strsD ds with
    | some is => some (i :: is)
    | none => none
  | _ :: _ => none
def gAny (xs : List DV) : Res DV := match xs with
  | [(.list ds, _)] => match blsD ds with
    | some bs => .ok (.bool (bs.any id), 0)
    | none => .bad
  | _ => .bad
def gAll (xs : List DV) : Res DV := match xs with
  | [(.list ds, _)] => match blsD ds with
    | some bs => .ok (.bool (bs.all id), 0)
    | none => .bad
  | _ => .bad
def gSum (xs : List DV) : Res DV := match xs with
  | [(.list ds, _)] => match intsD ds with
    | some bs => .ok (.int bs.sum, 0)
    | none => .bad
  | _ => .bad
def maxL (n : Int) (ns : List Int) : Int := ns.foldl (fun a b => if a < b then b else a) n
def minL (n : Int) (ns : List Int) : Int := ns.foldl (fun a b => if b < a then b else a) n
def gMax (xs : List DV) : Res DV := match xs with
  | [(.list ds, _)] => match intsD ds with
    | some (n :: ns) => .ok (.int (maxL n ns), 0)
    | _ => .bad
  | _ => .bad
def gMin (xs : List DV) : Res DV := match xs with
  | [(.list ds, _)] => match intsD ds with
    | some (n :: ns) => .ok (.int (minL n ns), 0)
    | _ => .bad
  | _ => .bad
def insI (n : Int) : List Int → List Int
  | [] => [n]
  | m :: ms => if n ≤ m then n :: m :: ms else m :: insI n ms
def sortI : List Int → List Int
  | [] => []
  | n :: ns => insI n (sortI ns)
def gSortI (xs : List DV) : Res DV := match xs with
  | [(.list ds, _)] => match intsD ds with
    | some ns => .ok (.list ((sortI ns).map .int), 10)
    | none => .bad
  | _ => .bad
def gListOf (xs : List DV) : Res DV := match xs with
  | [x] => match x.1 with
    | .list ds => .ok (.list ds, depI x + 1)
    | _ => .bad
  | _ => .bad
def idxD (d : PyData) : List PyData → Nat → Option Nat
  | [], _ => none
  | z :: zs, j => if PyData.eqv z d then some j else idxD d zs (j + 1)
def gIndex (x y : DV) : Res DV := match x.1 with
  | .list ds => if SeqAt.shaped x.1 && SeqAt.shaped y.1 then match idxD y.1 ds 0 with
      | some j => .ok (.int (j : Nat), 0)
      | none => .bad
    else .bad
  | _ => .bad
def gIsB (x y : DV) : Res DV := match x.1, y.1 with
  | .bool a, .bool b => .ok (.bool (decide (a = b)), 0)
  | _, _ => .bad
def gIsNB (x y : DV) : Res DV := match x.1, y.1 with
  | .bool a, .bool b => .ok (.bool (!decide (a = b)), 0)
  | _, _ => .bad
section
variable {K : PySem.W.Frag} {Z Z1 : Zs} {H H1 : Hp} {Fs Fs1 : Fp} {σ : L2.St} {s s' s1 s2 : SD} {F : List Addr} {fv mv : List Nat} {x y z : DV} {k : Nat} {v w : V}
theorem intsD_own : ∀ {ds : List PyData} {ns : List Int} {vs : List V} {F : List Addr}, intsD ds = some ns → OwnAll K Z H k vs ds F → vs = ns.map V.int
  | [], ns, vs, F, e, h => by
    cases e
    unfold OwnAll at h
    exact h.1
  | d :: ds, ns, vs, F, e, h => by
    unfold OwnAll at h
    obtain ⟨v, vs', F1, F2, rfl, h1, h2, rfl⟩ := h
    cases d with
    | int i =>
      unfold intsD at e
      cases e2 : intsD ds with
      | none => rw [e2] at e; cases e
      | some is =>
        rw [e2] at e
        cases e
        rw [own_int h1, intsD_own e2 h2]
        rfl
    | _ => cases e
theorem blsD_own : ∀ {ds : List PyData} {ns : List Bool} {vs : List V} {F : List Addr}, blsD ds = some ns → OwnAll K Z H k vs ds F → vs = ns.map V.bl
  | [], ns, vs, F, e, h => by
    cases e
    unfold OwnAll at h
    exact h.1
  | d :: ds, ns, vs, F, e, h => by
    unfold OwnAll at h
    obtain ⟨v, vs', F1, F2, rfl, h1, h2, rfl⟩ := h
    cases d with
    | bool i =>
      unfold blsD at e
      cases e2 : blsD ds with
      | none => rw [e2] at e; cases e
      | some is =>
        rw [e2] at e
        cases e
        rw [own_bl h1, blsD_own e2 h2]
        rfl
    | _ => cases e
theorem intsD_map (ns : List Int) : intsD (ns.map .int) = some ns := by
  induction ns with
  | nil => rfl
  | cons n ns ih => rw [List.map_cons, intsD, ih]
theorem intsD_eq : ∀ {ds : List PyData} {ns : List Int}, intsD ds = some ns → ds = ns.map .int
  | [], ns, e => by cases e; rfl
  | d :: ds, ns, e => by
    cases d with
    | int i =>
      unfold intsD at e
      cases e2 : intsD ds with
      | none => rw [e2] at e; cases e
      | some is => rw [e2] at e; cases e; rw [intsD_eq e2]; rfl
    | _ => cases e
theorem own_ints : ∀ (ns : List Int), OwnAll K Z H k (ns.map V.int) (ns.map .int) []
  | [] => by unfold OwnAll; exact ⟨rfl, rfl⟩
  | n :: ns => by
    rw [List.map_cons, List.map_cons]
    unfold OwnAll
    exact ⟨_, _, [], [], rfl, int_own, own_ints ns, rfl⟩
theorem ok_any : CallOk K (rAny K) gAny := by
  intro fv mv H Z Fs σ s' H1 Z1 Fs1 F vs xs z Q e p q
  unfold gAny at e
  split at e
  · next ds kk =>
    cases eb : blsD ds with
    | none => rw [eb] at e; cases e
    | some bs =>
      rw [eb] at e
      cases e
      obtain ⟨v, rfl, h1⟩ := one_own p.held.pr
      obtain ⟨l, ws, G, rfl, r1, o1, sb⟩ := h1.sub
      rw [blsD_own eb o1] at r1
      exact ⟨l, bs, rfl, .inl r1, q _ _ _ _ (p.sc bl_own)⟩
  · cases e
theorem ok_all : CallOk K (rAll K) gAll := by
  intro fv mv H Z Fs σ s' H1 Z1 Fs1 F vs xs z Q e p q
  unfold gAll at e
  split at e
  · next ds kk =>
    cases eb : blsD ds with
    | none => rw [eb] at e; cases e
    | some bs =>
      rw [eb] at e
      cases e
      obtain ⟨v, rfl, h1⟩ := one_own p.held.pr
      obtain ⟨l, ws, G, rfl, r1, o1, sb⟩ := h1.sub
      rw [blsD_own eb o1] at r1
      exact ⟨l, bs, rfl, .inl r1, q _ _ _ _ (p.sc bl_own)⟩
  · cases e
theorem ok_sum : CallOk K (rSum K) gSum := by
  intro fv mv H Z Fs σ s' H1 Z1 Fs1 F vs xs z Q e p q
  unfold gSum at e
  split at e
  · next ds kk =>
    cases eb : intsD ds with
    | none => rw [eb] at e; cases e
    | some bs =>
      rw [eb] at e
      cases e
      obtain ⟨v, rfl, h1⟩ := one_own p.held.pr
      obtain ⟨l, ws, G, rfl, r1, o1, sb⟩ := h1.sub
      rw [intsD_own eb o1] at r1
      exact ⟨l, bs, rfl, .inl r1, q _ _ _ _ (p.sc int_own)⟩
  · cases e
theorem maxL_ge (ns : List Int) : ∀ n, n ≤ maxL n ns ∧ (∀ y ∈ ns, y ≤ maxL n ns) ∧ (maxL n ns = n ∨ maxL n ns ∈ ns) := by
  induction ns with
  | nil => exact fun n => ⟨Int.le_refl _, fun y h => (by cases h), .inl rfl⟩
  | cons m ms ih =>
    intro n
    obtain ⟨h1, h2, h3⟩ := ih (if n < m then m else n)
    have e : maxL n (m :: ms) = maxL (if n < m then m else n) ms := rfl
    rw [e]
    by_cases c : n < m
    · rw [if_pos c] at h1 h2 h3 ⊢
      refine ⟨by omega, fun y hy => ?_, ?_⟩
      · rcases List.mem_cons.mp hy with rfl | hy
        · exact h1
        · exact h2 y hy
      · rcases h3 with h3 | h3
        · exact .inr (by rw [h3]; exact List.mem_cons_self ..)
        · exact .inr (List.mem_cons_of_mem _ h3)
    · rw [if_neg c] at h1 h2 h3 ⊢
      refine ⟨h1, fun y hy => ?_, ?_⟩
      · rcases List.mem_cons.mp hy with rfl | hy
        · omega
        · exact h2 y hy
      · rcases h3 with h3 | h3
        · exact .inl h3
        · exact .inr (List.mem_cons_of_mem _ h3)
theorem minL_le (ns : List Int) : ∀ n, minL n ns ≤ n ∧ (∀ y ∈ ns, minL n ns ≤ y) ∧ (minL n ns = n ∨ minL n ns ∈ ns) := by
  induction ns with
  | nil => exact fun n => ⟨Int.le_refl _, fun y h => (by cases h), .inl rfl⟩
  | cons m ms ih =>
    intro n
    obtain ⟨h1, h2, h3⟩ := ih (if m < n then m else n)
    have e : minL n (m :: ms) = minL (if m < n then m else n) ms := rfl
    rw [e]
    by_cases c : m < n
    · rw [if_pos c] at h1 h2 h3 ⊢
      refine ⟨by omega, fun y hy => ?_, ?_⟩
      · rcases List.mem_cons.mp hy with rfl | hy
        · exact h1
        · exact h2 y hy
      · rcases h3 with h3 | h3
        · exact .inr (by rw [h3]; exact List.mem_cons_self ..)
        · exact .inr (List.mem_cons_of_mem _ h3)
    · rw [if_neg c] at h1 h2 h3 ⊢
      refine ⟨h1, fun y hy => ?_, ?_⟩
      · rcases List.mem_cons.mp hy with rfl | hy
        · omega
        · exact h2 y hy
      · rcases h3 with h3 | h3
        · exact .inl h3
        · exact .inr (List.mem_cons_of_mem _ h3)
theorem ok_max : CallOk K (rMax K) gMax := by
  intro fv mv H Z Fs σ s' H1 Z1 Fs1 F vs xs z Q e p q
  unfold gMax at e
  split at e
  · next ds kk =>
    split at e
    · next n ns eb =>
      cases e
      obtain ⟨v, rfl, h1⟩ := one_own p.held.pr
      obtain ⟨l, ws, G, rfl, r1, o1, sb⟩ := h1.sub
      rw [intsD_own eb o1] at r1
      refine ⟨l, n :: ns, rfl, .inl r1, by simp, fun m hm hy => ?_⟩
      obtain ⟨g1, g2, g3⟩ := maxL_ge ns n
      have e1 : maxL n ns ≤ m := hy _ (g3.elim (fun g => by rw [g]; exact List.mem_cons_self ..) (List.mem_cons_of_mem _))
      have e2 : m ≤ maxL n ns := by
        rcases List.mem_cons.mp hm with rfl | hm
        · exact g1
        · exact g2 m hm
      have e3 : m = maxL n ns := by omega
      subst e3
      exact q _ _ _ _ (p.sc int_own)
    · cases e
  · cases e
theorem ok_min : CallOk K (rMin K) gMin := by
  intro fv mv H Z Fs σ s' H1 Z1 Fs1 F vs xs z Q e p q
  unfold gMin at e
  split at e
  · next ds kk =>
    split at e
    · next n ns eb =>
      cases e
      obtain ⟨v, rfl, h1⟩ := one_own p.held.pr
      obtain ⟨l, ws, G, rfl, r1, o1, sb⟩ := h1.sub
      rw [intsD_own eb o1] at r1
      refine ⟨l, n :: ns, rfl, .inl r1, by simp, fun m hm hy => ?_⟩
      obtain ⟨g1, g2, g3⟩ := minL_le ns n
      have e1 : m ≤ minL n ns := hy _ (g3.elim (fun g => by rw [g]; exact List.mem_cons_self ..) (List.mem_cons_of_mem _))
      have e2 : minL n ns ≤ m := by
        rcases List.mem_cons.mp hm with rfl | hm
        · exact g1
        · exact g2 m hm
      have e3 : m = minL n ns := by omega
      subst e3
      exact q _ _ _ _ (p.sc int_own)
    · cases e
  · cases e
theorem insI_perm (n : Int) : ∀ ms, (insI n ms).Perm (n :: ms)
  | [] => .refl _
  | m :: ms => by
    unfold insI
    split
    · exact .refl _
    · exact ((insI_perm n ms).cons m).trans (.swap ..)
theorem sortI_perm : ∀ ns, (sortI ns).Perm ns
  | [] => .refl _
  | n :: ns => (insI_perm n _).trans ((sortI_perm ns).cons n)
theorem insI_srt (n : Int) : ∀ {ms : List Int}, ms.Pairwise (· ≤ ·) → (insI n ms).Pairwise (· ≤ ·)
  | [], _ => List.pairwise_singleton ..
  | m :: ms, h => by
    unfold insI
    have h' := List.pairwise_cons.mp h
    split
    · next c => exact List.pairwise_cons.mpr ⟨fun y hy => ((List.mem_cons.mp hy).elim (fun g => g ▸ c) fun hy => Int.le_trans c (h'.1 y hy)), h⟩
    · next c => exact List.pairwise_cons.mpr ⟨fun y hy => ((List.mem_cons.mp ((insI_perm n ms).mem_iff.mp hy)).elim (fun g => by omega) fun hy => h'.1 y hy), insI_srt n h'.2⟩
theorem sortI_srt : ∀ ns, (sortI ns).Pairwise (· ≤ ·)
  | [] => .nil
  | n :: ns => insI_srt n (sortI_srt ns)
theorem srt_uniq {xs ys : List Int} (p : xs.Perm ys) (hx : xs.Pairwise (· ≤ ·)) (hy : ys.Pairwise (· ≤ ·)) : xs = ys := List.Perm.eq_of_pairwise (le := (· ≤ ·)) (fun a b _ _ h1 h2 => Int.le_antisymm h1 h2) hx hy p
theorem ok_sortI : CallOk K (rSortedI K) gSortI := by
  intro fv mv H Z Fs σ s' H1 Z1 Fs1 F vs xs z Q e p q
  unfold gSortI at e
  split at e
  · next ds kk =>
    cases eb : intsD ds with
    | none => rw [eb] at e; cases e
    | some bs =>
      rw [eb] at e
      cases e
      obtain ⟨v, rfl, h1⟩ := one_own p.held.pr
      obtain ⟨l, ws, G, rfl, r1, o1, sb⟩ := h1.sub
      rw [intsD_own eb o1] at r1
      refine ⟨l, bs, rfl, .inl r1, fun ns' pn pm sr hp => ?_⟩
      have e2 : ns' = sortI bs := srt_uniq (pm.trans (sortI_perm bs).symm) sr (sortI_srt bs)
      subst e2
      exact q _ _ _ _ (p.newL (stb_all K _ _) (F' := []) (k := 9) hp (List.nil_sublist _) fun Z2 mz m2 => own_ints _)
  · cases e
theorem ok_listOf : CallOk K (fun xs H Q => ∃ p ys, xs = [.ref p] ∧ (SqL K H p ys ∨ SqT K H p ys) ∧ ∀ l, H l = none → Q (.ref l) (upd H l (.lst ys))) gListOf := by
  intro fv mv H Z Fs σ s' H1 Z1 Fs1 F vs xs z Q e p q
  unfold gListOf at e
  split at e
  · next x =>
    obtain ⟨xd, xk⟩ := x
    obtain ⟨v, rfl, h1⟩ := one_own p.held.pr
    simp only at e h1
    split at e
    · next ds =>
      cases e
      obtain ⟨l, ws, G, rfl, r1, o1, sb⟩ := h1.sub
      obtain ⟨E1, t1, q1⟩ := OwnAll.to (m := depI (PyData.list ds, xk)) o1 (p.held.nd.sublist sb) (depI_ok (Nat.le_refl _))
      exact ⟨l, ws, rfl, .inl (.inl r1), fun pn hp => q _ _ _ _ (p.newL (stb_all K _ _) (F' := E1) hp (t1.trans sb) fun Z2 mz m2 => q1 Z2 mz fun a ha hn => m2 a (sb.subset ha) hn)⟩
    · cases e
  · cases e
theorem ok_isB : OpOk K rIsB gIsB := by
  intro fv mv H Z Fs σ s' H1 Z1 Fs1 F v w x y z Q e p q
  obtain ⟨F1, F2, h1, h2, eF⟩ := two_own p.held.pr
  unfold gIsB at e
  split at e
  · next i j ex ey =>
    cases e
    rw [ex] at h1
    rw [ey] at h2
    exact ⟨i, j, own_bl h1, own_bl h2, q _ _ _ _ (p.sc bl_own)⟩
  · cases e
theorem ok_isNB : OpOk K rNotB gIsNB := by
  intro fv mv H Z Fs σ s' H1 Z1 Fs1 F v w x y z Q e p q
  obtain ⟨F1, F2, h1, h2, eF⟩ := two_own p.held.pr
  unfold gIsNB at e
  split at e
  · next i j ex ey =>
    cases e
    rw [ex] at h1
    rw [ey] at h2
    exact ⟨i, j, own_bl h1, own_bl h2, q _ _ _ _ (p.sc bl_own)⟩
  · cases e
end
section
variable {X : Cx} {e a b o ix : Expr} {pos apos cpos p : Pos} {fv mv fva mva fvb mvb fvx mvx : List Nat} {f fa fb fx : Ex} {fp : Pth} {i : Nat} {io : List (Nat × Nat)} {fs : Exs}
theorem idxD_ok {d : PyData} : ∀ {ds : List PyData} {j0 j : Nat}, idxD d ds j0 = some j → ∃ m z, j = j0 + m ∧ ds[m]? = some z ∧ PyData.eqv z d = true ∧ ∀ (m' : Nat) (z' : PyData), m' < m → ds[m']? = some z' → PyData.eqv z' d = false
  | [], j0, j, e => by cases e
  | z :: zs, j0, j, e => by
    unfold idxD at e
    split at e
    · next c => cases e; exact ⟨0, z, rfl, rfl, c, fun m' z' h => absurd h (Nat.not_lt_zero _)⟩
    · next c =>
      obtain ⟨m, w, e1, e2, e3, e4⟩ := idxD_ok e
      refine ⟨m + 1, w, by omega, by simpa using e2, e3, fun m' z' h e' => ?_⟩
      cases m' with
      | zero => cases e'; exact Bool.eq_false_iff.mpr c
      | succ m' => exact e4 m' z' (by omega) (by simpa using e')
theorem re_index {k : Nat} (hr : Room k X.A) (ho : PE X o (tE X.K fva mva fa)) (he : PE X e (tE X.K fvb mvb fb)) (d : djn fva mvb = true := by rfl) (hbase : attributeBase o "index" X.env (eval o X.env) = eval o X.env := by rfl)
    (hfew : ((backTo cpos (starEach [e] X.env)).all (fun x => !x.1) && (backToKw cpos (keywordEach [] X.env)).all (fun x => x.1.isSome) && decide ([e].length + ([] : List Keyword).length + (if ([] : List Keyword).isEmpty then 0 else 1) < 30)) = true := by rfl)
    (hline : (apos.endLine == cpos.line) = true := by rfl) (hst : starEach [e] X.env = (false, eval e X.env) :: starEach [] X.env := by rfl) (hplain : (backTo cpos (starEach [] X.env)).any (·.1) = false := by rfl) :
    PE X (.Call (.Attribute o "index" apos) [e] [] cpos) (tE X.K (fva ++ fvb) (mva ++ mvb) (ev2 gIndex fa fb)) := by
  refine PE.of (pe_bm PySem.F.plainAttrs_list PySem.F.slot_list_index PySem.F.type_list_index (mt_indexD (hu65 hr)) ho (pa_cons he pa_nil hst) hbase hfew hline hst hplain) fun σ H Q h => ?_
  obtain ⟨Z, s, Fs, z, s', gd, e, q⟩ := h
  unfold ev2 at e
  obtain ⟨⟨x, s1⟩, ea, e⟩ := Res.bind_eq_ok.mp e
  obtain ⟨⟨y, s2⟩, eb, e⟩ := Res.bind_eq_ok.mp e
  obtain ⟨z', eg, e⟩ := Res.bind_eq_ok.mp e
  cases e
  refine ⟨Z, s, Fs, x, s1, gd, ea, fun u H1 Z1 Fs1 F p1 => ?_⟩
  obtain ⟨xd, xk⟩ := x
  unfold gIndex at eg
  split at eg
  · next ds ex =>
    simp only at ex
    subst ex
    split at eg
    · next sh =>
      cases ej : idxD y.1 ds 0 with
      | none => rw [ej] at eg; cases eg
      | some j =>
        rw [ej] at eg
        cases eg
        have ow1 : Own X.K _ H1 xk u (.list ds) F := p1.held.pr
        obtain ⟨pa, vs, G, rfl, r1, o1, sb⟩ := ow1.sub
        refine ⟨.inl ⟨rfl, vs, .inl r1⟩, Z1, s1, Fs1, y, _, p1.good, eb, fun v H2 Z2 Fs2 F2 p2 => ?_⟩
        have pp := p1.cons p2.one (djn_ok d)
        have sh := sh
        obtain ⟨F3, F4, h1, h2, _⟩ := two_own pp.held.pr
        obtain ⟨m, w, e1, e2, e3, e4⟩ := idxD_ok ej
        rw [Nat.zero_add] at e1
        subst e1
        rw [Bool.and_eq_true] at sh
        exact ⟨pa, v, y.1, ds, j, w, rfl, rfl, Own.dp _ h1 (ndc_shaped sh.1), Own.dp _ h2 (ndc_shaped sh.2), sh.1, sh.2, e2, e3, e4, q _ _ _ _ _ (pp.sc int_own)⟩
    · cases eg
  · cases eg
/-! ### pop -/
theorem own_flat {K : PySem.W.Frag} {Z0 : Zs} {H2 : Hp} {k0 : Nat} {v : V} {d : PyData} {F0 : List Addr} {pa : Addr} {vs vs' : List V} (o : Own K Z0 H2 k0 v d F0) (hd : hgt d = 0) (hp : H2 pa = some (.lst vs)) (Z' : Zs) : Own K Z' (upd H2 pa (.lst vs')) 0 v d [] := by
  have o1 : Own K (fun _ => False) H2 0 v d F0 := Own.lift d o (by omega) (by omega)
  have e := Own.nil0 d o1
  subst e
  refine Own.zmono d (Own.keep d o1 fun a u ea q => ?_) fun a z => z.elim
  have ne : a ≠ pa := fun z => by
    subst z
    rw [hp] at ea
    cases ea
    rcases q with (q | q) | q
    · cases q
    · exact q
    · exact q trivial
  unfold upd
  rw [if_neg ne]
  exact ea
def popD (j : Nat) (i : Nat) (js : List Nat) (s : SD) : Res (DV × SD) := do
  let x ← slot s i
  match dAt js x.1 with
  | some ds => match ds[j]? with
    | some d => if hgt d = 0 then (do
        let s ← chg i js x.2 (fun ds => .ok (ds.eraseIdx j)) s
        .ok ((d, 0), s)) else .bad
    | none => .bad
  | none => .bad
def evPop (i : Nat) (p : Pth) : Ex := fun s => do
  let (js, s) ← p s
  let x ← slot s i
  match dAt js x.1 with
  | some ds => popD (ds.length - 1) i js s
  | none => .bad
def ixS (n : Nat) (i : Int) : Option Nat := if small n then ixN n i else none
def evPopAt (i : Nat) (p : Pth) (e : Ex) : Ex := fun s => do
  let (js, s) ← p s
  let (y, s) ← e s
  let x ← slot s i
  match dAt js x.1, y.1 with
  | some ds, .int n => match ixS ds.length n with
    | some j => popD j i js s
    | none => .bad
  | _, _ => .bad
theorem OwnAll.erase {K : PySem.W.Frag} {Z : Zs} {H : Hp} {k : Nat} : ∀ (ds : List PyData) {vs : List V} {F : List Addr} (j : Nat), OwnAll K Z H k vs ds F → ∃ F', F'.Sublist F ∧ OwnAll K Z H k (vs.eraseIdx j) (ds.eraseIdx j) F'
  | [], vs, F, j, h => by
    unfold OwnAll at h
    obtain ⟨rfl, rfl⟩ := h
    exact ⟨[], .refl _, by unfold OwnAll; exact ⟨rfl, rfl⟩⟩
  | d :: ds, vs, F, j, h => by
    unfold OwnAll at h
    obtain ⟨v, vs', F1, F2, rfl, h1, h2, rfl⟩ := h
    cases j with
    | zero => exact ⟨F2, List.sublist_append_right _ _, h2⟩
    | succ j =>
      obtain ⟨F', sb, h'⟩ := OwnAll.erase ds j h2
      exact ⟨F1 ++ F', (List.Sublist.refl _).append sb, by rw [List.eraseIdx_cons_succ, List.eraseIdx_cons_succ]; unfold OwnAll; exact ⟨v, _, F1, F', rfl, h1, h', rfl⟩⟩
theorem popD_ok {K : PySem.W.Frag} {Z Z1 : Zs} {H H1 : Hp} {Fs Fs1 : Fp} {σ : L2.St} {s1 s2 : SD} {js : List Nat} {v0 u : V} {j : Nat} {z : DV} {Q : VK} (p1 : Post K PNone [] mv H Z Fs σ s1 H1 Z1 Fs1 []) (ev0 : σ[i]? = some (some v0)) (r1 : Reach H1 (Fs1 i) v0 js u) (e : popD j i js s1 = .ok (z, s2)) (q : ∀ v H' Z' Fs' F, Post K (POne K v z) [] (mv ++ [i]) H Z Fs σ s2 H' Z' Fs' F → Q v H') :
    ∃ pa vs ds y x, u = .ref pa ∧ H1 pa = some (.lst vs) ∧ s1[i]? = some (some x) ∧ dAt js x.1 = some ds ∧ vs.length = ds.length ∧ j < vs.length ∧ vs[j]? = some y ∧ Q y (upd H1 pa (.lst (vs.eraseIdx j))) := by
  unfold popD at e
  obtain ⟨x, ex, e⟩ := Res.bind_eq_ok.mp e
  cases ed : dAt js x.1 with
  | none => rw [ed] at e; cases e
  | some ds =>
    rw [ed] at e
    simp only at e
    cases ej : ds[j]? with
    | none => rw [ej] at e; cases e
    | some d =>
      rw [ej] at e
      simp only at e
      split at e
      · next hg =>
        obtain ⟨s3, ec, e⟩ := Res.bind_eq_ok.mp e
        cases e
        obtain ⟨es, _⟩ := p1.good.slotAt ex
        unfold chg at ec
        obtain ⟨x', ex', ec⟩ := Res.bind_eq_ok.mp ec
        rw [ex] at ex'
        cases ex'
        rw [ed] at ec
        simp only [Res.bind_ok] at ec
        split at ec
        · next l =>
          cases ec
          obtain ⟨pa, vs, e1, h2, hl, ⟨k0, Z0, G0, ow⟩, fin⟩ := mutate (lows_none x.2) stb_none p1 es ed l ev0 r1
          obtain ⟨y, F', ey, oy, _⟩ := OwnAll.get ds j ow ej
          obtain ⟨Z4, Fs4, p4⟩ := fin (vs.eraseIdx j) (ds.eraseIdx j) fun Zq Hq m G Fx o1 o2 nd => by
            obtain ⟨G', sb, o⟩ := OwnAll.erase ds j o1
            exact ⟨G', o, fun a ha => .inl (sb.subset ha), (List.nodup_append.mp nd).1.sublist sb⟩
          have hj : j < vs.length := (List.getElem?_eq_some_iff.mp ey).1
          exact ⟨pa, vs, ds, y, x, e1, h2, es, ed, hl, hj, ey, q _ _ Z4 Fs4 [] ⟨p4.tr, p4.good, ⟨own_flat oy hg h2 _, List.nodup_nil, fun a ha => (by cases ha), fun a ha => (by cases ha)⟩, fun a ha => (by cases ha)⟩⟩
        · cases ec
      · cases e
theorem re_pop (ho : PE X o (tP X.K i mva fp)) (hbase : attributeBase o "pop" X.env (eval o X.env) = eval o X.env := by rfl) (hline : (apos.endLine == cpos.line) = true := by rfl) :
    PE X (.Call (.Attribute o "pop" apos) [] [] cpos) (tE X.K [] (mva ++ [i]) (evPop i fp)) := by
  refine PE.of (pe_bm0 PySem.F.plainAttrs_list PySem.F.slot_list_pop PySem.F.type_list_pop mt_pop ho hbase hline) fun σ H Q h => ?_
  obtain ⟨Z, s, Fs, z, s', gd, e, q⟩ := h
  unfold evPop at e
  obtain ⟨⟨js, s1⟩, ea, e⟩ := Res.bind_eq_ok.mp e
  obtain ⟨x, ex, e⟩ := Res.bind_eq_ok.mp e
  refine ⟨Z, s, Fs, js, s1, gd, ea, fun u H1 Z1 Fs1 p1 ⟨v0, ev0, r1⟩ => ?_⟩
  cases ed : dAt js x.1 with
  | none => simp only [ed] at e; cases e
  | some ds =>
    simp only [ed] at e
    obtain ⟨pa, vs, ds1, y, x1, rfl, h2, es, ed1, hl, hj, ey, q'⟩ := popD_ok p1 ev0 r1 e q
    obtain ⟨es', _⟩ := p1.good.slotAt ex
    rw [es] at es'
    cases es'
    rw [ed] at ed1
    cases ed1
    refine ⟨.inl ⟨rfl, vs, .inl (.inl h2)⟩, pa, vs, y, rfl, rfl, h2, by rw [hl]; exact ey, ?_⟩
    rw [← hl, PyProof.Rows.Copied.eraseIdx_last] at q'
    exact q'
theorem re_popAt (ho : PE X o (tP X.K i mva fp)) (he : PE X e (tE X.K fv mv f)) (d : djn [i] mv = true := by rfl) (hbase : attributeBase o "pop" X.env (eval o X.env) = eval o X.env := by rfl)
    (hfew : ((backTo cpos (starEach [e] X.env)).all (fun x => !x.1) && (backToKw cpos (keywordEach [] X.env)).all (fun x => x.1.isSome) && decide ([e].length + ([] : List Keyword).length + (if ([] : List Keyword).isEmpty then 0 else 1) < 30)) = true := by rfl)
    (hline : (apos.endLine == cpos.line) = true := by rfl) (hst : starEach [e] X.env = (false, eval e X.env) :: starEach [] X.env := by rfl) (hplain : (backTo cpos (starEach [] X.env)).any (·.1) = false := by rfl) :
    PE X (.Call (.Attribute o "pop" apos) [e] [] cpos) (tE X.K [] (mva ++ mv ++ [i]) (evPopAt i fp f)) := by
  refine PE.of (pe_bm PySem.F.plainAttrs_list PySem.F.slot_list_pop PySem.F.type_list_pop mt_popAt ho (pa_cons he pa_nil hst) hbase hfew hline hst hplain) fun σ H Q h => ?_
  obtain ⟨Z, s, Fs, z, s', gd, e, q⟩ := h
  unfold evPopAt at e
  obtain ⟨⟨js, s1⟩, ea, e⟩ := Res.bind_eq_ok.mp e
  obtain ⟨⟨y, s2⟩, eb, e⟩ := Res.bind_eq_ok.mp e
  obtain ⟨x, ex, e⟩ := Res.bind_eq_ok.mp e
  have ni : i ∉ mv := djn_ok d i (List.mem_singleton.mpr rfl)
  refine ⟨Z, s, Fs, js, s1, gd, ea, fun u H1 Z1 Fs1 p1 ⟨v0, ev0, r1⟩ => ?_⟩
  obtain ⟨pa, vs, rfl, _, hp⟩ := r1.lastL
  refine ⟨.inl ⟨rfl, vs, .inl (.inl hp)⟩, Z1, s1, Fs1, y, s2, p1.good, eb, fun v H2 Z2 Fs2 F2 p2 => ?_⟩
  have r2 := r1.on p1.good p2.tr ni
  have p3 := (p1.seq p2.nothing).fv0
  obtain ⟨yd, yk⟩ := y
  cases ed : dAt js x.1 with
  | none => simp only [ed] at e; cases e
  | some ds =>
    simp only [ed] at e
    cases yd with
    | int n =>
      simp only at e
      cases ej0 : ixS ds.length n with
        | none => rw [ej0] at e; cases e
        | some j =>
          rw [ej0] at e
          simp only at e
          obtain ⟨sm, ej⟩ : small ds.length = true ∧ ixN ds.length n = some j := by
            unfold ixS at ej0
            split at ej0
            · next c => exact ⟨c, ej0⟩
            · cases ej0
          obtain ⟨pa', vs', ds1, w, x1, e1, h2, es, ed1, hl, hj, ey, q'⟩ := popD_ok p3 ev0 r2 e q
          cases e1
          obtain ⟨es', _⟩ := p3.good.slotAt ex
          rw [es] at es'
          cases es'
          rw [ed] at ed1
          cases ed1
          obtain ⟨k1, k2, k3, k4⟩ := ixN_seq ej
          have hz := of_decide_eq_true (show decide (ds.length ≤ 1000000) = true from sm)
          exact ⟨pa, vs', n, j, w, rfl, by rw [own_int p2.held.pr], h2, by omega, by omega, by rw [hl]; exact k1, ey, q'⟩
    | _ => cases e
end
end Sq
end

section
namespace Sq
open PySem PySem.Spec L2
/-! ### list(range(..)), name += e, a < b < c -/
def lR (a b : Int) : Res DV := if lo62 a && lo62 b && decide ((b - a).toNat ≤ 1000000) then .ok (.list (rng a (b - a).toNat), 10) else .bad
def gR1 (x : DV) : Res DV := match x.1 with
  | .int n => lR 0 n
  | _ => .bad
def gR2 (x y : DV) : Res DV := match x.1, y.1 with
  | .int a, .int b => lR a b
  | _, _ => .bad
def sAug (i : Nat) (g : DV → DV → Res DV) (e : Ex) : Sx := fun s => do
  let x ← slot s i
  let (y, s) ← e s
  let z ← g (x.1, 0) y
  match z.1 with
  | .int n => .ok (.next, s.set i (some (.int n, 0)))
  | _ => .bad
def evCh (g h : DV → DV → Res DV) (a b c : Ex) : Ex := fun s => do
  let (x, s) ← a s
  let (y, s) ← b s
  let z ← g x y
  match z.1 with
  | .bool true => do
    let (w, s) ← c s
    let z ← h (y.1, 0) w
    .ok (z, s)
  | .bool false => .ok ((.bool false, 0), s)
  | _ => .bad
section
variable {X : Cx} {e a b c o : Expr} {pos p p2 : Pos} {fv mv fva mva fvb mvb fvc mvc : List Nat} {f fa fb fc : Ex} {i : Nat}
theorem lR_ok {K : PySem.W.Frag} {Z : Zs} {H : Hp} {Fs : Fp} {σ : L2.St} {s' : SD} {H1 : Hp} {Z1 : Zs} {Fs1 : Fp} {F : List Addr} {P : Pr} {a b : Int} {z : DV} {Q : VK} (S : Stb P) (e : lR a b = .ok z) (pp : Post K P fv mv H Z Fs σ s' H1 Z1 Fs1 F) (q : ∀ u H2 Z2 F2, Post K (POne K u z) fv mv H Z Fs σ s' H2 Z2 Fs1 F2 → Q u H2) :
    RgOk a b ∧ ∀ r, H1 r = none → Q (.ref r) (upd H1 r (.lst (rgV a b))) := by
  unfold lR at e
  split at e
  · next c =>
    cases e
    simp only [lo62, Bool.and_eq_true, decide_eq_true_eq] at c
    refine ⟨⟨by omega, by omega, by omega, by omega, by omega⟩, fun r hr => q _ _ _ _ (pp.newL S (F' := []) (k := 9) hr (List.nil_sublist _) fun Z2 mz m2 => ?_)⟩
    have e1 : rgV a b = ((List.range (b - a).toNat).map fun i => a + (i : Nat)).map V.int := by unfold rgV; rw [List.map_map]; rfl
    have e2 : rng a (b - a).toNat = ((List.range (b - a).toNat).map fun i => a + (i : Nat)).map .int := by unfold rng; rw [List.map_map]; rfl
    rw [e1, e2]
    exact own_ints _
  · cases e
theorem re_listR1 (hm : X.mg "list" = none) (hm2 : X.mg "range" = none) (ha : PE X a (tE X.K fv mv f)) (hc : X.calm = true := by rfl) (hg : Gl X "list" := by rfl) (hg2 : Gl X "range" := by rfl) (na : starEach [a] X.env = (false, eval a X.env) :: starEach [] X.env := by rfl)
    (nb : starEach [.Call (.Name "range" p2) [a] [] pos] X.env = (false, eval (.Call (.Name "range" p2) [a] [] pos) X.env) :: starEach [] X.env := by rfl) {q : Pos} : PE X (.Call (.Name "list" p) [.Call (.Name "range" p2) [a] [] pos] [] q) (tE X.K fv mv (ev1 gR1 f)) := by
  refine PE.of (pe_listRg hc hg hm (prg_1 hg2 hm2 ha na) nb) fun σ H Q h => ?_
  obtain ⟨Z, s, Fs, z, s', gd, e, q⟩ := h
  unfold ev1 at e
  obtain ⟨⟨x, s1⟩, ea, e⟩ := Res.bind_eq_ok.mp e
  obtain ⟨z', eg, e⟩ := Res.bind_eq_ok.mp e
  cases e
  refine ⟨Z, s, Fs, x, _, gd, ea, fun v H1 Z1 Fs1 F p => ?_⟩
  obtain ⟨xd, xk⟩ := x
  unfold gR1 at eg
  cases xd with
  | int n =>
    have hv : v = .int n := own_int p.held.pr
    exact ⟨n, hv, lR_ok (stb_one _ _ _) eg p fun u H2 Z2 F2 p2 => q u H2 Z2 Fs1 F2 p2⟩
  | _ => cases eg
theorem re_listR2 (hm : X.mg "list" = none) (hm2 : X.mg "range" = none) (ha : PE X a (tE X.K fva mva fa)) (hb : PE X b (tE X.K fvb mvb fb)) (d : djn fva mvb = true := by rfl) (hc : X.calm = true := by rfl) (hg : Gl X "list" := by rfl) (hg2 : Gl X "range" := by rfl) (na : starEach [a, b] X.env = (false, eval a X.env) :: starEach [b] X.env := by rfl)
    (na2 : starEach [b] X.env = (false, eval b X.env) :: starEach [] X.env := by rfl) (hp : (backTo pos (starEach [b] X.env)).any (·.1) = false := by rfl)
    (nb : starEach [.Call (.Name "range" p2) [a, b] [] pos] X.env = (false, eval (.Call (.Name "range" p2) [a, b] [] pos) X.env) :: starEach [] X.env := by rfl) {q : Pos} : PE X (.Call (.Name "list" p) [.Call (.Name "range" p2) [a, b] [] pos] [] q) (tE X.K (fva ++ fvb) (mva ++ mvb) (ev2 gR2 fa fb)) := by
  refine PE.of (pe_listRg hc hg hm (prg_2 hg2 hm2 ha hb na na2 hp) nb) fun σ H Q h => ?_
  obtain ⟨Z, s, Fs, z, s', gd, e, q⟩ := h
  unfold ev2 at e
  obtain ⟨⟨x, s1⟩, ea, e⟩ := Res.bind_eq_ok.mp e
  obtain ⟨⟨y, s2⟩, eb, e⟩ := Res.bind_eq_ok.mp e
  obtain ⟨z', eg, e⟩ := Res.bind_eq_ok.mp e
  cases e
  refine two gd ea eb d fun v w H1 Z1 Fs1 F p => ?_
  obtain ⟨F1, F2, h1, h2, _⟩ := two_own p.held.pr
  obtain ⟨xd, xk⟩ := x
  obtain ⟨yd, yk⟩ := y
  unfold gR2 at eg
  cases xd with
  | int n =>
    cases yd with
    | int m => exact ⟨n, m, own_int h1, own_int h2, lR_ok (stb_all _ _ _) eg p fun u H2 Z2 F2 p2 => q u H2 Z2 Fs1 F2 p2⟩
    | _ => cases eg
  | _ => cases eg
/-- name op= e, ints -/
theorem rs_aug {x : Str} {op : Operator} {g : Int → Int → Int} {pos' : Pos} (ho : PIp X op (ipI g)) (hN : X.N.Nodup) (he : PE X e (tE X.K fv mv f)) (hi : X.N[i]? = some x := by rfl) (hx : L2.Loc X.env.scope x := by first | exact Or.inl rfl | exact Or.inr rfl) (hf : X.fn x = true ∨ X.env.scope.names.lookup x = some .local := by first | exact .inl rfl | exact .inr rfl | assumption) :
    PS X (.AugAssign (.Name x pos') op e pos) (tS X.K [i] (mv ++ [i]) (sAug i (gI g) f)) := by
  refine PS.of (ps_aug hN hi hx he ho hf) fun D σ H h => ?_
  obtain ⟨Z, s, Fs, fl, s', gd, e, q⟩ := h
  unfold sAug at e
  obtain ⟨x0, ex, e⟩ := Res.bind_eq_ok.mp e
  obtain ⟨⟨y, s1⟩, ea, e⟩ := Res.bind_eq_ok.mp e
  obtain ⟨z, eg, e⟩ := Res.bind_eq_ok.mp e
  obtain ⟨es, v, ev, ow⟩ := gd.slotAt ex
  refine ⟨v, ev, Z, s, Fs, y, s1, gd, ea, fun w H1 Z1 Fs1 F p1 => ?_⟩
  obtain ⟨xd, xk⟩ := x0
  obtain ⟨yd, yk⟩ := y
  cases xd with
  | int n =>
    cases yd with
    | int m =>
      cases eg
      cases e
      refine ⟨n, m, own_int ow, own_int p1.held.pr, ?_⟩
      have pn : Post X.K (POne X.K (.int (g n m)) (.int (g n m), 0)) [] mv H Z Fs σ s1 H1 Z1 Fs1 [] := ⟨p1.tr, p1.good, ⟨int_own, List.nodup_nil, fun a ha => (by cases ha), fun a ha => (by cases ha)⟩, fun a ha => (by cases ha)⟩
      exact q _ H1 Z1 _ (pn.put i)
    | _ => cases eg
  | _ => cases eg
/-- a < b < c, ints -/
theorem re_chain {op op' : CmpOp} {g h : Int → Int → Bool} (ho : OpR X (compareOp op) (rI0 fun i j => .bl (g i j))) (ho' : OpR X (compareOp op') (rI0 fun i j => .bl (h i j))) (ha : PE X a (tE X.K fva mva fa)) (hb : PE X b (tE X.K fvb mvb fb)) (hc : PE X c (tE X.K fvc mvc fc)) (d : djn fva mvb = true := by rfl)
    (hm : lastMarks [op, op'] [b, c] = false := by with_unfolding_all rfl) : PE X (.Compare a [op, op'] [b, c] pos) (tE X.K [] (mva ++ mvb ++ mvc) (evCh (gB g) (gB h) fa fb fc)) := by
  refine PE.of (pe_chain ho ho' ha hb hc hm) fun σ H Q q0 => ?_
  obtain ⟨Z, s, Fs, z, s', gd, e, q⟩ := q0
  unfold evCh at e
  obtain ⟨⟨x, s1⟩, ea, e⟩ := Res.bind_eq_ok.mp e
  obtain ⟨⟨y, s2⟩, eb, e⟩ := Res.bind_eq_ok.mp e
  obtain ⟨z', eg, e⟩ := Res.bind_eq_ok.mp e
  refine two gd ea eb d fun v w H1 Z1 Fs1 F p => ?_
  obtain ⟨F1, F2, h1, h2, _⟩ := two_own p.held.pr
  obtain ⟨xd, xk⟩ := x
  obtain ⟨yd, yk⟩ := y
  have pn : Post X.K PNone [] (mva ++ mvb) H Z Fs σ s2 H1 Z1 Fs1 [] := ⟨p.tr, p.good, ⟨rfl, List.nodup_nil, fun a ha => (by cases ha), fun a ha => (by cases ha)⟩, fun a ha => (by cases ha)⟩
  cases xd with
  | int n =>
    cases yd with
    | int m =>
      cases eg
      refine ⟨n, m, own_int h1, own_int h2, g n m, rfl, ?_⟩
      cases hg : g n m with
      | true =>
        rw [if_pos rfl]
        simp only [hg] at e
        obtain ⟨⟨u, s3⟩, ec, e⟩ := Res.bind_eq_ok.mp e
        obtain ⟨z2, eh, e⟩ := Res.bind_eq_ok.mp e
        cases e
        refine ⟨Z1, s2, Fs1, u, _, p.good, ec, fun w' H2 Z2 Fs2 F3 p2 => ?_⟩
        obtain ⟨ud, uk⟩ := u
        cases ud with
        | int l =>
          cases eh
          refine ⟨m, l, own_int h2, own_int p2.held.pr, q _ H2 Z2 Fs2 [] ?_⟩
          have p3 := pn.seq p2
          exact ⟨p3.tr, p3.good, ⟨bl_own, List.nodup_nil, fun a ha => (by cases ha), fun a ha => (by cases ha)⟩, fun a ha => (by cases ha)⟩
        | _ => cases eh
      | false =>
        rw [if_neg (by decide)]
        simp only [hg] at e
        cases e
        refine q _ H1 Z1 Fs1 [] ⟨p.tr.weak fun i hi => List.mem_append_left _ hi, p.good, ⟨bl_own, List.nodup_nil, fun a ha => (by cases ha), fun a ha => (by cases ha)⟩, fun a ha => (by cases ha)⟩
    | _ => cases eg
  | _ => cases eg
/-! ### in short -/
variable {io : List (Nat × Nat)} {fs : Exs} {k : Nat}
theorem xany (hm : X.mg "any" = none) (ha : PA X [e] (tA X.K fv mv io fs)) (hc : X.calm = true := by rfl) (hg : Gl X "any" := by rfl) (he : starEach [e] X.env = (false, eval e X.env) :: starEach [] X.env := by rfl) (hpl : (backTo pos (starEach [] X.env)).any (·.1) = false := by rfl) : PE X (.Call (.Name "any" p) [e] [] pos) (tE X.K fv mv (evN gAny fs)) := re_callB (cr_any hc) ok_any hg hm (by decide +kernel) ha (by decide) (by decide) he hpl
theorem xall (hm : X.mg "all" = none) (ha : PA X [e] (tA X.K fv mv io fs)) (hc : X.calm = true := by rfl) (hg : Gl X "all" := by rfl) (he : starEach [e] X.env = (false, eval e X.env) :: starEach [] X.env := by rfl) (hpl : (backTo pos (starEach [] X.env)).any (·.1) = false := by rfl) : PE X (.Call (.Name "all" p) [e] [] pos) (tE X.K fv mv (evN gAll fs)) := re_callB (cr_all hc) ok_all hg hm (by decide +kernel) ha (by decide) (by decide) he hpl
theorem xsum (hm : X.mg "sum" = none) (ha : PA X [e] (tA X.K fv mv io fs)) (hc : X.calm = true := by rfl) (hg : Gl X "sum" := by rfl) (he : starEach [e] X.env = (false, eval e X.env) :: starEach [] X.env := by rfl) (hpl : (backTo pos (starEach [] X.env)).any (·.1) = false := by rfl) : PE X (.Call (.Name "sum" p) [e] [] pos) (tE X.K fv mv (evN gSum fs)) := re_callB (cr_sum hc) ok_sum hg hm (by decide +kernel) ha (by decide) (by decide) he hpl
theorem xmax (hm : X.mg "max" = none) (ha : PA X [e] (tA X.K fv mv io fs)) (hc : X.calm = true := by rfl) (hg : Gl X "max" := by rfl) (he : starEach [e] X.env = (false, eval e X.env) :: starEach [] X.env := by rfl) (hpl : (backTo pos (starEach [] X.env)).any (·.1) = false := by rfl) : PE X (.Call (.Name "max" p) [e] [] pos) (tE X.K fv mv (evN gMax fs)) := re_callB (cr_max hc) ok_max hg hm (by decide +kernel) ha (by decide) (by decide) he hpl
theorem xmin (hm : X.mg "min" = none) (ha : PA X [e] (tA X.K fv mv io fs)) (hc : X.calm = true := by rfl) (hg : Gl X "min" := by rfl) (he : starEach [e] X.env = (false, eval e X.env) :: starEach [] X.env := by rfl) (hpl : (backTo pos (starEach [] X.env)).any (·.1) = false := by rfl) : PE X (.Call (.Name "min" p) [e] [] pos) (tE X.K fv mv (evN gMin fs)) := re_callB (cr_min hc) ok_min hg hm (by decide +kernel) ha (by decide) (by decide) he hpl
theorem xsorted (hm : X.mg "sorted" = none) (ha : PA X [e] (tA X.K fv mv io fs)) (hg : Gl X "sorted" := by rfl) (he : starEach [e] X.env = (false, eval e X.env) :: starEach [] X.env := by rfl) (hpl : (backTo pos (starEach [] X.env)).any (·.1) = false := by rfl) : PE X (.Call (.Name "sorted" p) [e] [] pos) (tE X.K fv mv (evN gSortI fs)) := re_callB cr_sortedI ok_sortI hg hm (by decide +kernel) ha (by decide) (by decide) he hpl
theorem xlist (hm : X.mg "list" = none) (ha : PA X [e] (tA X.K fv mv io fs)) (hg : Gl X "list" := by rfl) (he : starEach [e] X.env = (false, eval e X.env) :: starEach [] X.env := by rfl) (hpl : (backTo pos (starEach [] X.env)).any (·.1) = false := by rfl) : PE X (.Call (.Name "list" p) [e] [] pos) (tE X.K fv mv (evN gListOf fs)) := re_callT call_list_of ok_listOf hg hm (by decide +kernel) ha (by decide) (by decide) he hpl
theorem xisB (ha : PE X a (tE X.K fva mva fa)) (hb : PE X b (tE X.K fvb mvb fb)) (d : djn fva mvb = true := by rfl) (hm : behindInMarks .Is b = false := by rfl) : PE X (.Compare a [.Is] [b] pos) (tE X.K (fva ++ fvb) (mva ++ mvb) (ev2 gIsB fa fb)) := re_cmp op_isBl ok_isB ha hb d hm
theorem xisNB (ha : PE X a (tE X.K fva mva fa)) (hb : PE X b (tE X.K fvb mvb fb)) (d : djn fva mvb = true := by rfl) (hm : behindInMarks .IsNot b = false := by rfl) : PE X (.Compare a [.IsNot] [b] pos) (tE X.K (fva ++ fvb) (mva ++ mvb) (ev2 gIsNB fa fb)) := re_cmp op_notBl ok_isNB ha hb d hm
theorem zisB (ha : PE X a (tE X.K fva mva fa)) (hb : PE X b (tE X.K fvb mvb fb)) (d : djn fva mvb = true := by rfl) (hm : behindInMarks .Is b = false := by rfl) : PT X (.Compare a [.Is] [b] pos) (tT X.K (mva ++ mvb) (tst (ev2 gIsB fa fb))) := rt_cmp op_isBl ok_isB ha hb d hm
theorem zisNB (ha : PE X a (tE X.K fva mva fa)) (hb : PE X b (tE X.K fvb mvb fb)) (d : djn fva mvb = true := by rfl) (hm : behindInMarks .IsNot b = false := by rfl) : PT X (.Compare a [.IsNot] [b] pos) (tT X.K (mva ++ mvb) (tst (ev2 gIsNB fa fb))) := rt_cmp op_notBl ok_isNB ha hb d hm
/-! ### xs[::-1]; max, min of two -/
def gRevL (x : DV) : Res DV := match x.1 with
  | .list ds => .ok (.list ds.reverse, (if hgtAll ds = 0 then 9 else 0) + 1)
  | _ => .bad
theorem OwnAll.rev0 {K : PySem.W.Frag} {Z : Zs} {H : Hp} {m : Nat} {ds : List PyData} {vs : List V} (h : OwnAll K Z H 0 vs ds []) (hm : hgtAll ds = 0 ∨ m = 0) : OwnAll K Z H m vs.reverse ds.reverse [] := by
  have h2 : OwnAll K Z H m vs ds [] := by
    rcases hm with hm | rfl
    · exact OwnAll.lift ds h (by omega) (by omega)
    · exact h
  obtain ⟨G, o, sb, _⟩ := OwnAll.rev ds h2 List.nodup_nil
  cases G with
  | nil => exact o
  | cons a G => cases sb a (List.mem_cons_self ..)
theorem re_revL {p1 p3 : Pos} {kk : Nat} (he : PE X e (tE X.K fv mv f)) : PE X (.Subscript e (.Slice none none (some (.UnaryOp .USub (.Constant (.int 1) kk p1) p2)) p3) pos) (tE X.K fv mv (ev1 gRevL f)) := by
  refine PE.of (pe_revL he) fun σ H Q h => ?_
  obtain ⟨Z, s, Fs, z, s', gd, e, q⟩ := h
  unfold ev1 at e
  obtain ⟨⟨x, s1⟩, ea, e⟩ := Res.bind_eq_ok.mp e
  obtain ⟨z', eg, e⟩ := Res.bind_eq_ok.mp e
  cases e
  refine ⟨Z, s, Fs, x, _, gd, ea, fun v H1 Z1 Fs1 F p => ?_⟩
  obtain ⟨xd, xk⟩ := x
  unfold gRevL at eg
  cases xd with
  | list ds =>
    cases eg
    have ow : Own X.K _ H1 xk v (.list ds) F := p.held.pr
    obtain ⟨l, ws, G, rfl, r1, o1, sb⟩ := ow.sub
    obtain ⟨E1, t1, q1⟩ := OwnAll.to (m := 0) o1 (p.held.nd.sublist sb) (.inr (Nat.zero_le _))
    refine ⟨l, ws, rfl, .inl r1, fun pn hp => q _ _ _ _ _ (p.newL (stb_one _ _ _) (F' := []) hp (List.nil_sublist _) fun Z2 mz m2 => ?_)⟩
    have e0 : E1 = [] := OwnAll.nil0 ds (q1 (fun _ => True) (fun _ _ => trivial) fun _ _ _ => trivial)
    subst e0
    exact OwnAll.rev0 (q1 Z2 mz fun a ha hn => m2 a (sb.subset ha) hn) (if c : hgtAll ds = 0 then .inl c else .inr (if_neg c))
  | _ => cases eg
def gMax2 (xs : List DV) : Res DV := match xs with
  | [(.int i, _), (.int j, _)] => .ok (.int (if j > i then j else i), 0)
  | _ => .bad
def gMin2 (xs : List DV) : Res DV := match xs with
  | [(.int i, _), (.int j, _)] => .ok (.int (if j < i then j else i), 0)
  | _ => .bad
theorem ok_max2 {K : PySem.W.Frag} : CallOk K (fun xs H Q => ∃ i j, xs = [.int i, .int j] ∧ Q (.int (if j > i then j else i)) H) gMax2 := by
  intro fv mv H Z Fs σ s' H1 Z1 Fs1 F vs xs z Q e p q
  unfold gMax2 at e
  split at e
  · next i k1 j k2 =>
    cases e
    have hp := p.held.pr
    obtain ⟨v1, vs1, F1, F2, e1, h1, h2, _⟩ := hp
    obtain ⟨v2, vs2, F3, F4, e2, h3, h4, _⟩ := h2
    obtain ⟨rfl, _⟩ := h4
    subst e1 e2
    exact ⟨i, j, by rw [own_int h1, own_int h3], q _ _ _ _ (p.sc int_own)⟩
  · cases e
theorem ok_min2 {K : PySem.W.Frag} : CallOk K (fun xs H Q => ∃ i j, xs = [.int i, .int j] ∧ Q (.int (if j < i then j else i)) H) gMin2 := by
  intro fv mv H Z Fs σ s' H1 Z1 Fs1 F vs xs z Q e p q
  unfold gMin2 at e
  split at e
  · next i k1 j k2 =>
    cases e
    have hp := p.held.pr
    obtain ⟨v1, vs1, F1, F2, e1, h1, h2, _⟩ := hp
    obtain ⟨v2, vs2, F3, F4, e2, h3, h4, _⟩ := h2
    obtain ⟨rfl, _⟩ := h4
    subst e1 e2
    exact ⟨i, j, by rw [own_int h1, own_int h3], q _ _ _ _ (p.sc int_own)⟩
  · cases e
theorem xmax2 (hm : X.mg "max" = none) (ha : PA X [a, b] (tA X.K fv mv io fs)) (hc : X.calm = true := by rfl) (hg : Gl X "max" := by rfl) (he : starEach [a, b] X.env = (false, eval a X.env) :: starEach [b] X.env := by rfl) (hpl : (backTo pos (starEach [b] X.env)).any (·.1) = false := by rfl) : PE X (.Call (.Name "max" p) [a, b] [] pos) (tE X.K fv mv (evN gMax2 fs)) := re_callB (call_max2 hc) ok_max2 hg hm (by decide +kernel) ha (by decide) (by decide) he hpl
theorem xmin2 (hm : X.mg "min" = none) (ha : PA X [a, b] (tA X.K fv mv io fs)) (hc : X.calm = true := by rfl) (hg : Gl X "min" := by rfl) (he : starEach [a, b] X.env = (false, eval a X.env) :: starEach [b] X.env := by rfl) (hpl : (backTo pos (starEach [b] X.env)).any (·.1) = false := by rfl) : PE X (.Call (.Name "min" p) [a, b] [] pos) (tE X.K fv mv (evN gMin2 fs)) := re_callB (call_min2 hc) ok_min2 hg hm (by decide +kernel) ha (by decide) (by decide) he hpl
end
end Sq
end

section
namespace Sq
open PySem PySem.Spec L2 PyProof.Rows
/-! ### defs that are never called within the showing of a list: then str(..) shows all -/
structure RoomG (k : Nat) (A : Around) : Prop where
  r : Room k A
  g : A.guards = some []
structure FnG (P : Program) (w : World) (K : PySem.W.Frag) (mg : Str → Option Value) (base : Heap) (k : Nat) (f : Addr) (fd : FuncData) (ps : List Str) (sp : Sp) : Prop where
  len : ∀ vs H Q E, sp vs H Q E → vs.length = ps.length
  run : ∀ (A : Around) (ou : List Env) (t : Shared) (H : Hp) (us : List Value) (vs : List V) (Q : VK) (E : XK), RoomG k A → Env0 P w K mg base A ou t H → BindsTo t fd ⟨us, []⟩ (ps.zip us) → Vals vs us → sp vs H Q E → codeAny (model P w) A (.call (.ref f) ⟨us, []⟩) (CR CX0 ou P w H t Q E) t
section
variable {X : Cx} {k : Nat} {f : Addr} {fd : FuncData} {ps : List Str} {sp : Sp} {E : XK} {x : Str} {p pos : Pos} {e : Expr} {es : List Expr} {ta : TA}
theorem goG {pn : List (Addr × Obj)} {σ₁ : L2.St} {h₁ : Hp} {t : Shared} {R : VK} {us : List Value} {vs : List V} (F : FnG X.prog X.w X.K X.mg X.base k f fd ps sp) (hr : RoomG k X.A) (hb : Binds X.K fd ps []) (J : Inv X pn σ₁ h₁ t) (r : Vals vs us) (z : sp vs h₁ R E) : wpAny (model X.prog X.w) X.A (call (.ref f) us) (EP X pn σ₁ R) X.xe t := by
  have n1 : us.length = ps.length := r.length.symm.trans (F.len _ _ _ _ z)
  have b1 := hb t us J.kIn (by rw [List.append_nil]; exact n1)
  rw [List.append_nil] at b1
  exact wpAny_call (codeAny_mono (F.run X.A X.stack t h₁ us vs R E hr J.env0 b1 r z) fun y t' hy => by
    match y, hy with
    | .ok (.ret u), hy => exact J.after hy
    | .ok .next, hy => exact hy.elim
    | .ok .brk, hy => exact hy.elim
    | .ok .cont, hy => exact hy.elim
    | .error _, hy => exact hy.elim)
theorem pe_callG (F : FnG X.prog X.w X.K X.mg X.base k f fd ps sp) (hr : RoomG k X.A) (hg : Gl X x) (hm : X.mg x = some (.ref f)) (hk : PySem.W.keepIn X.K (.ref f) = true) (hb : Binds X.K fd ps []) (ha : PA X (e :: es) ta)
    (hdb : (x == ("__debug__" : Str)) = false := by decide) (he : starEach (e :: es) X.env = (false, eval e X.env) :: starEach es X.env := by rfl) (hpl : (backTo pos (starEach es X.env)).any (·.1) = false := by rfl) :
    PE X (.Call (.Name x p) (e :: es) [] pos) (tCall sp [] E ta) :=
  ⟨fun pn t σ₁ h₁ R J z => wpAny_Call_Name_kw (ld_glob J hg hm (PySem.W.callWith_K (h₀ := X.base) J.ok.mod.kin hk (thn (ha.run pos pn t σ₁ h₁ _ J z) fun us t1 q => by
    obtain ⟨vs, h2, J2, r, z2⟩ := q
    rw [List.append_nil] at z2
    exact ⟨J2.kIn, goG F hr hb J2 r z2⟩) he hpl) hdb)⟩
end
theorem fn_ofG {P : Program} {w : World} {K : PySem.W.Frag} {mg : Str → Option Value} {base : Heap} {k : Nat} {f : Addr} {nm ql : Str} {pr : Arguments} {bd : List Stmt} {sc : Scope} {N ps : List Str} {sp : Sp} {fd : FuncData} (F : FunD K nm ql pr bd sc [] [] f fd) (S : FnScope N ps sc) (len : ∀ vs H Q E, sp vs H Q E → vs.length = ps.length)
    (hbd : ∀ (cv : Value) (A : Around) (ou : List Env) (t : Shared) (H : Hp) (vs : List V) (Q : VK) (E : XK), RoomG k (A.deeper (envOfC ql sc t.heap.objs.size f cv)) → sp vs H Q E → ∃ z, PSs (cxOf CX0 P w K mg base N ql sc f cv A ou t H E) bd z ∧ z { nx := fun _ H' => Q .non H', rt := Q } (start N vs) H) : FnG P w K mg base (k + 1) f fd ps sp := by
  obtain ⟨oc, od, dV, kV, dc, pm, an, cv, ct, ol, rfl, lk, hc, _, _⟩ := F.ex
  refine ⟨len, fun A ou t H us vs Q E hr e0 hb r hs => ?_⟩
  have up := fun b o (e : base.get? b = some o) => (e0.bs b o e).1
  have KX : K.In t.heap := e0.mod.kin.keeps up
  have lm : t.heap.NoLimit := e0.mod.nolimit.keeps up
  refine codeAny_call_function hr.r.depth (KX _ _ lk) rfl S.co S.gen rfl (PySem.W.codeRec_of KX hc) (hb _ _ _ _ (wpAny_newFunctionEnv_cells S.kind (fun ⟨n, v⟩ hy => ?_) fun env he t1 x => ?_))
  · exact (S.par n (List.of_mem_zip hy).1).imp id fun q => ⟨q, PySem.W.cellsFrom_some _ _ _ (.inl q)⟩
  · subst he
    obtain ⟨z, hz, hq⟩ := hbd cv A ou t H vs Q E ⟨hr.r.deeper _, hr.g⟩ hs
    have J : Inv (cxOf CX0 P w K mg base N ql sc f cv A ou t H E) [] (start N vs) H t1 := inv_start S hr.r.hd e0 (len _ _ _ _ hs) r x
    refine ⟨lm.keeps x.toInCall.keep, codeAny_func (wpAny_mono (hz.run [] t1 (start N vs) H _ J hq) (fun fl t' h => ?_) fun _ _ h => h)⟩
    match fl, h with
    | .ret u, ⟨v, σ', H', J', rv, q⟩ => exact ⟨v, H', J'.os, J'.bare, J'.base, J'.hok, rv, q⟩
    | .next, ⟨σ', H', J', q⟩ => exact ⟨V.non, H', J'.os, J'.bare, J'.base, J'.hok, rfl, q⟩
    | .brk, ⟨_, _, _, q⟩ => exact q.elim
    | .cont, ⟨_, _, _, q⟩ => exact q.elim
/-- the law is called -/
theorem law_callG {P : Program} {w : World} {K : PySem.W.Frag} {mg mb : Str → Option Value} {k : Nat} {fa a : Addr} {fd : FuncData} {x : Str} {sp : Sp} {t : Shared} {vs : List Value} {ns : List Int}
    (KX : K.In t.heap) (hns : t.heap.Ns mainGlobals mg) (hb : t.heap.Ns builtinsNs mb) (hbb : ∀ x : Str, x ≠ "__name__" → mb x = bootBuiltins x) (hlim : t.heap.NoLimit) (hg : t.gens = #[])
    (ha : t.heap.get? a = some { cls := .type "list", data := .seq vs.toArray }) (hi : IntsAre vs ns) (hl : ns.length ≤ sizeLine) (hr : RoomG k callerA)
    (F : ∀ base : Heap, K.In base → base.Ns mainGlobals mg → FnG P w K mg base k fa fd [x] sp) (hbind : ∀ (s : Shared) (u : Value), BindsTo s fd ⟨[u], []⟩ [(x, u)])
    (hsp : ∀ H : Hp, Only H → SqL K H a (ns.map V.int) → sp [.ref a] H (fun v _ => v = .bl true) fun _ _ _ => False) :
    codeAny (model P w) callerA (.call (.ref fa) ⟨[.ref a], []⟩) (fun r t' => r = .ok (.ret (.bool true)) ∧ OldK t.heap t'.heap ∧ t'.os = t.os ∧ AllBare t'.gens) t := by
  have go : ∀ H : Hp, Only H → SqL K H a (ns.map V.int) → HOk P w H t.heap → (∀ b, H b ≠ none → b = a) → (H a ≠ none → K.lookup a = none) → codeAny (model P w) callerA (.call (.ref fa) ⟨[.ref a], []⟩) (fun r t' => r = .ok (.ret (.bool true)) ∧ OldK t.heap t'.heap ∧ t'.os = t.os ∧ AllBare t'.gens) t := fun H hO hS hok hA hK => by
    have free : ∀ b, b ≠ a → H b = none := fun b n => Classical.byContradiction fun z => n (hA b z)
    have lay : ∀ {b : Addr} {o : Obj} {m : Nat} {es : Array DictEntry}, t.heap.get? b = some o → o.data = .dict es m → (hidT t.heap H).get? b = some o := fun {b o m es} h1 h2 => hidT_get h1 (free b fun z => by
      subst z
      rw [ha] at h1
      cases h1
      cases h2)
    have nk : ∀ {b : Addr} {m : Str → Option Value}, t.heap.Ns b m → (hidT t.heap H).Ns b m := fun {b m} ⟨o, es, ep, h1, h2, r⟩ => ⟨o, es, ep, lay h1 h2, h2, r⟩
    have KY : K.In (hidT t.heap H) := fun b o h1 => hidT_get (KX b o h1) (by
      by_cases z : b = a
      · subst z
        exact Classical.byContradiction fun n => by rw [hK n] at h1; cases h1
      · exact free b z)
    obtain ⟨mc, l1, l2⟩ := hlim
    have e0 : Env0 P w K mg (hidT t.heap H) callerA [] t H := ⟨rfl, ⟨KY, nk hns, ⟨mb, nk hb, hbb⟩, ⟨mc, nk l1, l2⟩⟩, fun b o h1 => of_hidT h1, Nat.le_of_eq (hidT_size _ _), trivial, fun b z => absurd (show b ∈ ([] : List Addr) from z) List.not_mem_nil, hok, .of_eq hg⟩
    refine codeAny_mono ((F _ KY (nk hns)).run callerA [] t H [.ref a] [.ref a] _ _ hr e0 (hbind t (.ref a)) (.cons rfl .nil) (hsp H hO hS)) fun y t' hy => ?_
    match y, hy with
    | .error _, hy => exact hy.elim
    | .ok .next, hy => exact hy.elim
    | .ok .brk, hy => exact hy.elim
    | .ok .cont, hy => exact hy.elim
    | .ok (.ret u), ⟨v, H', os, bare, un, ok', r', q⟩ =>
      have q : v = .bl true := q
      subst q
      obtain rfl : u = Value.bool true := r'
      refine ⟨rfl, OldK.of_keep fun b o h1 => ?_, os, bare⟩
      cases z : H b with
      | none => exact un.keep b o h1 z (fun n => absurd (show b ∈ ([] : List Addr) from n) List.not_mem_nil) List.not_mem_nil
      | some y =>
        rcases hO b with n | ⟨ob, ys, n⟩
        · rw [z] at n; cases n
        · have h2 := (hok b _ n).1
          rw [h1] at h2
          cases h2
          exact (ok' b _ (un.frzs b _ _ n)).1
  have rv := vals_ints hi
  cases hk : K.lookup a with
  | some o =>
    have h1 := KX a o hk
    rw [ha] at h1
    cases h1
    exact go (fun _ => none) (fun _ => .inl rfl) (.inr ⟨_, vs.toArray, _, hk, rfl, rfl, rfl, by rw [List.size_toArray, hi.length]; exact hl, by simpa using rv⟩) (fun b u z => nomatch (show (none : Option HO) = some u from z)) (fun b z => absurd rfl z) fun z => absurd rfl z
  | none =>
    have at_ : ∀ {b : Addr} (o : HO), b = a → (if b = a then some o else none) = some o := fun o z => if_pos z
    refine go (fun b => if b = a then some (.frz { cls := .type "list", data := .seq vs.toArray } (.lst (ns.map V.int))) else none) (fun b => ?_) (.inl (.inr ⟨{ cls := .type "list", data := .seq vs.toArray }, if_pos rfl⟩)) (fun b u z => ?_) (fun b z => Classical.byContradiction fun n => z (if_neg n)) fun _ => hk
    · by_cases n : b = a
      · exact .inr ⟨_, _, at_ _ n⟩
      · exact .inl (if_neg n)
    · by_cases n : b = a
      · have z1 := (at_ _ n).symm.trans z
        cases z1
        subst n
        exact ⟨ha, by rw [List.length_map]; exact hl, vs, _, rv, ha⟩
      · cases (if_neg n).symm.trans z
theorem walk_ofG {l : PySem.W.OpenLaw} {n k : Nat} {q : Program} {loose : List Str} {XP : (Str → Option Value) → Heap → Prop} {YP : World → Heap → Prop} {d : DefRec} {x : Str} (hn : l.most = some n) (hn2 : n ≤ sizeLine) (hdf : d.params.defaults = []) (hr : RoomG k callerA)
    (F : ∀ (w : World) (mg : Str → Option Value) (fa : Addr) (h : Heap), YP w h → h.Ns mainGlobals mg → mg d.name = some (.ref fa) → ∃ (K : PySem.W.Frag) (fd : FuncData) (sp : Sp), K.In h ∧ (∀ (s : Shared) (u : Value), BindsTo s fd ⟨[u], []⟩ [(x, u)]) ∧
        (∀ (H : Hp) (a : Addr) (ns : List Int), ns.length ≤ n → Only H → SqL K H a (ns.map V.int) → sp [.ref a] H (fun v _ => v = .bl true) fun _ _ _ => False) ∧ ∀ base : Heap, K.In base → base.Ns mainGlobals mg → FnG l.prog w K mg base k fa fd [x] sp) :
    PySem.W.WalkO q loose XP YP l.row.toRowW d [] (fun f vs => PySem.call f vs) := Att.attach_call hn hdf fun w t0 t mg mb fa o pm cd dc a vs ns G Y _ _ _ hmg hobj hints hlen hg => by
  obtain ⟨K, fd, sp, KX, hb, hsp, hF⟩ := F w mg fa _ Y G.T.g hmg
  exact law_callG KX G.T.g G.T.b G.T.builtins G.T.nolimit hg hobj hints (Nat.le_trans hlen hn2) hr hF hb fun H hO hS => hsp H a ns hlen hO hS
/-! ### the same for the worths -/
theorem fn0G {P : Program} {w : World} {K : PySem.W.Frag} {mg : Str → Option Value} {base : Heap} {k : Nat} {f : Addr} {fd : FuncData} {ps : List Str} {n : Nat} {g : Fn} (hg : ∀ xs, g xs = .bad) (hl : n = ps.length) : FnG P w K mg base k f fd ps (spF K n g) :=
  ⟨fun vs H Q E h => h.1.trans hl, fun A ou t H us vs Q E _ _ _ _ h => by
    obtain ⟨_, Z, ds, Fa, z, fin, _, e, _⟩ := h
    rw [hg] at e
    cases e⟩
theorem fn_stepG {P : Program} {w : World} {K : PySem.W.Frag} {mg : Str → Option Value} {base : Heap} {x : Str} {st : Stmt} {f : Addr} {fd : FuncData} {N ps : List Str} {k n np : Nat} {asg : List Nat} {body : Sx} (F : FnP K x st f fd) (S : FnScope N ps (defScope st)) (hN : N.length = n) (hp : ps.length = np)
    (hb : ∀ (cdv : Value) (A : Around) (outer : List Env) (s : Shared) (H : Hp) (E : XK), RoomG k (A.deeper (PyProof.Rows.envOfC x (defScope st) s.heap.objs.size f cdv)) →
      ∃ a m, PSs (cxOf CX0 P w K mg base N x (defScope st) f cdv A outer s H E).nox (defBody st) (tS K a m body) ∧ subs a asg = true) : FnG P w K mg base (k + 1) f fd ps (spF K np (defn n np asg body)) := by
  refine fn_ofG F S (fun vs H Q E h => h.1.trans hp.symm) (fun cdv A outer s H vs Q E hr h => ?_)
  obtain ⟨a, m, hps, hs⟩ := hb cdv A outer s H E hr
  refine ⟨_, PSs.nox hps, ?_⟩
  have := def_ok (mv := m) h fun _ _ => .inr trivial
  rw [← hN] at this
  exact tS_weak (subs_ok hs) this
section
variable {X : Cx} {e : Expr} {es : List Expr} {pos p : Pos} {fv mv : List Nat} {io : List (Nat × Nat)} {fs : Exs}
theorem re_callG {k n : Nat} {f : Addr} {fd : FuncData} {ps : List Str} {x : Str} {E : XK} {g : Fn} (F : FnG X.prog X.w X.K X.mg X.base k f fd ps (spF X.K n g)) (hr : RoomG k X.A) (hg : Gl X x) (hm : X.mg x = some (.ref f)) (hk : PySem.W.keepIn X.K (.ref f) = true) (hb : Binds X.K fd ps [])
    (hn : ∀ xs r, g xs = .ok r → xs.length = n) (back : List (Nat × Nat)) (ha : PA X (e :: es) (tA X.K fv mv io fs)) (hbk : backOk fv mv io back = true := by rfl) (hdb : (x == ("__debug__" : Str)) = false := by decide) (he : starEach (e :: es) X.env = (false, eval e X.env) :: starEach es X.env := by rfl) (hpl : (backTo pos (starEach es X.env)).any (·.1) = false := by rfl) :
    PE X (.Call (.Name x p) (e :: es) [] pos) (tE X.K fv mv (evCall g back fs)) :=
  PE.of (pe_callG (E := E) F hr hg hm hk hb ha hdb he hpl) fun σ H Q h => evCall_imp hn hbk h
end
end Sq
end

section
namespace Sq
open PySem PySem.Spec L2 PyProof.Rows
/-! ### str(..) -/
mutual
/-- no texts, no dicts -/
def plD : PyData → Bool
  | .none => true
  | .bool _ => true
  | .int i => decide (i.natAbs.log2 < 1920)
  | .str _ => false
  | .list xs => plAll xs
  | .tuple xs => plAll xs
  | .dict _ => false
def plAll : List PyData → Bool
  | [] => true
  | x :: xs => plD x && plAll xs
end
mutual
def szD : PyData → Nat
  | .none => 4
  | .bool _ => 5
  | .int i => i.natAbs.log2 + 3
  | .str _ => 0
  | .list xs => szAll xs + 2
  | .tuple xs => szAll xs + 3
  | .dict _ => 0
def szAll : List PyData → Nat
  | [] => 0
  | x :: xs => szD x + 2 + szAll xs
end
def asc (s : Str) : Prop := ∀ c ∈ s.cps, c < 128
theorem asc_app {a b : Str} (ha : asc a) (hb : asc b) : asc (a ++ b) := fun c hc => by
  rcases Array.mem_append.mp (show c ∈ a.cps ++ b.cps from hc) with h | h
  · exact ha c h
  · exact hb c h
theorem asc_of {s : String} (h : ∀ c ∈ s.toList, c.toNat < 128) : asc (Str.ofString s) := fun c hc => by
  rw [Str.ofString_eq_toList] at hc
  have hc : c ∈ (s.toList.map Char.toNat).toArray := hc
  rw [List.mem_toArray] at hc
  obtain ⟨d, hd, rfl⟩ := List.mem_map.mp hc
  exact h d hd
theorem textFrom_bd : ∀ (ts : List Str) (k : Nat) (acc : Str), (textFrom k acc ts).length ≤ acc.length + (ts.map fun t => t.length + 2).sum ∧ (asc acc → (∀ t ∈ ts, asc t) → asc (textFrom k acc ts))
  | [], k, acc => ⟨by simp [textFrom], fun h _ => h⟩
  | t :: ts, k, acc => by
    obtain ⟨h1, h2⟩ := textFrom_bd ts (k + 1) (acc ++ (if k > 0 then ", " else "" : String) ++ t)
    have e : (acc ++ (if k > 0 then ", " else "" : String) ++ t).length ≤ acc.length + 2 + t.length := by
      rw [strLen_append, strLen_append]
      have : ((if k > 0 then ", " else "" : String) : Str).length ≤ 2 := by split <;> decide
      omega
    refine ⟨?_, fun ha ht => h2 ?_ fun u hu => ht u (List.mem_cons_of_mem _ hu)⟩
    · rw [textFrom, List.map_cons, List.sum_cons]
      omega
    · refine asc_app (asc_app ha ?_) (ht t (List.mem_cons_self ..))
      split <;> exact asc_of (by decide)
theorem join_bd : ∀ ts : List Str, (Str.join ", " ts).length ≤ (ts.map fun t => t.length + 2).sum ∧ ((∀ t ∈ ts, asc t) → asc (Str.join ", " ts))
  | [] => ⟨Nat.zero_le _, fun _ c hc => by simp [Str.join, Str.empty] at hc⟩
  | [x] => ⟨by simp [Str.join], fun h => h x (List.mem_cons_self ..)⟩
  | x :: y :: r => by
    obtain ⟨h1, h2⟩ := join_bd (y :: r)
    have e : Str.join ", " (x :: y :: r) = x ++ Str.ofString ", " ++ Str.join ", " (y :: r) := rfl
    rw [e]
    refine ⟨?_, fun h => asc_app (asc_app (h x (List.mem_cons_self ..)) (asc_of (by decide))) (h2 fun t ht => h t (List.mem_cons_of_mem _ ht))⟩
    rw [strLen_append, strLen_append, List.map_cons, List.sum_cons]
    have : (Str.ofString ", ").length = 2 := by decide
    omega
theorem int_bd (i : Int) : (Str.ofString (toString i)).length ≤ i.natAbs.log2 + 3 ∧ asc (Str.ofString (toString i)) := by
  have hl : i.natAbs < 2 ^ (i.natAbs.log2 + 1) := Nat.lt_log2_self
  have h2 := nat_repr_length_le (n := i.natAbs) (k := i.natAbs.log2 + 1) (Nat.succ_pos _) hl
  cases i with
  | ofNat n =>
    have e : toString (Int.ofNat n) = Nat.repr n := rfl
    rw [e]
    refine ⟨?_, asc_of (nat_ascii n)⟩
    rw [PySem.ofString_length]
    exact Nat.le_trans h2 (by omega)
  | negSucc n =>
    have e : toString (Int.negSucc n) = "-" ++ Nat.repr (n + 1) := rfl
    rw [e]
    refine ⟨?_, asc_of fun c hc => ?_⟩
    · rw [PySem.ofString_length, String.length_append]
      have : (Nat.repr (n + 1)).length ≤ _ := h2
      have : ("-" : String).length = 1 := rfl
      omega
    · rw [String.toList_append] at hc
      rcases List.mem_append.mp hc with h | h
      · simp at h
        subst h
        decide
      · exact nat_ascii _ c h
mutual
theorem shown_bd : ∀ d : PyData, plD d = true → d.shown.length ≤ szD d ∧ asc d.shown
  | .none, _ => ⟨by decide, asc_of (by decide)⟩
  | .bool b, _ => by cases b <;> exact ⟨by decide, asc_of (by decide)⟩
  | .int i, _ => by
    rw [PyData.shown, szD]
    exact int_bd i
  | .str _, h => by rw [plD] at h; cases h
  | .dict _, h => by rw [plD] at h; cases h
  | .list xs, h => by
    rw [plD] at h
    obtain ⟨h1, h2⟩ := shownAll_bd xs h
    obtain ⟨t1, t2⟩ := textFrom_bd (PyData.shownAll xs) 0 "["
    rw [PyData.shown, szD]
    unfold listText
    refine ⟨?_, asc_app (t2 (asc_of (by decide)) h2) (asc_of (by decide))⟩
    rw [strLen_append]
    have e1 : (Str.ofString "[").length = 1 := by decide
    have e2 : (Str.ofString "]").length = 1 := by decide
    omega
  | .tuple xs, h => by
    rw [plD] at h
    obtain ⟨h1, h2⟩ := shownAll_bd xs h
    obtain ⟨t1, t2⟩ := join_bd (PyData.shownAll xs)
    rw [PyData.shown, szD]
    unfold tupleText
    refine ⟨?_, asc_app (asc_app (asc_of (by decide)) (t2 h2)) ?_⟩
    · rw [strLen_append, strLen_append]
      have e1 : (Str.ofString "(").length = 1 := by decide
      have e2 : ((if (PyData.shownAll xs).length == 1 then ",)" else ")" : String) : Str).length ≤ 2 := by split <;> decide
      omega
    · split <;> exact asc_of (by decide)
theorem shownAll_bd : ∀ ds : List PyData, plAll ds = true → ((PyData.shownAll ds).map fun t => t.length + 2).sum ≤ szAll ds ∧ ∀ t ∈ PyData.shownAll ds, asc t
  | [], _ => ⟨by simp [PyData.shownAll, szAll], fun t h => by simp [PyData.shownAll] at h⟩
  | d :: ds, h => by
    rw [plAll, Bool.and_eq_true] at h
    obtain ⟨a1, a2⟩ := shown_bd d h.1
    obtain ⟨b1, b2⟩ := shownAll_bd ds h.2
    rw [PyData.shownAll, szAll, List.map_cons, List.sum_cons]
    refine ⟨by omega, fun t ht => ?_⟩
    rcases List.mem_cons.mp ht with rfl | ht
    · exact a2
    · exact b2 t ht
end
mutual
theorem showable_pl : ∀ d : PyData, plD d = true → d.showable = true ∧ d.hasDict = false
  | .none, _ => ⟨rfl, rfl⟩
  | .bool b, _ => ⟨rfl, rfl⟩
  | .int i, h => by rw [plD] at h; exact ⟨by rw [PyData.showable]; exact h, rfl⟩
  | .str _, h => by rw [plD] at h; cases h
  | .dict _, h => by rw [plD] at h; cases h
  | .list xs, h => by
    rw [plD] at h
    obtain ⟨h1, h2⟩ := showableAll_pl xs h
    exact ⟨by rw [PyData.showable]; exact h1, by rw [PyData.hasDict]; exact h2⟩
  | .tuple xs, h => by
    rw [plD] at h
    obtain ⟨h1, h2⟩ := showableAll_pl xs h
    exact ⟨by rw [PyData.showable]; exact h1, by rw [PyData.hasDict]; exact h2⟩
theorem showableAll_pl : ∀ ds : List PyData, plAll ds = true → PyData.showableAll ds = true ∧ PyData.hasDictAll ds = false
  | [], _ => ⟨rfl, rfl⟩
  | d :: ds, h => by
    rw [plAll, Bool.and_eq_true] at h
    obtain ⟨a1, a2⟩ := showable_pl d h.1
    obtain ⟨b1, b2⟩ := showableAll_pl ds h.2
    rw [PyData.showableAll, PyData.hasDictAll, a1, a2, b1, b2]
    exact ⟨rfl, rfl⟩
end
def okS (d : PyData) : Bool := plD d && decide (d.depth ≤ 64) && decide (szD d ≤ 1000000)
theorem shown_strOk {d : PyData} (h : okS d = true) : PyData.canLay0 (.str d.shown) = true ∧ d.shown.length ≤ 1000000 := by
  unfold okS at h
  rw [Bool.and_eq_true, Bool.and_eq_true] at h
  obtain ⟨h1, h2⟩ := shown_bd d h.1.1
  refine ⟨?_, Nat.le_trans h1 (of_decide_eq_true h.2)⟩
  rw [PyData.canLay0]
  unfold PySem.PyData.strOk
  rw [Array.all_eq_true]
  intro i hi
  have := h2 _ (Array.getElem_mem hi)
  exact decide_eq_true (by omega)
mutual
theorem ndc_pl : ∀ d : PyData, plD d = true → ndc d = true
  | .none, _ => rfl
  | .bool _, _ => rfl
  | .int _, _ => rfl
  | .str _, _ => rfl
  | .list ds, h => by
    rw [plD] at h
    rw [ndc]
    exact ndcAll_pl ds h
  | .tuple ds, h => by
    rw [plD] at h
    rw [ndc]
    exact ndcAll_pl ds h
  | .dict _, h => by rw [plD] at h; cases h
theorem ndcAll_pl : ∀ ds : List PyData, plAll ds = true → ndcAll ds = true
  | [], _ => rfl
  | d :: ds, h => by
    rw [plAll, Bool.and_eq_true] at h
    rw [ndcAll, ndc_pl d h.1, ndcAll_pl ds h.2]
    rfl
end
theorem okS_ndc {d : PyData} (h : okS d = true) : ndc d = true := by
  unfold okS at h
  rw [Bool.and_eq_true, Bool.and_eq_true] at h
  exact ndc_pl d h.1.1
def gStr (xs : List DV) : Res DV := match xs with
  | [x] => match x.1 with
    | .list ds => if okS (.list ds) then .ok (.str (PyData.list ds).shown, 0) else .bad
    | .tuple ds => if okS (.tuple ds) then .ok (.str (PyData.tuple ds).shown, 0) else .bad
    | .int i => if i.natAbs.log2 < 1920 then .ok (.str (toString i), 0) else .bad
    | .str a => .ok (.str a, 0)
    | .none => .ok (.str (Str.ofString "None"), 0)
    | _ => .bad
  | _ => .bad
section
variable {X : Cx}
def rStr (K : PySem.W.Frag) : List V → Hp → VK → Prop := fun xs H Q => ∃ a d, xs = [.ref a] ∧ Dp K H (.ref a) d ∧ okS d = true ∧ Q (.str d.shown) H
theorem call_strD {k : Nat} (hr : RoomG k X.A) : CallR X (.type "str") (rStr X.K) := fun pn t σ₁ h₁ xs us R J r z => by
  obtain ⟨a, d, rfl, hd, hs, q⟩ := z
  obtain ⟨u, rfl, ru⟩ := vals1 r
  obtain ⟨as, rd⟩ := Dp.reads J d (.ref a) u hd ru
  have hs' := hs
  unfold okS at hs'
  rw [Bool.and_eq_true, Bool.and_eq_true] at hs'
  obtain ⟨e1, e2⟩ := showable_pl d hs'.1.1
  have hdp := of_decide_eq_true hs'.1.2
  have hu := hr.r.un
  have hl := (shown_strOk hs).2
  have hz : d.shown.length ≤ sizeLine := Nat.le_trans hl (by decide)
  cases ru
  exact str_of_reads rd e1 (fun n => by rw [e2] at n; cases n) hr.g (by omega) (fun _ _ h => h) (fun h' u tk hk => ⟨.str d.shown, h₁, J.kept hk, ⟨_, rfl⟩, q⟩) hz
end
theorem call_str_none {X : Cx} : CallR X (.type "str") (fun xs H Q => xs = [.non] ∧ Q (.str (Str.ofString "None")) H) := by
  intro pins s σ H xs us Q I r h
  obtain ⟨rfl, q⟩ := h
  obtain ⟨u, rfl, r1⟩ := vals1 r
  cases r1
  exact PySem.P.str_of_none ⟨.str _, H, I.tok _, ⟨_, rfl⟩, q⟩
theorem ok_str {K : PySem.W.Frag} : CallOk K (fun xs H Q => rStr K xs H Q ∨ (∃ i, xs = [.int i] ∧ i.natAbs.log2 < 1920 ∧ Q (.str (toString i)) H) ∨ (∃ a, xs = [.str a] ∧ Q (.str a) H) ∨ (xs = [.non] ∧ Q (.str (Str.ofString "None")) H)) gStr := by
  intro fv mv H Z Fs σ s' H1 Z1 Fs1 F vs xs z Q e p q
  unfold gStr at e
  split at e
  · next x =>
    obtain ⟨xd, xk⟩ := x
    obtain ⟨v, rfl, h1⟩ := one_own p.held.pr
    simp only at e h1
    split at e
    · next ds =>
      split at e
      · next hc =>
        cases e
        have hp := Own.dp _ h1 (okS_ndc hc)
        obtain ⟨l, vs, G, rfl, r1, o1, sb⟩ := h1.sub
        exact .inl ⟨l, _, rfl, hp, hc, q _ _ _ _ (p.sc str_own)⟩
      · cases e
    · next ds =>
      split at e
      · next hc =>
        cases e
        have hp := Own.dp _ h1 (okS_ndc hc)
        unfold Own at h1
        obtain ⟨l, vs, rfl, r1, o1⟩ := h1
        exact .inl ⟨l, _, rfl, hp, hc, q _ _ _ _ (p.sc str_own)⟩
      · cases e
    · next i =>
      split at e
      · next hc =>
        cases e
        exact .inr (.inl ⟨i, by rw [own_int h1], hc, q _ _ _ _ (p.sc str_own)⟩)
      · cases e
    · next a =>
      cases e
      exact .inr (.inr (.inl ⟨a, by rw [own_str h1], q _ _ _ _ (p.sc str_own)⟩))
    · cases e
      refine .inr (.inr (.inr ⟨?_, q _ _ _ _ (p.sc str_own)⟩))
      unfold Own at h1
      rw [h1.1]
    · cases e
  · cases e
section
variable {X : Cx} {e : Expr} {pos p : Pos} {fv mv : List Nat} {io : List (Nat × Nat)} {fs : Exs} {k : Nat}
theorem xstr (hr : RoomG k X.A) (hm : X.mg "str" = none) (ha : PA X [e] (tA X.K fv mv io fs)) (hg : Gl X "str" := by rfl) (he : starEach [e] X.env = (false, eval e X.env) :: starEach [] X.env := by rfl) (hpl : (backTo pos (starEach [] X.env)).any (·.1) = false := by rfl) : PE X (.Call (.Name "str" p) [e] [] pos) (tE X.K fv mv (evN gStr fs)) := re_callT (CallR.or (call_strD hr) (CallR.or call_str_int (CallR.or SkE.call_str_str call_str_none))) ok_str hg hm (by decide +kernel) ha (by decide) (by decide) he hpl
end
end Sq
end

section
namespace Sq
open PySem PySem.Spec L2
/-! ### xs[::e], e 1 or -1 -/
def stepL {α : Type} (st : Int) (xs : List α) : List α := if st = 1 then xs else xs.reverse
theorem pick_one (items : Array Value) : slicePick items none none (some 1) = items := (show slicePick items none none (some 1) = slicePick items none none none from rfl).trans (slicePick_all items)
theorem pick_step {items : Array Value} {st : Int} (h : st = 1 ∨ st = -1) : slicePick items none none (some st) = (stepL st items.toList).toArray := by
  rcases h with rfl | rfl
  · rw [pick_one]; rfl
  · rw [PySem.W.krv_pick]; rfl
theorem hgtAll_app (a b : List PyData) : hgtAll (a ++ b) = max (hgtAll a) (hgtAll b) := by
  induction a with
  | nil => simp [hgtAll]
  | cons x a ih => rw [List.cons_append, hgtAll, hgtAll, ih, Nat.max_assoc]
theorem hgtAll_rev (ds : List PyData) : hgtAll ds.reverse = hgtAll ds := by
  induction ds with
  | nil => rfl
  | cons x a ih => rw [List.reverse_cons, hgtAll_app, ih, hgtAll, hgtAll, hgtAll, Nat.max_zero, Nat.max_comm]
section
variable {X : Cx} {e b : Expr} {p3 pos : Pos} {fva mva fvb mvb : List Nat} {fa fb : Ex}
def rStepL (K : PySem.W.Frag) : R2 := fun x y H2 Q => ∃ a xs st, x = .ref a ∧ y = .int st ∧ (st = 1 ∨ st = -1) ∧ SqL K H2 a xs ∧ ∀ q, H2 q = none → Q (.ref q) (upd H2 q (.lst (stepL st xs)))
theorem pe_stepL {ta tb : TE} (ha : PE X e ta) (hb : PE X b tb) : PE X (.Subscript e (.Slice none none (some b) p3) pos) (tOp (rStepL X.K) ta tb) := by
  refine ⟨fun pn t σ₁ h₁ R J z => PyProof.Rows.Subscript_ (thn (ha.run pn t σ₁ h₁ _ J z) fun v t1 w => ?_)⟩
  obtain ⟨x, H1, J1, r1, z1⟩ := w
  refine wpAny_Slice (thn (po_none.run pn t1 σ₁ H1 (fun o H' => o = none ∧ H' = H1) J1 ⟨rfl, rfl⟩) fun vl t2 w => ?_)
  obtain ⟨l, H2, J2, pl, rfl, rfl⟩ := w
  refine thn (po_none.run pn t2 σ₁ H2 (fun o H' => o = none ∧ H' = H2) J2 ⟨rfl, rfl⟩) fun vu t3 w => ?_
  obtain ⟨u, H3, J3, pu, rfl, rfl⟩ := w
  rw [evalPart_some]
  refine thn (hb.run pn t3 σ₁ H3 _ J3 z1) fun vs t4 w => ?_
  obtain ⟨y, H4, J4, r4, a, xs, st, rfl, rfl, hs, hx, q⟩ := w
  obtain ⟨tk, rfl⟩ := r4
  cases r1
  have J5 : Inv X pn σ₁ H4 { t4 with heap := t4.heap.push { cls := .type "slice", data := .fields #[vl, vu, .int st tk] } } := J4.kept (t' := t4.toks) fun b ob q => Heap.get?_push_of_some _ q
  obtain ⟨its, r, ht, hz⟩ := J5.list hx
  have hl := r.length
  refine PyProof.Rows.tail_any (ops := [.ref a, .ref t4.heap.objs.size]) ht.isList.typeIs (PySem.slot_list_getitem.lookup) ?_ (by with_unfolding_all rfl)
  refine wpAny_getItem_list_slice ht.isList (Heap.IsSliceOf.new _ vl vu (.int st tk)) pl pu (.int st tk) (by rcases hs with rfl | rfl <;> decide) ?_ (by rw [List.size_toArray]; omega)
  rw [pick_step hs]
  refine ⟨.ref _, _, J5.laid (t' := t4.toks) (o := .lst (stepL st xs)) (fun b ob q => Heap.get?_push_of_some _ q) (Nat.le_refl _) ?_, rfl, q _ (J5.hok.fresh (Nat.le_refl _))⟩
  have hr : Vals (stepL st xs) (stepL st its) := by
    unfold stepL
    split
    · exact r
    · exact r.reverse
  refine ⟨?_, _, 0, hr, Heap.get?_push_size _ rfl⟩
  unfold stepL
  split
  · exact hz
  · rw [List.length_reverse]; exact hz
def gStepL (x y : DV) : Res DV := match x.1, y.1 with
  | .list ds, .int st => if decide (st = 1) || decide (st = -1) then .ok (.list (stepL st ds), (if hgtAll ds = 0 then 9 else 0) + 1) else .bad
  | _, _ => .bad
theorem OwnAll.step0 {K : PySem.W.Frag} {Z : Zs} {H : Hp} {m : Nat} {st : Int} {ds : List PyData} {vs : List V} (h : OwnAll K Z H 0 vs ds []) (hm : hgtAll ds = 0 ∨ m = 0) : OwnAll K Z H m (stepL st vs) (stepL st ds) [] := by
  unfold stepL
  split
  · have := OwnAll.rev0 (OwnAll.rev0 (m := 0) h (.inr rfl)) (m := m) (hm.imp (fun e => by rw [← e]; exact hgtAll_rev ds) id)
    rw [List.reverse_reverse, List.reverse_reverse] at this
    exact this
  · exact OwnAll.rev0 h hm
theorem ok_step {K : PySem.W.Frag} : OpOk K (rStepL K) gStepL := by
  intro fv mv H Z Fs σ s' H1 Z1 Fs1 F v w x y z Q e p q
  obtain ⟨F1, F2, h1, h2, eF⟩ := two_own p.held.pr
  unfold gStepL at e
  split at e
  · next ds st ex ey =>
    split at e
    · next c =>
      cases e
      obtain ⟨xd, xk⟩ := x
      obtain ⟨yd, yk⟩ := y
      simp only at ex ey h1 h2
      subst ex ey
      obtain ⟨l, vs, G1, rfl, r1, o1, sb1⟩ := h1.sub
      have nd : (F1 ++ F2).Nodup := eF ▸ p.held.nd
      obtain ⟨n1, n2, n3⟩ := List.nodup_append.mp nd
      obtain ⟨E1, t1, q1⟩ := OwnAll.to (m := 0) o1 (n1.sublist sb1) (.inr (Nat.zero_le _))
      have e0 : E1 = [] := OwnAll.nil0 ds (q1 (fun _ => True) (fun _ _ => trivial) fun _ _ _ => trivial)
      subst e0
      have c' : st = 1 ∨ st = -1 := by
        rw [Bool.or_eq_true, decide_eq_true_eq, decide_eq_true_eq] at c
        exact c
      refine ⟨l, vs, st, rfl, own_int h2, c', .inl r1, fun pn hp => q _ _ _ _ (p.newL (stb_all K _ _) (F' := []) hp (List.nil_sublist _) fun Z2 mz m2 => ?_)⟩
      exact OwnAll.step0 (q1 Z2 mz fun a ha hn => m2 a (by rw [eF]; exact List.mem_append_left _ (sb1.subset ha)) hn) (if c : hgtAll ds = 0 then .inl c else .inr (if_neg c))
    · cases e
  · cases e
theorem re_stepL (ha : PE X e (tE X.K fva mva fa)) (hb : PE X b (tE X.K fvb mvb fb)) (d : djn fva mvb = true := by rfl) : PE X (.Subscript e (.Slice none none (some b) p3) pos) (tE X.K (fva ++ fvb) (mva ++ mvb) (ev2 gStepL fa fb)) :=
  PE.of (pe_stepL ha hb) fun σ H Q h => imp2 ok_step d h
end
end Sq
end

section
namespace Sq
open PySem PySem.Spec L2
/-! ### pop of an item that is itself a list -/
section
variable {K : PySem.W.Frag} {Z : Zs} {H : Hp}
theorem OwnAll.out : ∀ (ds : List PyData) {k : Nat} {vs : List V} {F : List Addr} (j : Nat) {d : PyData}, OwnAll K Z H k vs ds F → ds[j]? = some d → ∃ v F1 F2, vs[j]? = some v ∧ Own K Z H k v d F1 ∧ OwnAll K Z H k (vs.eraseIdx j) (ds.eraseIdx j) F2 ∧ F.Perm (F1 ++ F2)
  | [], _, _, _, j, _, _, e => by simp at e
  | d :: ds, _, _, _, 0, _, h, e => by
    unfold OwnAll at h
    obtain ⟨v, vs', F1, F2, rfl, h1, h2, rfl⟩ := h
    simp only [List.getElem?_cons_zero, Option.some.injEq] at e
    subst e
    exact ⟨v, F1, F2, rfl, h1, h2, .refl _⟩
  | d :: ds, _, _, _, j + 1, _, h, e => by
    unfold OwnAll at h
    obtain ⟨v, vs', F1, F2, rfl, h1, h2, rfl⟩ := h
    simp only [List.getElem?_cons_succ] at e
    obtain ⟨w, G1, G2, e1, q, r, pm⟩ := OwnAll.out ds j h2 e
    refine ⟨w, G1, F1 ++ G2, e1, q, ?_, ?_⟩
    · rw [List.eraseIdx_cons_succ, List.eraseIdx_cons_succ]
      unfold OwnAll
      exact ⟨v, _, F1, G2, rfl, h1, r, rfl⟩
    · refine (pm.append_left F1).trans ?_
      rw [← List.append_assoc, ← List.append_assoc]
      exact (List.perm_append_comm).append_right G2
end
/-- the item j of the list in slot i goes out with what it owns -/
def popR (j : Nat) (i : Nat) (js : List Nat) (s : SD) : Res (DV × SD) := do
  let x ← slot s i
  match js, x with
  | [], (.list ds, k + 1) => match ds[j]? with
    | some d => .ok ((d, k), s.set i (some (.list (ds.eraseIdx j), k + 1)))
    | none => .bad
  | _, _ => .bad
theorem popR_ok {i : Nat} {mv : List Nat} {K : PySem.W.Frag} {Z Z1 : Zs} {H H1 : Hp} {Fs Fs1 : Fp} {σ : L2.St} {s1 s2 : SD} {js : List Nat} {v0 u : V} {j : Nat} {z : DV} {Q : VK} (p1 : Post K PNone [] mv H Z Fs σ s1 H1 Z1 Fs1 []) (ev0 : σ[i]? = some (some v0)) (r1 : Reach H1 (Fs1 i) v0 js u) (e : popR j i js s1 = .ok (z, s2)) (q : ∀ v H' Z' Fs' F, Post K (POne K v z) [] (mv ++ [i]) H Z Fs σ s2 H' Z' Fs' F → Q v H') :
    ∃ pa vs ds y x, u = .ref pa ∧ H1 pa = some (.lst vs) ∧ s1[i]? = some (some x) ∧ dAt js x.1 = some ds ∧ vs.length = ds.length ∧ j < vs.length ∧ vs[j]? = some y ∧ Q y (upd H1 pa (.lst (vs.eraseIdx j))) := by
  unfold popR at e
  obtain ⟨⟨xd, xk⟩, ex, e⟩ := Res.bind_eq_ok.mp e
  cases js with
  | cons a js => cases e
  | nil =>
    cases xd with
    | list ds =>
      cases xk with
      | zero => cases e
      | succ k =>
        simp only at e
        cases ej : ds[j]? with
        | none => rw [ej] at e; cases e
        | some d =>
          rw [ej] at e
          cases e
          obtain ⟨es, v0', ev, ow⟩ := p1.good.slotAt ex
          rw [ev0] at ev
          cases ev
          unfold Own at ow
          obtain ⟨pa, vs, G, rfl, hp, oa, eF⟩ := ow
          obtain ⟨y, F1, F2, ey, oy, oe, pm⟩ := OwnAll.out ds j oa ej
          have r1 : V.ref pa = u := r1.1
          have hj : j < vs.length := (List.getElem?_eq_some_iff.mp ey).1
          have ndi := p1.good.nd i
          rw [eF] at ndi
          obtain ⟨npG, nG⟩ := List.nodup_cons.mp ndi
          have nn := pm.nodup_iff.mp nG
          obtain ⟨n1, n2, n12⟩ := List.nodup_append.mp nn
          have in1 : ∀ a ∈ F1, a ∈ G := fun a ha => pm.mem_iff.mpr (List.mem_append_left _ ha)
          have in2 : ∀ a ∈ F2, a ∈ G := fun a ha => pm.mem_iff.mpr (List.mem_append_right _ ha)
          have inF : ∀ a ∈ G, a ∈ Fs1 i := fun a ha => by rw [eF]; exact List.mem_cons_of_mem _ ha
          have paF : pa ∈ Fs1 i := by rw [eF]; exact List.mem_cons_self ..
          have nzp := p1.good.nz i pa paF
          have kq : ∀ (S : Addr → Prop), (¬ S pa) → Kp S H1 (upd H1 pa (.lst (vs.eraseIdx j))) := fun S n a o e q => by
            rw [upd_ne]
            · exact e
            · rintro rfl
              rcases q with q | q
              · exact n q
              · rw [hp] at e; cases e; exact q trivial
          refine ⟨pa, vs, ds, y, _, r1.symm, hp, es, rfl, OwnAll.len _ oa, hj, ey, q _ _ Z1 (fun l => if l = i then pa :: F2 else Fs1 l) F1 ?_⟩
          have up : ∀ a, a ≠ pa → upd H1 pa (.lst (vs.eraseIdx j)) a = H1 a := fun a ha => upd_ne ha
          have upa : upd H1 pa (.lst (vs.eraseIdx j)) pa = some (.lst (vs.eraseIdx j)) := by unfold upd; rw [if_pos rfl]
          refine p1.seq (P' := POne K y (d, k)) ⟨⟨fun a o ea hm => ?_, fun a ea => ?_, fun a z => z, fun a z => .inl z, fun l hl => ?_, fun l hl a ha => ?_⟩, ⟨?_, fun l d' k' el => ?_, fun l => ?_, fun l m hlm a ha => ?_, fun l a ha => ?_, fun l a ha => ?_, fun a z => ?_⟩, ⟨?_, n1, fun a ha l => ?_, fun a ha => p1.good.nz i a (inF a (in1 a ha))⟩, fun a ha => .inr ⟨i, List.mem_singleton.mpr rfl, inF a (in1 a ha)⟩⟩
          · rw [up a fun h => hm i (List.mem_singleton.mpr rfl) (h ▸ paF)]; exact ea
          · by_cases h : a = pa
            · subst h; rw [upa] at ea; cases ea
            · rw [up a h] at ea; exact ea
          · show (if l = i then pa :: F2 else Fs1 l) = Fs1 l
            rw [if_neg fun h => hl (List.mem_singleton.mpr h)]
          · have := List.mem_singleton.mp hl
            subst this
            have ha : a ∈ (if l = l then pa :: F2 else Fs1 l) := ha
            rw [if_pos rfl] at ha
            rcases List.mem_cons.mp ha with rfl | ha
            · exact .inr ⟨l, List.mem_singleton.mpr rfl, paF⟩
            · exact .inr ⟨l, List.mem_singleton.mpr rfl, inF a (in2 a ha)⟩
          · rw [List.length_set]; exact p1.good.len
          · by_cases h : l = i
            · subst h
              rw [List.getElem?_set_self (List.getElem?_eq_some_iff.mp es).1] at el
              cases el
              refine ⟨_, ev0, ?_⟩
              show Own K Z1 _ (k + 1) _ _ (if l = l then pa :: F2 else Fs1 l)
              rw [if_pos rfl]
              unfold Own
              exact ⟨pa, _, F2, rfl, upa, OwnAll.keep _ oe (kq _ fun z => z.elim (fun z => npG (in2 pa z)) nzp), rfl⟩
            · rw [List.getElem?_set_ne fun z => h z.symm] at el
              obtain ⟨v, ev, ow⟩ := p1.good.own l d' k' el
              refine ⟨v, ev, ?_⟩
              show Own K Z1 _ k' v d' (if l = i then pa :: F2 else Fs1 l)
              rw [if_neg h]
              exact Own.keep d' ow (kq _ fun z => z.elim (fun z => p1.good.dj l i h pa z paF) nzp)
          · show (if l = i then pa :: F2 else Fs1 l).Nodup
            split
            · exact List.nodup_cons.mpr ⟨fun z => npG (in2 pa z), n2⟩
            · exact p1.good.nd l
          · have ha : a ∈ (if l = i then pa :: F2 else Fs1 l) := ha
            show a ∉ (if m = i then pa :: F2 else Fs1 m)
            have toI : ∀ b, b ∈ pa :: F2 → b ∈ Fs1 i := fun b hb => by
              rcases List.mem_cons.mp hb with rfl | hb
              · exact paF
              · exact inF b (in2 b hb)
            have ha' : a ∈ Fs1 l := by
              by_cases h : l = i
              · rw [if_pos h] at ha; rw [h]; exact toI a ha
              · rw [if_neg h] at ha; exact ha
            intro z
            have z' : a ∈ Fs1 m := by
              by_cases h : m = i
              · rw [if_pos h] at z; rw [h]; exact toI a z
              · rw [if_neg h] at z; exact z
            exact p1.good.dj l m hlm a ha' z'
          · have ha : a ∈ (if l = i then pa :: F2 else Fs1 l) := ha
            split at ha
            · rcases List.mem_cons.mp ha with rfl | ha
              · exact nzp
              · exact p1.good.nz i a (inF a (in2 a ha))
            · exact p1.good.nz l a ha
          · have ha : a ∈ (if l = i then pa :: F2 else Fs1 l) := ha
            by_cases h : a = pa
            · subst h; exact ⟨_, upa, trivial⟩
            · rw [up a h]
              split at ha
              · rcases List.mem_cons.mp ha with rfl | ha
                · exact absurd rfl h
                · exact p1.good.isl i a (inF a (in2 a ha))
              · exact p1.good.isl l a ha
          · by_cases h : a = pa
            · subst h; exact ⟨_, upa⟩
            · rw [up a h]; exact p1.good.zt a z
          · show Own K (Zf Z1 _ []) _ k y d F1
            exact Own.zmono d (Own.keep d oy (kq _ fun z => z.elim (fun z => npG (in1 pa z)) nzp)) fun a z => .inl z
          · show a ∉ (if l = i then pa :: F2 else Fs1 l)
            split
            · intro z
              rcases List.mem_cons.mp z with rfl | z
              · exact npG (in1 a ha)
              · exact n12 a ha a z rfl
            · next h => exact fun z => p1.good.dj i l (fun w => h w.symm) a (inF a (in1 a ha)) z
    | _ => cases e
def evPopR (i : Nat) (p : Pth) : Ex := fun s => do
  let (js, s) ← p s
  let x ← slot s i
  match dAt js x.1 with
  | some ds => popR (ds.length - 1) i js s
  | none => .bad
def evPopRAt (i : Nat) (p : Pth) (e : Ex) : Ex := fun s => do
  let (js, s) ← p s
  let (y, s) ← e s
  let x ← slot s i
  match dAt js x.1, y.1 with
  | some ds, .int n => match ixS ds.length n with
    | some j => popR j i js s
    | none => .bad
  | _, _ => .bad
section
variable {X : Cx} {e a b o ix : Expr} {pos apos cpos p : Pos} {fv mv fva mva fvb mvb fvx mvx : List Nat} {f fa fb fx : Ex} {fp : Pth} {i : Nat} {io : List (Nat × Nat)} {fs : Exs}
theorem re_popR (ho : PE X o (tP X.K i mva fp)) (hbase : attributeBase o "pop" X.env (eval o X.env) = eval o X.env := by rfl) (hline : (apos.endLine == cpos.line) = true := by rfl) :
    PE X (.Call (.Attribute o "pop" apos) [] [] cpos) (tE X.K [] (mva ++ [i]) (evPopR i fp)) := by
  refine PE.of (pe_bm0 PySem.F.plainAttrs_list PySem.F.slot_list_pop PySem.F.type_list_pop mt_pop ho hbase hline) fun σ H Q h => ?_
  obtain ⟨Z, s, Fs, z, s', gd, e, q⟩ := h
  unfold evPopR at e
  obtain ⟨⟨js, s1⟩, ea, e⟩ := Res.bind_eq_ok.mp e
  obtain ⟨x, ex, e⟩ := Res.bind_eq_ok.mp e
  refine ⟨Z, s, Fs, js, s1, gd, ea, fun u H1 Z1 Fs1 p1 ⟨v0, ev0, r1⟩ => ?_⟩
  cases ed : dAt js x.1 with
  | none => simp only [ed] at e; cases e
  | some ds =>
    simp only [ed] at e
    obtain ⟨pa, vs, ds1, y, x1, rfl, h2, es, ed1, hl, hj, ey, q'⟩ := popR_ok p1 ev0 r1 e q
    obtain ⟨es', _⟩ := p1.good.slotAt ex
    rw [es] at es'
    cases es'
    rw [ed] at ed1
    cases ed1
    refine ⟨.inl ⟨rfl, vs, .inl (.inl h2)⟩, pa, vs, y, rfl, rfl, h2, by rw [hl]; exact ey, ?_⟩
    rw [← hl, PyProof.Rows.Copied.eraseIdx_last] at q'
    exact q'
theorem re_popRAt (ho : PE X o (tP X.K i mva fp)) (he : PE X e (tE X.K fv mv f)) (d : djn [i] mv = true := by rfl) (hbase : attributeBase o "pop" X.env (eval o X.env) = eval o X.env := by rfl)
    (hfew : ((backTo cpos (starEach [e] X.env)).all (fun x => !x.1) && (backToKw cpos (keywordEach [] X.env)).all (fun x => x.1.isSome) && decide ([e].length + ([] : List Keyword).length + (if ([] : List Keyword).isEmpty then 0 else 1) < 30)) = true := by rfl)
    (hline : (apos.endLine == cpos.line) = true := by rfl) (hst : starEach [e] X.env = (false, eval e X.env) :: starEach [] X.env := by rfl) (hplain : (backTo cpos (starEach [] X.env)).any (·.1) = false := by rfl) :
    PE X (.Call (.Attribute o "pop" apos) [e] [] cpos) (tE X.K [] (mva ++ mv ++ [i]) (evPopRAt i fp f)) := by
  refine PE.of (pe_bm PySem.F.plainAttrs_list PySem.F.slot_list_pop PySem.F.type_list_pop mt_popAt ho (pa_cons he pa_nil hst) hbase hfew hline hst hplain) fun σ H Q h => ?_
  obtain ⟨Z, s, Fs, z, s', gd, e, q⟩ := h
  unfold evPopRAt at e
  obtain ⟨⟨js, s1⟩, ea, e⟩ := Res.bind_eq_ok.mp e
  obtain ⟨⟨y, s2⟩, eb, e⟩ := Res.bind_eq_ok.mp e
  obtain ⟨x, ex, e⟩ := Res.bind_eq_ok.mp e
  have ni : i ∉ mv := djn_ok d i (List.mem_singleton.mpr rfl)
  refine ⟨Z, s, Fs, js, s1, gd, ea, fun u H1 Z1 Fs1 p1 ⟨v0, ev0, r1⟩ => ?_⟩
  obtain ⟨pa, vs, rfl, _, hp⟩ := r1.lastL
  refine ⟨.inl ⟨rfl, vs, .inl (.inl hp)⟩, Z1, s1, Fs1, y, s2, p1.good, eb, fun v H2 Z2 Fs2 F2 p2 => ?_⟩
  have r2 := r1.on p1.good p2.tr ni
  have p3 := (p1.seq p2.nothing).fv0
  obtain ⟨yd, yk⟩ := y
  cases ed : dAt js x.1 with
  | none => simp only [ed] at e; cases e
  | some ds =>
    simp only [ed] at e
    cases yd with
    | int n =>
      simp only at e
      cases ej0 : ixS ds.length n with
        | none => rw [ej0] at e; cases e
        | some j =>
          rw [ej0] at e
          simp only at e
          obtain ⟨sm, ej⟩ : small ds.length = true ∧ ixN ds.length n = some j := by
            unfold ixS at ej0
            split at ej0
            · next c => exact ⟨c, ej0⟩
            · cases ej0
          obtain ⟨pa', vs', ds1, w, x1, e1, h2, es, ed1, hl, hj, ey, q'⟩ := popR_ok p3 ev0 r2 e q
          cases e1
          obtain ⟨es', _⟩ := p3.good.slotAt ex
          rw [es] at es'
          cases es'
          rw [ed] at ed1
          cases ed1
          obtain ⟨k1, k2, k3, k4⟩ := ixN_seq ej
          have hz := of_decide_eq_true (show decide (ds.length ≤ 1000000) = true from sm)
          exact ⟨pa, vs', n, j, w, rfl, by rw [own_int p2.held.pr], h2, by omega, by omega, by rw [hl]; exact k1, ey, q'⟩
    | _ => cases e
/-- a number shares nothing -/
def IntV (f : Ex) : Prop := ∀ s x s', f s = .ok (x, s') → ∃ n, x.1 = .int n
theorem re_flatI {X : Cx} {e : Expr} {fv mv : List Nat} {f : Ex} (h : PE X e (tE X.K fv mv f)) (hf : IntV f) : PE X e (tE X.K [] mv f) := by
  refine PE.of h fun σ H Q h => ?_
  obtain ⟨Z, s, Fs, x, s', gd, ef, q⟩ := h
  refine ⟨Z, s, Fs, x, s', gd, ef, fun v H' Z' Fs' F p => ?_⟩
  obtain ⟨n, en⟩ := hf s x s' ef
  have ow := p.held.pr
  unfold POne at ow
  obtain ⟨xd, xk⟩ := x
  cases en
  unfold Own at ow
  obtain ⟨rfl, rfl⟩ := ow
  exact q _ _ Z' Fs' [] ⟨p.tr, p.good, ⟨int_own, List.nodup_nil, fun a ha => (by cases ha), fun a ha => (by cases ha)⟩, fun a ha => (by cases ha)⟩
theorem intV_len (a : Exs) : IntV (evN gLen a) := fun s x s' h => by
  unfold evN at h
  obtain ⟨⟨xs, s1⟩, _, h⟩ := Res.bind_eq_ok.mp h
  obtain ⟨z, h1, h2⟩ := Res.bind_eq_ok.mp h
  cases h2
  unfold gLen at h1
  split at h1
  · split at h1
    · cases h1; exact ⟨_, rfl⟩
    · cases h1; exact ⟨_, rfl⟩
    · split at h1
      · cases h1; exact ⟨_, rfl⟩
      · cases h1
    · cases h1
  · cases h1
end

/-! ### append of what was popped from the same list -/
section
variable {X : Cx} {o e : Expr} {i : Nat} {fv mv : List Nat} {f : Ex} {pos cpos apos : Pos}
theorem rs_append0 (ho : PE X o (tP X.K i [] (pSlot i))) (he : PE X e (tE X.K fv mv f)) (hbase : attributeBase o "append" X.env (eval o X.env) = eval o X.env := by rfl)
    (hfew : ((backTo cpos (starEach [e] X.env)).all (fun x => !x.1) && (backToKw cpos (keywordEach [] X.env)).all (fun x => x.1.isSome) && decide ([e].length + ([] : List Keyword).length + (if ([] : List Keyword).isEmpty then 0 else 1) < 30)) = true := by rfl)
    (hline : (apos.endLine == cpos.line) = true := by rfl) (hst : starEach [e] X.env = (false, eval e X.env) :: starEach [] X.env := by rfl) (hplain : (backTo cpos (starEach [] X.env)).any (·.1) = false := by rfl) :
    PS X (.Expr (.Call (.Attribute o "append" apos) [e] [] cpos) pos) (tS X.K [] ([] ++ (mv ++ fv) ++ [i]) (sApp i (pSlot i) fv f)) := by
  refine PS.of (ps_expr (pe_bm PySem.F.plainAttrs_list PySem.F.slot_list_append PySem.F.type_list_append mt_append ho (pa_cons he pa_nil hst) hbase hfew hline hst hplain)) fun D σ H h => ?_
  obtain ⟨Z, s, Fs, fl, s', gd, e, q⟩ := h
  unfold sApp at e
  obtain ⟨⟨js, s1⟩, ea, e⟩ := Res.bind_eq_ok.mp e
  obtain ⟨⟨x, s2⟩, eb, e⟩ := Res.bind_eq_ok.mp e
  obtain ⟨s3, ec, e⟩ := Res.bind_eq_ok.mp e
  cases e
  have ej : js = [] := by
    unfold pSlot at ea
    obtain ⟨y, _, ea⟩ := Res.bind_eq_ok.mp ea
    split at ea
    · split at ea
      · cases ea; rfl
      · cases ea
    · cases ea
  subst ej
  refine ⟨Z, s, Fs, [], s1, gd, ea, fun u H1 Z1 Fs1 p1 ⟨v0, ev0, r1⟩ => ?_⟩
  have hu : v0 = u := r1.1
  obtain ⟨pa, vs, rfl, _, hp⟩ := r1.lastL
  refine ⟨.inl ⟨rfl, vs, .inl (.inl hp)⟩, Z1, s1, Fs1, x, s2, p1.good, eb, fun v H2 Z2 Fs2 F2 p2 => ?_⟩
  obtain ⟨Z3, Fs3, p3, f3⟩ := p2.settle
  have p3 := p1.seq p3
  have r3 : ∀ d k, (settle fv x s2)[i]? = some (some (d, k)) → k ≠ 0 → Reach H2 (Fs3 i) v0 [] (.ref pa) := fun d k ed nk => by
    have ec' := ec
    unfold chg at ec'
    obtain ⟨x', ex, ec'⟩ := Res.bind_eq_ok.mp ec'
    obtain ⟨es, v', ev', ow⟩ := p3.good.slotAt ex
    obtain ⟨d', k'⟩ := x'
    rw [es] at ed
    have e1 : d' = d := congrArg Prod.fst (Option.some.inj (Option.some.inj ed))
    have e2 : k' = k := congrArg Prod.snd (Option.some.inj (Option.some.inj ed))
    subst e1; subst e2
    cases ed' : dAt [] d' with
    | none => rw [ed'] at ec'; cases ec'
    | some ds =>
      obtain ⟨u', r⟩ := Own.reach [] ow (Nat.pos_of_ne_zero nk) ed'
      have h1 : v' = u' := r.1
      rw [ev0] at ev'
      cases ev'
      subst h1
      subst hu
      exact r
  obtain ⟨pa', ws, ds, ds', e1, h2, hl, _, eo, fin⟩ := chg_ok (lows_one X.K v x) (stb_one _ _ _) p3 ec ev0 r3
  unfold opApp at eo
  split at eo
  · next sm =>
    cases eo
    have sz := small_ok sm
    obtain ⟨Z4, Fs4, p4⟩ := fin (ws ++ [v]) fun Zq Hq m G Fx o1 o2 nd => ⟨G ++ Fx, OwnAll.app o1 (OwnAll.one o2), fun a ha => List.mem_append.mp ha, nd⟩
    exact ⟨pa', ws, v, e1, rfl, h2, by omega, q σ _ Z4 Fs4 p4⟩
  · cases eo
end
end Sq
end

section
namespace Sq
open PySem PySem.Spec L2
/-! ### xs[i] += c -/
section
variable {X : Cx} {o ix : Expr} {i : Nat} {mva fvx mvx : List Nat} {fp : Pth} {fx : Ex} {pos tpos cpos : Pos}
theorem get_list : PGet X (rIxL X.K) := by
  intro pins s σ H x y v u Q I rx ry h
  obtain ⟨p, xs, i, z, rfl, rfl, hq, he, q⟩ := h
  cases rx
  obtain ⟨t, rfl⟩ := ry
  obtain ⟨its, r, pl, hz⟩ := I.list hq
  obtain ⟨j, h1, h2, h3, h4, h5⟩ := L2.atI_get he
  obtain ⟨w, ew, rw'⟩ := r.get h2
  have hl := r.length
  have hn := line63
  have fin : EP X pins σ Q w s := ⟨z, H, I, rw', q⟩
  by_cases h0 : 0 ≤ i
  · have hj : i.toNat = j := by
      rw [seqIndex_of h0 h5] at h1
      exact Option.some.inj h1
    exact wpAny_getItem_list pl.isList h0 (by omega) (by rw [hj]; simpa using ew) fin
  · have hj : (i + (its.toArray.size : Int)).toNat = j := by
      rw [seqIndex_neg (by omega) h4] at h1
      rw [List.size_toArray, ← hl]
      exact Option.some.inj h1
    exact wpAny_getItem_list_neg pl.isList (by omega) (by rw [List.size_toArray] <;> omega) (by omega) (by rw [hj]; simpa using ew) fin
def opInc (n c : Int) (ds : List PyData) : Res (List PyData) := match ixN ds.length n with
  | some j => match ds[j]? with
    | some (.int x) => .ok (ds.set j (.int (x + c)))
    | _ => .bad
  | none => .bad
def sIncAt (i : Nat) (p : Pth) (ix : Ex) (c : Int) : Sx := fun s => do
  let (js, s) ← p s
  let (y, s) ← ix s
  match y.1 with
  | .int n => do
    let s ← chg i js 9 (opInc n c) s
    .ok (.next, s)
  | _ => .bad
theorem rs_incAt {c : Int} {cj : Nat} (ho : PE X o (tP X.K i mva fp)) (hi : PE X ix (tE X.K fvx mvx fx)) (d2 : djn [i] mvx = true := by rfl)
    (ha : ∀ ov iv new, augStore ix ov iv new = (do holding [new, ov, iv] (setItem ov iv new); release [new, ov, iv] []; pure .next) := by intros; rfl) :
    PS X (.AugAssign (.Subscript o ix tpos) .Add (.Constant (.int c) cj cpos) pos) (tS X.K [] ((mva ++ mvx) ++ [i]) (sIncAt i fp fx c)) := by
  refine PS.of (ps_augS ho hi get_list pe_int ip_add set_list ha) fun D σ H h => ?_
  obtain ⟨Z, s, Fs, fl, s', gd, e, q⟩ := h
  unfold sIncAt at e
  obtain ⟨⟨js, s2⟩, eb, e⟩ := Res.bind_eq_ok.mp e
  obtain ⟨⟨y, s3⟩, ey, e⟩ := Res.bind_eq_ok.mp e
  obtain ⟨yd, yk⟩ := y
  cases yd with
  | int n =>
    obtain ⟨s4, ec, e⟩ := Res.bind_eq_ok.mp e
    cases e
    have ni : i ∉ mvx := djn_ok d2 i (List.mem_singleton.mpr rfl)
    refine ⟨Z, s, Fs, js, s2, gd, eb, fun u H2 Z2 Fs2 p2 ⟨v0, ev0, r2⟩ => ⟨Z2, s2, Fs2, _, s3, p2.good, ey, fun w H3 Z3 Fs3 F3 p3 => ?_⟩⟩
    have r3 := r2.on p2.good p3.tr ni
    have pp := (p2.seq p3.nothing).fv0
    -- the number that stands there
    have ec' := ec
    unfold chg at ec'
    obtain ⟨x', ex, ec'⟩ := Res.bind_eq_ok.mp ec'
    cases ed : dAt js x'.1 with
    | none => rw [ed] at ec'; cases ec'
    | some ds =>
      rw [ed] at ec'
      obtain ⟨ds1, eo1, _⟩ := Res.bind_eq_ok.mp ec'
      unfold opInc at eo1
      cases ej : ixN ds.length n with
      | none => rw [ej] at eo1; cases eo1
      | some j =>
        rw [ej] at eo1
        simp only at eo1
        split at eo1
        · next x0 exj =>
          have pq : Post X.K (POne X.K (.int (x0 + c)) (.int (x0 + c), 0)) [] (mva ++ mvx) H Z Fs σ s3 H3 Z3 Fs3 [] := pp.sc int_own
          obtain ⟨es, v0', ev0', ow0⟩ := pq.good.slotAt ex
          obtain ⟨ds2, eo, ec'⟩ := Res.bind_eq_ok.mp ec'
          have eo' : opInc n c ds = .ok (ds.set j (.int (x0 + c))) := by
            unfold opInc
            rw [ej]
            simp only [exj]
          rw [eo'] at eo
          cases eo
          by_cases l : js.length < x'.2
          case neg =>
            simp only [if_neg l] at ec'
            cases ec'
          simp only [if_pos l] at ec'
          cases ec'
          have dz : dep (.int (x0 + c), 0) = 9 := by simp [dep, full, hgt]
          have lw := lows_one X.K (.int (x0 + c)) (.int (x0 + c), 0)
          rw [dz] at lw
          obtain ⟨pa', ws, e1, h2, hl, ⟨k0, Z0, G0, og⟩, fin⟩ := mutate lw (stb_one _ _ _) pq es ed l ev0 r3
          obtain ⟨A, Fj, B, w', _, ew, ow, _⟩ := OwnAll.split _ j og exj
          have ew' : w' = .int x0 := own_int ow
          subst ew'
          obtain ⟨Z5, Fs5, p5⟩ := fin (ws.set j (.int (x0 + c))) (ds.set j (.int (x0 + c))) fun Zq Hq m G Fx o1 o2 nd => OwnAll.setAt _ j o1 o2 nd
          refine ⟨pa', ws, n, .int x0, e1, own_int p3.held.pr, .inl (.inl h2), ?_, x0, c, rfl, rfl, pa', ws, n, j, e1, own_int p3.held.pr, h2, by rw [hl]; exact ej, q σ _ Z5 Fs5 p5⟩
          unfold atI
          rw [hl, ej]
          exact ew
        · cases eo1
  | _ => cases e
end
/-! None, as deep as one likes -/
def eC9 (d : PyData) : Ex := fun s => .ok ((d, 9), s)
theorem re_non9 {X : Cx} {j : Nat} {pos : Pos} : PE X (.Constant .none j pos) (tE X.K [] [] (eC9 .none)) := by
  refine PE.of pe_non fun σ H Q h => ?_
  obtain ⟨Z, s, Fs, x, s', gd, e, q⟩ := h
  cases e
  refine q _ H Z Fs [] ((Post.start gd).sub (List.nil_sublist _) ?_)
  show Own X.K _ _ 9 .non .none []
  unfold Own
  exact ⟨rfl, rfl⟩
end Sq
end

section
set_option maxHeartbeats 2000000
/-! list(zip(a, b)) of two lists -/
namespace Sq.Zl
open PySem PySem.W PySem.Calls PyProof.Rows PyProof.V PySem.Spec
structure ZG (xs ys : Array Value) (lo : Addr) (h : Heap) (as : List Addr) : Prop where
  rise : as.Pairwise (· < ·)
  above : ∀ a ∈ as, lo < a
  pairs : ∀ (j : Nat) (a : Addr), as[j]? = some a → ∃ x y, xs[j]? = some x ∧ ys[j]? = some y ∧ h.get? a = some { cls := .type "tuple", data := .seq #[x, y] }
theorem ZG.there {xs ys : Array Value} {lo : Addr} {h : Heap} {as : List Addr} (g : ZG xs ys lo h as) {a : Addr} (ha : a ∈ as) : a < h.objs.size := by
  obtain ⟨j, hj⟩ := List.mem_iff_getElem?.mp ha
  obtain ⟨_, _, _, _, e⟩ := g.pairs j a hj
  exact Heap.lt_size e
def ZSt (z TI TO i1 i2 l1 l2 S : Addr) (xs ys : Array Value) (i : Nat) (h : Heap) : Prop :=
  IsPair h TI (.ref i1) (.ref i2) ∧ h.IsListIter i1 l1 i ∧ h.IsListIter i2 l2 i ∧ h.IsList l1 xs ∧ h.IsList l2 ys ∧
    ((IsZip h z TI TO .none ∧ ∃ a b, IsPair h TO a b) ∨ ∃ T f oT, IsZipHeld h z TI TO T f ∧ h.get? T = some oT ∧ T ≠ z ∧ T ≠ i1 ∧ T ≠ i2 ∧ T ≠ S)
structure Off (z TI TO i1 i2 l1 l2 S : Addr) : Prop where
  z : z ≠ S
  TI : TI ≠ S
  TO : TO ≠ S
  i1 : i1 ≠ S
  i2 : i2 ≠ S
  l1 : l1 ≠ S
  l2 : l2 ≠ S
theorem ZSt.keep {z TI TO i1 i2 l1 l2 S : Addr} {xs ys : Array Value} {i : Nat} {h h' : Heap} (st : ZSt z TI TO i1 i2 l1 l2 S xs ys i h) (o : Off z TI TO i1 i2 l1 l2 S) (hk : ∀ b o, b ≠ S → h.get? b = some o → h'.get? b = some o) : ZSt z TI TO i1 i2 l1 l2 S xs ys i h' := by
  obtain ⟨hTI, h1, h2, hl1, hl2, hz⟩ := st
  refine ⟨hk _ _ o.TI hTI, h1.at fun u e => hk _ u o.i1 e, h2.at fun u e => hk _ u o.i2 e, hl1.at fun u e => hk _ u o.l1 e, hl2.at fun u e => hk _ u o.l2 e, ?_⟩
  rcases hz with ⟨hz, a, b, hTO⟩ | ⟨T, f, oT, hz, hT, r1, r2, r3, r4⟩
  · exact .inl ⟨hk _ _ o.z hz, a, b, hk _ _ o.TO hTO⟩
  · exact .inr ⟨T, f, oT, hk _ _ o.z hz, hk _ _ r4 hT, r1, r2, r3, r4⟩
section
variable {prog : Program} {w : World} {A : Around} {E : Value → Shared → Prop} {s : Shared} {z TI TO i1 i2 l1 l2 S : Addr} {xs ys : Array Value}
theorem zl_item {i : Nat} {Q : Option Value → Shared → Prop} (D : ZipApart z TI TO i1 i2 l1 l2) (st : ZSt z TI TO i1 i2 l1 l2 S xs ys i s.heap) (hS : S < s.heap.objs.size) (hi : i < min xs.size ys.size)
    (hQ : ∀ h' x y, xs[i]? = some x → ys[i]? = some y → ZSt z TI TO i1 i2 l1 l2 S xs ys (i + 1) h' → h'.get? s.heap.objs.size = some { cls := .type "tuple", data := .seq #[x, y] } → h'.objs.size = s.heap.objs.size + 1 →
      (∀ b o, b ∉ [z, TO, i1, i2] → s.heap.get? b = some o → h'.get? b = some o) → Q (some (.ref s.heap.objs.size)) { s with heap := h' }) :
    wpAny (model prog w) A (pyNext (.ref z)) Q E s := by
  obtain ⟨hTI, h1, h2, hl1, hl2, hz⟩ := st
  have hix : i < xs.size := Nat.lt_of_lt_of_le hi (Nat.min_le_left ..)
  have hiy : i < ys.size := Nat.lt_of_lt_of_le hi (Nat.min_le_right ..)
  have ex := Array.getElem?_eq_getElem hix
  have ey := Array.getElem?_eq_getElem hiy
  have lt : ∀ {c o}, s.heap.get? c = some o → s.heap.objs.size ≠ c := fun e => Nat.ne_of_gt (Heap.lt_size e)
  have n1 : s.heap.objs.size ≠ i1 := let ⟨_, e, _⟩ := h1; lt e
  have n2 : s.heap.objs.size ≠ i2 := let ⟨_, e, _⟩ := h2; lt e
  rcases hz with ⟨hz, a, b, hTO⟩ | ⟨T, f, oT, hz, hT, r1, r2, r3, r4⟩
  · refine wpAny_pyNext_zip_item D hz hTI hTO h1 h2 hl1 hl2 ex ey fun h' a1 a2 a3 a4 a5 a6 hk => ?_
    exact hQ h' _ _ ex ey ⟨hk _ _ D.TIz D.TITO D.TIi1 D.TIi2 hTI, a3, a4, hl1.at fun o e => hk _ o D.l1z D.l1TO D.l1i1 D.l1i2 e, hl2.at fun o e => hk _ o D.l2z D.l2TO D.l2i1 D.l2i2 e, .inr ⟨s.heap.objs.size, false, _, a1, a5, lt hz, n1, n2, Nat.ne_of_gt hS⟩⟩ a5 a6
      fun c o hc e => hk c o (fun x => hc (by simp [x])) (fun x => hc (by simp [x])) (fun x => hc (by simp [x])) (fun x => hc (by simp [x])) e
  · refine wpAny_pyNext_zip_item_held D hz hT hTI h1 h2 hl1 hl2 ex ey fun h' a1 a3 a4 a5 a6 hk => ?_
    exact hQ h' _ _ ex ey ⟨hk _ _ D.TIz D.TIi1 D.TIi2 hTI, a3, a4, hl1.at fun o e => hk _ o D.l1z D.l1i1 D.l1i2 e, hl2.at fun o e => hk _ o D.l2z D.l2i1 D.l2i2 e, .inr ⟨T, true, oT, a1, hk _ _ r1 r2 r3 hT, r1, r2, r3, r4⟩⟩ a5 a6
      fun c o hc e => hk c o (fun x => hc (by simp [x])) (fun x => hc (by simp [x])) (fun x => hc (by simp [x])) e
theorem zl_done {Q : Option Value → Shared → Prop} (hh : A.handled = none) (D : ZipApart z TI TO i1 i2 l1 l2) (st : ZSt z TI TO i1 i2 l1 l2 S xs ys (min xs.size ys.size) s.heap)
    (hQ : ∀ h', (∀ b o, b ∉ [z, TO, i1, i2] → s.heap.get? b = some o → h'.get? b = some o) → Q none { s with heap := h' }) : wpAny (model prog w) A (pyNext (.ref z)) Q E s := by
  obtain ⟨hTI, h1, h2, hl1, hl2, hz⟩ := st
  have hend : xs[min xs.size ys.size]? = none ∨ ys[min xs.size ys.size]? = none := by
    rcases Nat.le_total xs.size ys.size with h | h
    · exact .inl (Array.getElem?_eq_none (by rw [Nat.min_eq_left h]; exact Nat.le_refl _))
    · exact .inr (Array.getElem?_eq_none (by rw [Nat.min_eq_right h]; exact Nat.le_refl _))
  rcases hz with ⟨hz, a, b, hTO⟩ | ⟨T, f, oT, hz, hT, r1, r2, r3, r4⟩
  · exact wpAny_pyNext_zip_end hh D hz hTI hTO h1 h2 hl1 hl2 hend fun h' hk => hQ h' fun c o hc e => hk c o (fun x => hc (by simp [x])) (fun x => hc (by simp [x])) (fun x => hc (by simp [x])) (fun x => hc (by simp [x])) e
  · exact wpAny_pyNext_zip_end_held hh D hz hT hTI h1 h2 hl1 hl2 hend fun h' hk => hQ h' fun c o hc e => hk c o (fun x => hc (by simp [x])) (fun x => hc (by simp [x])) (fun x => hc (by simp [x])) e
end
section
variable {prog : Program} {w : World} {A : Around} {s : Shared} {R : Result → Shared → Prop} {z TI TO i1 i2 l1 l2 S : Addr} {xs ys : Array Value}
theorem zl_loop (hh : A.handled = none) (D : ZipApart z TI TO i1 i2 l1 l2) (O : Off z TI TO i1 i2 l1 l2 S) (hlow : ∀ b ∈ [z, TO, i1, i2], b < S) (hn : min xs.size ys.size ≤ sizeLine) (res : Value) {h₁ : Heap}
    (hR : ∀ h' tk acc c as, (∀ b o, b ≠ S → b ∉ [z, TO, i1, i2] → h₁.get? b = some o → h'.get? b = some o) → h'.get? S = some { cls := .type "list", dict := none, data := .seq acc c, slots := #[] } → as.length = min xs.size ys.size → ZG xs ys S h' as →
      acc.toList = as.map Value.ref → R (.ok (.ret res)) { s with heap := h', toks := tk }) :
    ∀ (k i : Nat) (h : Heap) (tk c : Nat) (acc : Array Value) (as : List Addr), min xs.size ys.size - i = k → i ≤ min xs.size ys.size → ZSt z TI TO i1 i2 l1 l2 S xs ys i h → (∀ b o, b ≠ S → b ∉ [z, TO, i1, i2] → h₁.get? b = some o → h.get? b = some o) →
      h.get? S = some { cls := .type "list", dict := none, data := .seq acc c, slots := #[] } → acc.toList = as.map Value.ref → as.length = i → ZG xs ys S h as →
      codeAny (model prog w) A (.builtin "list.extend.loop" ⟨[.ref S, .ref z, res], []⟩) R { s with heap := h, toks := tk } := by
  have nS : S ∉ [z, TO, i1, i2] := fun hm => Nat.lt_irrefl _ (hlow S hm)
  have nA : ∀ {a : Addr}, S < a → a ∉ [z, TO, i1, i2] := fun ha hm => Nat.lt_irrefl _ (Nat.lt_trans ha (hlow _ hm))
  intro k
  induction k with
  | zero =>
    intro i h tk c acc as hk hi hst hkeep hS hacc hal hG
    have hin : i = min xs.size ys.size := by omega
    subst hin
    refine codeAny_builtin PySem.F.entry_extend_loop ?_
    rw [Around.under_plainId PySem.F.plain_extend_loop _]
    show wpAny _ A.in1 (pyNext (.ref z) >>= _) _ _ _
    refine wpAny_bind (zl_done (s := { s with heap := h, toks := tk }) (A := A.in1) hh D hst fun h' he => ?_)
    refine wpAny_pure (hR h' tk acc c as (fun b o h1 h2 e => he b o h2 (hkeep b o h1 h2 e)) (he S _ nS hS) hal ⟨hG.rise, hG.above, fun j a hj => ?_⟩ hacc)
    obtain ⟨x, y, e1, e2, e3⟩ := hG.pairs j a hj
    exact ⟨x, y, e1, e2, he a _ (nA (hG.above a (List.mem_of_getElem? hj))) e3⟩
  | succ k ih =>
    intro i h tk c acc as hk hi hst hkeep hS hacc hal hG
    have hlt : i < min xs.size ys.size := by omega
    have hsz : acc.size = i := by rw [← Array.length_toList, hacc, List.length_map, hal]
    refine codeAny_builtin PySem.F.entry_extend_loop ?_
    rw [Around.under_plainId PySem.F.plain_extend_loop _]
    show wpAny _ A.in1 (pyNext (.ref z) >>= _) _ _ _
    refine wpAny_bind (zl_item (s := { s with heap := h, toks := tk }) (S := S) D hst (Heap.lt_size hS) hlt fun h' x y ex ey hst' ht hz hkp => ?_)
    dsimp only at ht hz hkp ⊢
    have hS' := hkp S _ nS hS
    have up : ∀ b o, b ≠ S → h'.get? b = some o → (h'.update S (Obj.mapSeq (·.push (Value.ref h.objs.size)))).get? b = some o := fun b o hb e => (Heap.get?_update_other _ _ (Ne.symm hb)).trans e
    have hSl : S < h.objs.size := Heap.lt_size hS
    show wpAny _ A.in1 (updateSeq S (·.push (Value.ref h.objs.size)) >>= _) _ _ _
    refine wpAny_bind ?_
    refine wpAny_updateSeq hS' rfl (wpAny_pure ⟨plainId_quiet PySem.F.plain_extend_loop _, ih (i + 1) _ tk _ (acc.push (Value.ref h.objs.size)) (as ++ [h.objs.size]) (by omega) hlt (hst'.keep O up)
      (fun b o h1 h2 e => up b o h1 (hkp b o h2 (hkeep b o h1 h2 e))) (Heap.get?_update_self _ hS' rfl) (by rw [Array.toList_push, hacc, List.map_append]; rfl) (by rw [List.length_append, hal]; rfl) ⟨?_, ?_, ?_⟩⟩) (by rw [hsz]; omega) (by show (acc.push (Value.ref h.objs.size)).size ≤ sizeLine + 1; rw [Array.size_push, hsz]; omega)
    · refine List.pairwise_append.mpr ⟨hG.rise, List.pairwise_singleton _ _, fun a ha b hb => ?_⟩
      rw [List.mem_singleton.mp hb]
      exact hG.there ha
    · intro a ha
      rcases List.mem_append.mp ha with ha | ha
      · exact hG.above a ha
      · rw [List.mem_singleton.mp ha]; exact hSl
    · intro j b hj
      rcases Nat.lt_trichotomy j as.length with h1 | h1 | h1
      · rw [List.getElem?_append_left h1] at hj
        obtain ⟨x', y', e1, e2, e3⟩ := hG.pairs j b hj
        have hb := hG.above b (List.mem_of_getElem? hj)
        exact ⟨x', y', e1, e2, up b _ (Nat.ne_of_gt hb) (hkp b _ (nA hb) e3)⟩
      · subst h1
        have hb : h.objs.size = b := by simpa using hj
        subst hb
        exact ⟨x, y, by subst hal; exact ex, by subst hal; exact ey, up _ _ (Nat.ne_of_gt hSl) ht⟩
      · have hnone : (as ++ [h.objs.size])[j]? = none := List.getElem?_eq_none (by rw [List.length_append, List.length_singleton]; omega)
        rw [hnone] at hj; cases hj
end
section
variable {prog : Program} {w : World} {A : Around} {E : Value → Shared → Prop} {s : Shared} {z TI TO i1 i2 l1 l2 : Addr} {xs ys : Array Value}
theorem nolen_zip : typeLookup (.type "zip") "__len__" = pure none := by rw [typeLookup_type, builtinLookup_eq_fast]; kernel_rfl
theorem nohint_zip : typeLookup (.type "zip") "__length_hint__" = pure none := by rw [typeLookup_type, builtinLookup_eq_fast]; kernel_rfl
theorem zl_extend {R : Result → Shared → Prop} (hh : A.handled = none) (D : ZipApart z TI TO i1 i2 l1 l2) (S : Addr) (O : Off z TI TO i1 i2 l1 l2 S) (hlow : ∀ b ∈ [z, TO, i1, i2], b < S) (st : ZSt z TI TO i1 i2 l1 l2 S xs ys 0 s.heap) (hz0 : IsZip s.heap z TI TO .none) (res : Value) (c₀ : Nat) (hS : s.heap.get? S = some { cls := .type "list", data := .seq #[] c₀ })
    (hR : ∀ h' tk acc c as, (∀ b o, b ≠ S → b ∉ [z, TO, i1, i2] → s.heap.get? b = some o → h'.get? b = some o) → h'.get? S = some { cls := .type "list", dict := none, data := .seq acc c, slots := #[] } → as.length = min xs.size ys.size → ZG xs ys S h' as →
      acc.toList = as.map Value.ref → R (.ok (.ret res)) { s with heap := h', toks := tk }) (hn : min xs.size ys.size ≤ sizeLine) :
    wpAny (model prog w) A.in1 (Builtin.List.listExtendWith (.ref S) (.ref z) res)
      (fun fin s' => match fin with | .done f => R (.ok f) s' | .again c' => c'.quiet = true ∧ codeAny (model prog w) A c' R s') (fun e s' => R (.error e) s') s := by
  have key : ∀ (h : Heap) (c₁ tk : Nat), (∀ b o, b ≠ S → s.heap.get? b = some o → h.get? b = some o) →
      h.get? S = some { cls := .type "list", data := .seq #[] c₁ } → codeAny (model prog w) A (.builtin "list.extend.loop" ⟨[.ref S, .ref z, res], []⟩) R { s with heap := h, toks := tk } := by
    intro h c₁ tk hk hS₁
    exact zl_loop (s := s) (h₁ := s.heap) hh D O hlow hn res (fun h' tk' acc c as hk' hS' hl hG hacc => hR h' tk' acc c as hk' hS' hl hG hacc)
      (min xs.size ys.size) 0 h tk c₁ #[] [] (Nat.sub_zero _) (Nat.zero_le _) (st.keep O hk) (fun b o hb _ e => hk b o hb e) hS₁ rfl rfl
      ⟨List.Pairwise.nil, (fun _ ha => nomatch ha), (fun j a hj => by simp at hj)⟩
  have hT : s.TypeIs (.ref z) "zip" := ⟨_, hz0, rfl⟩
  unfold Builtin.List.listExtendWith
  refine wpAny_bind (wpAny_typeOf (T := "zip") hT ?_)
  have h1 : Builtin.List.listSameRef (.ref S) (.ref z) = false := by simp [Builtin.List.listSameRef, Ne.symm O.z]
  have h2 : (Value.type "zip" == Value.type "list") = false := by decide
  have h3 : (Value.type "zip" == Value.type "tuple") = false := by decide
  simp only [h1, h2, h3, Bool.or_false, Bool.false_eq_true, if_false]
  refine wpAny_bind (wpAny_pyIter_zip hz0 ?_)
  refine wpAny_bind (wpAny_holding ?_)
  unfold Builtin.List.listLengthHint
  refine wpAny_bind (wpAny_specialOf hT nolen_zip ?_)
  show wpAny _ A.in1 (specialOf (Value.ref z) (Str.ofString "__length_hint__") >>= _) _ _ _
  refine wpAny_bind (wpAny_specialOf hT nohint_zip ?_)
  refine wpAny_pure ?_
  refine wpAny_ite_split (fun _ => ?_) (fun _ => wpAny_pure ⟨plainId_quiet PySem.F.plain_extend_loop _, key _ c₀ _ (fun b o _ e => e) hS⟩)
  refine wpAny_bind (wpAny_rule ?_)
  refine wpAny_bind ?_
  show wpAny _ _ (updateSeq S (·.push .none) >>= fun _ => updateSeq S (·.pop)) _ _ _
  refine wpAny_bind (wpAny_updateSeq hS rfl ?_)
  have hS₂ := Heap.get?_update_self (Obj.mapSeq (·.push Value.none)) hS rfl
  refine wpAny_updateSeq (hz := by seq_fits) hS₂ rfl ?_
  have hS₃ := Heap.get?_update_self (Obj.mapSeq (·.pop)) hS₂ rfl
  refine wpAny_pure ⟨plainId_quiet PySem.F.plain_extend_loop _, key _ _ _ (fun b o hb e => ?_) hS₃⟩
  exact (Heap.get?_update_other _ _ (Ne.symm hb)).trans ((Heap.get?_update_other _ _ (Ne.symm hb)).trans e)
theorem zl_init {R : Result → Shared → Prop} (hh : A.handled = none) (D : ZipApart z TI TO i1 i2 l1 l2) (S : Addr) (O : Off z TI TO i1 i2 l1 l2 S) (hlow : ∀ b ∈ [z, TO, i1, i2], b < S) (st : ZSt z TI TO i1 i2 l1 l2 S xs ys 0 s.heap) (hz0 : IsZip s.heap z TI TO .none) (hS : s.heap.get? S = some { cls := .type "list", data := .seq #[] })
    (hR : ∀ h' tk acc c as, (∀ b o, b ≠ S → b ∉ [z, TO, i1, i2] → s.heap.get? b = some o → h'.get? b = some o) → h'.get? S = some { cls := .type "list", dict := none, data := .seq acc c, slots := #[] } → as.length = min xs.size ys.size → ZG xs ys S h' as →
      acc.toList = as.map Value.ref → R (.ok (.ret .none)) { s with heap := h', toks := tk }) (hn : min xs.size ys.size ≤ sizeLine) :
    wpAny (model prog w) A.in1 (Builtin.«list.__init__» ⟨[.ref S, .ref z], []⟩)
      (fun fin s' => match fin with | .done f => R (.ok f) s' | .again c' => c'.quiet = true ∧ codeAny (model prog w) A c' R s') (fun e s' => R (.error e) s') s := by
  show wpAny _ _ (do let old ← Builtin.List.listItems (.ref S); Builtin.List.listUpdate (.ref S) (fun _ => #[]); letGo old.toList.reverse; Builtin.List.listExtendWith (.ref S) (.ref z) .none) _ _ s
  refine wpAny_bind ?_
  unfold Builtin.List.listItems
  refine wpAny_bind (wpAny_seqItems hS rfl (wpAny_pure ?_))
  show wpAny _ _ (updateSeq S (fun _ => #[]) >>= fun _ => letGo (#[] : Array Value).toList.reverse >>= fun _ => Builtin.List.listExtendWith (.ref S) (.ref z) .none) _ _ s
  refine wpAny_bind (wpAny_updateSeq hS rfl ?_)
  have hS₂ := Heap.get?_update_self (Obj.mapSeq (fun _ => (#[] : Array Value))) hS rfl
  have oth : ∀ b o, b ≠ S → s.heap.get? b = some o → (s.heap.update S (Obj.mapSeq (fun _ => (#[] : Array Value)))).get? b = some o :=
    fun b o hb e => (Heap.get?_update_other _ _ (Ne.symm hb)).trans e
  refine wpAny_bind (wpAny_letGo ?_)
  refine zl_extend (xs := xs) (ys := ys) hh D S O hlow (st.keep O oth) (oth _ _ O.z hz0) .none _ hS₂ (fun h' tk acc c as hk hS' hl hG hacc => ?_) hn
  exact hR h' tk acc c as (fun b o hb hw e => hk b o hb hw (oth b o hb e)) hS' hl hG hacc
theorem zl_call {Q : Value → Shared → Prop} (hh : A.handled = none) (D : ZipApart z TI TO i1 i2 l1 l2) (hTI : IsPair s.heap TI (.ref i1) (.ref i2)) (hTO : ∃ a b, IsPair s.heap TO a b) (h1 : s.heap.IsListIter i1 l1 0) (h2 : s.heap.IsListIter i2 l2 0) (hl1 : s.heap.IsList l1 xs) (hl2 : s.heap.IsList l2 ys) (hz0 : IsZip s.heap z TI TO .none) (hn : min xs.size ys.size ≤ sizeLine)
    (hQ : ∀ h' tk acc c as, (∀ b o, b ∉ [z, TO, i1, i2] → s.heap.get? b = some o → h'.get? b = some o) → h'.get? s.heap.objs.size = some { cls := .type "list", dict := none, data := .seq acc c, slots := #[] } → as.length = min xs.size ys.size → ZG xs ys s.heap.objs.size h' as →
      acc.toList = as.map Value.ref → Q (.ref s.heap.objs.size) { s with heap := h', toks := tk }) :
    wpAny (model prog w) A (call (.type "list") [.ref z]) Q E s := by
  refine callType_codes (Q₁ := fun obj s₁ => obj = .ref s.heap.objs.size ∧ s₁ = { s with heap := s.heap.push { cls := .type "list", data := .seq #[] } }) PySem.F.called_list (PySem.F.typeCall_list_1 _) PySem.F.entry_list_init
    (code_list_new _ ⟨rfl, rfl⟩) fun obj s₁ h₁ => ?_
  obtain ⟨rfl, rfl⟩ := h₁
  have hS : (s.heap.push { cls := .type "list", data := .seq #[] }).get? s.heap.objs.size = some { cls := .type "list", data := .seq #[] } := Heap.get?_push_size _ rfl
  have lz : z < s.heap.objs.size := Heap.lt_size hz0
  have lTI : TI < s.heap.objs.size := Heap.lt_size hTI
  have lTO : TO < s.heap.objs.size := let ⟨_, _, e⟩ := hTO; Heap.lt_size e
  have li1 : i1 < s.heap.objs.size := let ⟨_, e, _⟩ := h1; Heap.lt_size e
  have li2 : i2 < s.heap.objs.size := let ⟨_, e, _⟩ := h2; Heap.lt_size e
  have ll1 : l1 < s.heap.objs.size := let ⟨_, e, _⟩ := hl1; Heap.lt_size e
  have ll2 : l2 < s.heap.objs.size := let ⟨_, e, _⟩ := hl2; Heap.lt_size e
  have pu : ∀ b o, s.heap.get? b = some o → (s.heap.push { cls := .type "list", data := .seq #[] }).get? b = some o := fun b o e => Heap.get?_push_of_some _ e
  have O : Off z TI TO i1 i2 l1 l2 s.heap.objs.size := ⟨Nat.ne_of_lt lz, Nat.ne_of_lt lTI, Nat.ne_of_lt lTO, Nat.ne_of_lt li1, Nat.ne_of_lt li2, Nat.ne_of_lt ll1, Nat.ne_of_lt ll2⟩
  have hlow : ∀ b ∈ [z, TO, i1, i2], b < s.heap.objs.size := fun b hb => by
    simp only [List.mem_cons, List.not_mem_nil, or_false] at hb
    rcases hb with rfl | rfl | rfl | rfl <;> assumption
  have st : ZSt z TI TO i1 i2 l1 l2 s.heap.objs.size xs ys 0 (s.heap.push { cls := .type "list", data := .seq #[] }) := ⟨pu _ _ hTI, h1.at fun o e => pu _ o e, h2.at fun o e => pu _ o e, hl1.at fun o e => pu _ o e, hl2.at fun o e => pu _ o e, .inl ⟨pu _ _ hz0, let ⟨a, b, e⟩ := hTO; ⟨a, b, pu _ _ e⟩⟩⟩
  refine ⟨⟨_, hS, rfl⟩, PySem.F.args_list_init_2 _ _, zl_init (A := A.in1) (xs := xs) (ys := ys) hh D _ O hlow st (pu _ _ hz0) hS (fun h' tk acc c as hk hS' hl hG hacc => ?_) hn⟩
  exact ⟨rfl, hQ h' tk acc c as (fun b o hb e => hk b o (Nat.ne_of_lt (Heap.lt_size e)) hb (pu b o e)) hS' hl hG hacc⟩
end
end Sq.Zl
end

section
set_option maxHeartbeats 2000000
namespace Sq.Zl
open PySem PySem.Spec PyProof.Rows L2
def putZ : Hp → List Addr → List (V × V) → Hp
  | H, a :: as, p :: ps => putZ (upd H a (.tup [p.1, p.2])) as ps
  | H, _, _ => H
theorem putZ_off {b : Addr} : ∀ (as : List Addr) (ps : List (V × V)) (H : Hp), b ∉ as → putZ H as ps b = H b
  | [], _, _, _ => rfl
  | _ :: _, [], _, _ => rfl
  | a :: as, p :: ps, H, h => by
    show putZ (upd H a (.tup [p.1, p.2])) as ps b = H b
    rw [putZ_off as ps _ (fun z => h (List.mem_cons_of_mem _ z)), upd_ne (fun z => h (by rw [z]; exact List.mem_cons_self))]
theorem putZ_at : ∀ (as : List Addr) (ps : List (V × V)) (H : Hp), as.length = ps.length → as.Nodup → ∀ (j : Nat) (a : Addr) (p : V × V), as[j]? = some a → ps[j]? = some p → putZ H as ps a = some (.tup [p.1, p.2])
  | [], _, _, _, _, j, a, p, h, _ => by simp at h
  | _ :: _, [], _, h, _, _, _, _, _, _ => by cases h
  | a0 :: as, p0 :: ps, H, h, hn, 0, a, p, e1, e2 => by
    have hn' := List.nodup_cons.mp hn
    have e1 : a0 = a := by simpa using e1
    have e2 : p0 = p := by simpa using e2
    subst e1; subst e2
    show putZ (upd H a0 (.tup [p0.1, p0.2])) as ps a0 = _
    rw [putZ_off as ps _ hn'.1, upd_same]
  | a0 :: as, p0 :: ps, H, h, hn, j + 1, a, p, e1, e2 => by
    have hn' := List.nodup_cons.mp hn
    exact putZ_at as ps _ (Nat.succ.inj h) hn'.2 j a p (by simpa using e1) (by simpa using e2)
theorem vals_get : ∀ {xs : List V} {us : List Value}, Vals xs us → ∀ {j : Nat} {x : V} {u : Value}, xs[j]? = some x → us[j]? = some u → RelV x u
  | _, _, .nil, j, x, u, h, _ => by simp at h
  | _, _, .cons r t, 0, x, u, h, h' => by
    simp at h h'
    subst h; subst h'
    exact r
  | _, _, .cons r t, j + 1, x, u, h, h' => vals_get t (by simpa using h) (by simpa using h')
section
variable {X : Cx} {e e2 : Expr} {ta : TA} {p p2 cpos pos : Pos}
theorem zip_laid {pins : List (Addr × Obj)} {σ : L2.St} {H : Hp} {s : Shared} {h' : Heap} {tk : Nat} {xs ys : List V} {us ws : List Value} {acc : Array Value} {c : Nat} {S : Addr} {as : List Addr} (I : Inv X pins σ H s) (rx : Vals xs us) (ry : Vals ys ws) (hz : min us.length ws.length ≤ sizeLine)
    (hk : ∀ b o, s.heap.get? b = some o → h'.get? b = some o) (hSz : s.heap.objs.size ≤ S) (hS : h'.get? S = some { cls := .type "list", dict := none, data := .seq acc c, slots := #[] }) (hl : as.length = min us.length ws.length) (hG : ZG us.toArray ws.toArray S h' as) (hacc : acc.toList = as.map Value.ref) :
    (∀ t ∈ as, H t = none) ∧ H S = none ∧ S ∉ as ∧ as.Nodup ∧ Inv X pins σ (upd (putZ H as (xs.zip ys)) S (.lst (as.map V.ref))) { s with heap := h', toks := tk } := by
  have lx : xs.length = us.length := rx.length
  have ly : ys.length = ws.length := ry.length
  have hSn : S ∉ as := fun z => Nat.lt_irrefl _ (hG.above _ z)
  have nd : as.Nodup := List.Pairwise.imp (fun {a b} (h : a < b) => Nat.ne_of_lt h) hG.rise
  have new : ∀ t ∈ as, H t = none := fun t ht => I.hok.fresh (Nat.le_trans hSz (Nat.le_of_lt (hG.above t ht)))
  have newS : H S = none := I.hok.fresh hSz
  have lp : as.length = (xs.zip ys).length := by rw [List.length_zip]; omega
  have off : ∀ b, b ∉ as → b ≠ S → (upd (putZ H as (xs.zip ys)) S (.lst (as.map V.ref))) b = H b := fun b h1 h2 => by rw [upd_ne h2, putZ_off as _ _ h1]
  have low : ∀ b o, s.heap.get? b = some o → b ∉ as ∧ b ≠ S := fun b o e => ⟨fun z => absurd (Heap.lt_size e) (Nat.not_lt.mpr (Nat.le_trans hSz (Nat.le_of_lt (hG.above b z)))), Nat.ne_of_lt (Nat.lt_of_lt_of_le (Heap.lt_size e) hSz)⟩
  have kp : ∀ b u, H b = some u → (upd (putZ H as (xs.zip ys)) S (.lst (as.map V.ref))) b = some u := fun b u e => by
    rw [off b (fun z => by rw [new b z] at e; cases e) (fun z => by rw [z, newS] at e; cases e)]
    exact e
  have eS : (upd (putZ H as (xs.zip ys)) S (.lst (as.map V.ref))) S = some (.lst (as.map V.ref)) := upd_same ..
  refine ⟨new, newS, hSn, nd, ?_⟩
  refine I.call' (ch := []) rfl ⟨fun b o q _ _ _ => hk b o q, fun b o q _ _ _ => ⟨o.slots, hk b o q⟩, fun b o q n _ => ?_, fun b o q _ => ⟨o, hk b o q⟩, fun b xs q => kp b _ q, fun b o u q => kp b _ q, fun b ps q => ⟨#[], by rw [kp b _ q]; simp⟩⟩ (fun b u q => ?_) I.bare fun b z => by simp at z
  · obtain ⟨z1, z2⟩ := low b o q
    rw [off b z1 z2]
    exact n
  · by_cases hb : b ∈ as
    · obtain ⟨j, e1⟩ := List.mem_iff_getElem?.mp hb
      obtain ⟨x, y, f1, f2, f3⟩ := hG.pairs j b e1
      have hj : j < as.length := (List.getElem?_eq_some_iff.mp e1).1
      obtain ⟨pr, e2⟩ : ∃ pr, (xs.zip ys)[j]? = some pr := ⟨(xs.zip ys)[j]'(by omega), List.getElem?_eq_getElem _⟩
      have e3 := putZ_at as (xs.zip ys) H lp nd j b pr e1 e2
      rw [upd_ne (fun z => hSn (by rw [← z]; exact hb)), e3] at q
      cases q
      obtain ⟨g1, g2⟩ := List.getElem?_zip_eq_some.mp e2
      have r1 := vals_get rx g1 (by simpa using f1)
      have r2 := vals_get ry g2 (by simpa using f2)
      exact ⟨by show 2 ≤ sizeLine; decide, [x, y], .cons r1 (.cons r2 .nil), ⟨_, f3, rfl, _, rfl⟩⟩
    · by_cases hb2 : b = S
      · rw [hb2] at q ⊢
        rw [eS] at q
        cases q
        refine ⟨by rw [List.length_map]; omega, acc.toList, c, by rw [hacc]; exact LiI.vals_refs as, ?_⟩
        rw [Array.toArray_toList]
        exact hS
      · rw [off b hb hb2] at q
        exact (I.hok b u q).stay (fun d v _ y => hk d v y) (fun d y => kp d _ y) fun d xs y => kp d _ y
def rZipL (K : PySem.W.Frag) : List V → Hp → VK → Prop := fun vs H Q => ∃ (a b : Addr) (xs ys : List V), vs = [.ref a, .ref b] ∧ SqL K H a xs ∧ SqL K H b ys ∧
  ∀ (S : Addr) (ts : List Addr), ts.length = min xs.length ys.length → ts.Nodup → (∀ t ∈ ts, H t = none) → H S = none → S ∉ ts → Q (.ref S) (upd (putZ H ts (xs.zip ys)) S (.lst (ts.map V.ref)))
def tListZip (K : PySem.W.Frag) (ta : TA) : TE := fun σ H Q => ta σ H fun vs H1 => rZipL K vs H1 Q
/-- list(zip(e, e2)) -/
theorem pe_listZip (hc : X.calm = true) (ha : PA X [e, e2] ta) (hg : Gl X "list") (hm : X.mg "list" = none) (hv : bootBuiltins "list" = some (.type "list")) (hg2 : Gl X "zip") (hm2 : X.mg "zip" = none)
    (hs : starEach [.Call (.Name "zip" p2) [e, e2] [] cpos] X.env = (false, eval (.Call (.Name "zip" p2) [e, e2] [] cpos) X.env) :: starEach [] X.env := by rfl) (hs2 : starEach [e, e2] X.env = (false, eval e X.env) :: starEach [e2] X.env := by rfl) (hpl : (backTo cpos (starEach [e2] X.env)).any (·.1) = false := by rfl) :
    PE X (.Call (.Name "list" p) [.Call (.Name "zip" p2) [e, e2] [] cpos] [] pos) (tListZip X.K ta) := by
  refine ⟨fun pins s σ H Q I hq => ?_⟩
  refine wpAny_Call_Name_kw (ld_blt I hg hm hv ?_)
  refine PyProof.Rows.callWith_type1 ?_ hs rfl
  rw [hs]
  show wpAny _ _ (spliced ((false, eval (.Call (.Name "zip" p2) [e, e2] [] cpos) X.env) :: backTo pos (starEach [] X.env))) _ _ s
  refine Calls.spliced_cons ?_
  refine Call_ (ld_blt I hg2 hm2 PyProof.Rows.boot_zip (PyProof.Rows.callWith_type1 (thn (ha.run cpos pins s σ H _ I hq) fun us s1 ⟨vs, H1, I1, r1, q1⟩ => ?_) hs2 hpl))
  obtain ⟨a, b, xs, ys, ex, hqx, hqy, q⟩ := q1
  subst ex
  cases r1 with
  | cons r rr =>
    cases rr with
    | cons r' rr =>
      cases rr
      cases r
      cases r'
      obtain ⟨its, rv, p1, hz1⟩ := I1.list hqx
      obtain ⟨its2, rv2, p2', hz2⟩ := I1.list hqy
      refine call_zip_2 p1.isList p2'.isList fun h' hz hTI hTO h1 h2 hsz hk => ?_
      refine Calls.spliced_nil ?_
      have hn : min its.toArray.size its2.toArray.size ≤ sizeLine := by
        have := rv.length
        rw [List.size_toArray, List.size_toArray]
        omega
      refine zl_call (s := { s1 with heap := h' }) (xs := its.toArray) (ys := its2.toArray) (I1.ok.hd hc) (PySem.W.ktu_apart s1.heap.objs.size a b p1.lt p2'.lt) hTI ⟨_, _, hTO⟩ h1 h2 (p1.isList.at fun o e => hk _ o e) (p2'.isList.at fun o e => hk _ o e) hz hn fun h'' tk acc c as hk' hS hl hG hacc => ?_
      have hk2 : ∀ b o, s1.heap.get? b = some o → h''.get? b = some o := fun b o eb => hk' b o (fun hm => by
        have hlt := Heap.lt_size eb
        simp only [List.mem_cons, List.not_mem_nil, or_false] at hm
        rcases hm with z | z | z | z
        · rw [z] at hlt; exact absurd hlt (Nat.not_lt.mpr (Nat.le_add_right _ _))
        · rw [z] at hlt; exact absurd hlt (Nat.not_lt.mpr (Nat.le_add_right _ _))
        · rw [z] at hlt; exact absurd hlt (Nat.lt_irrefl _)
        · rw [z] at hlt; exact absurd hlt (Nat.not_lt.mpr (Nat.le_add_right _ _))) (hk b o eb)
      have hSz : s1.heap.objs.size ≤ h'.objs.size := by rw [hsz]; exact Nat.le_add_right _ _
      obtain ⟨k1, k2, k3, k4, J⟩ := zip_laid (tk := tk) I1 rv rv2 (by simpa using hn) hk2 hSz hS (by simpa using hl) hG hacc
      exact ⟨.ref _, _, J, rfl, q _ as (by rw [rv.length, rv2.length]; simpa using hl) k4 k1 k2 k3⟩
end
end Sq.Zl

namespace Sq
open PySem PySem.Spec L2
/-- list(zip(a, b)) of two lists of numbers -/
def gZipL (xs : List DV) : Res DV := match xs with
  | [(.list as, _), (.list bs, _)] => match intsD as, intsD bs with
    | some ns, some ms => .ok (.list ((ns.zip ms).map fun p => .tuple [.int p.1, .int p.2]), 10)
    | _, _ => .bad
  | _ => .bad
section
variable {K : PySem.W.Frag} {Z : Zs} {H : Hp}
theorem zip_int (ns ms : List Int) : (ns.map V.int).zip (ms.map V.int) = (ns.zip ms).map fun p => (V.int p.1, V.int p.2) := by
  induction ns generalizing ms with
  | nil => rfl
  | cons n ns ih =>
    cases ms with
    | nil => rfl
    | cons m ms => simp [ih]
theorem own_pairs {k : Nat} : ∀ (ts : List Addr) (ps : List (Int × Int)), ts.length = ps.length → (∀ (j : Nat) (t : Addr) (p : Int × Int), ts[j]? = some t → ps[j]? = some p → H t = some (.tup [.int p.1, .int p.2])) → OwnAll K Z H k (ts.map V.ref) (ps.map fun p => .tuple [.int p.1, .int p.2]) []
  | [], [], _, _ => by simp only [List.map_nil]; unfold OwnAll; exact ⟨rfl, rfl⟩
  | [], _ :: _, h, _ => by cases h
  | _ :: _, [], h, _ => by cases h
  | t :: ts, p :: ps, h, hH => by
    have ih := own_pairs (k := k) ts ps (Nat.succ.inj h) fun j t' p' e1 e2 => hH (j + 1) t' p' (by simpa using e1) (by simpa using e2)
    rw [List.map_cons, List.map_cons]
    unfold OwnAll
    refine ⟨.ref t, _, [], [], rfl, ?_, ih, rfl⟩
    unfold Own
    refine ⟨t, [.int p.1, .int p.2], rfl, .inl (.inl (hH 0 t p rfl rfl)), ?_⟩
    have := own_ints (K := K) (Z := Z) (H := H) (k := k - 1) [p.1, p.2]
    exact this
theorem ok_zipL : CallOk K (Zl.rZipL K) gZipL := by
  intro fv mv H Z Fs σ s' H1 Z1 Fs1 F vs xs z Q e p q
  unfold gZipL at e
  split at e
  · next as ka bs kb =>
    cases ea : intsD as with
    | none => rw [ea] at e; cases e
    | some ns =>
      cases eb : intsD bs with
      | none => rw [ea, eb] at e; cases e
      | some ms =>
        rw [ea, eb] at e
        cases e
        have pr : OwnL K _ _ vs [(PyData.list as, ka), (PyData.list bs, kb)] F := p.held.pr
        obtain ⟨v, vs', F1, F2, rfl, h1, h2, rfl⟩ := pr
        obtain ⟨w, ws', G1, G2, rfl, h3, h4, rfl⟩ := h2
        obtain ⟨rfl, rfl⟩ := h4
        obtain ⟨a, us, E1, rfl, r1, o1, _⟩ := h1.sub
        obtain ⟨b, ws, E2, rfl, r2, o2, _⟩ := h3.sub
        rw [intsD_own ea o1] at r1
        rw [intsD_own eb o2] at r2
        refine ⟨a, b, ns.map V.int, ms.map V.int, rfl, .inl r1, .inl r2, fun S ts hl nd new newS hSn => ?_⟩
        rw [zip_int]
        have hlen : ts.length = (ns.zip ms).length := by rw [hl]; simp
        have step : ∀ (ts : List Addr) (ps : List (V × V)) (H2 : Hp), (∀ t ∈ ts, H2 t = none) → ts.Nodup → Post K PNone fv mv H Z Fs σ s' H2 Z1 Fs1 [] → Post K PNone fv mv H Z Fs σ s' (Zl.putZ H2 ts ps) Z1 Fs1 [] := by
          intro ts
          induction ts with
          | nil => intro ps H2 _ _ p; exact p
          | cons t ts ih =>
            intro ps H2 hn hd p
            cases ps with
            | nil => exact p
            | cons pr ps =>
              obtain ⟨d1, d2⟩ := List.nodup_cons.mp hd
              refine ih ps _ (fun u hu => ?_) d2 (p.newO stb_none (hn t (List.mem_cons_self ..)))
              rw [upd_ne (fun z => d1 (by rw [← z]; exact hu))]
              exact hn u (List.mem_cons_of_mem _ hu)
        have p1 := step ts ((ns.zip ms).map fun p => (V.int p.1, V.int p.2)) H1 new nd p.nothing
        refine q _ _ _ _ (p1.newL stb_none (F' := []) (k := 9) (by rw [Zl.putZ_off _ _ _ hSn]; exact newS) (List.nil_sublist _) fun Z2 mz m2 => own_pairs ts (ns.zip ms) hlen fun j t pr e1 e2 => ?_)
        exact Zl.putZ_at ts _ H1 (by rw [List.length_map]; exact hlen) nd j t (V.int pr.1, V.int pr.2) e1 (by rw [List.getElem?_map, e2]; rfl)
  · cases e
end
section
variable {X : Cx} {e e2 : Expr} {p p2 cpos pos : Pos} {fv mv : List Nat} {io : List (Nat × Nat)} {fs : Exs}
theorem re_listZip (hm : X.mg "list" = none) (hm2 : X.mg "zip" = none) (ha : PA X [e, e2] (tA X.K fv mv io fs)) (hc : X.calm = true := by rfl) (hg : Gl X "list" := by rfl) (hg2 : Gl X "zip" := by rfl)
    (hs : starEach [.Call (.Name "zip" p2) [e, e2] [] cpos] X.env = (false, eval (.Call (.Name "zip" p2) [e, e2] [] cpos) X.env) :: starEach [] X.env := by rfl) (hs2 : starEach [e, e2] X.env = (false, eval e X.env) :: starEach [e2] X.env := by rfl) (hpl : (backTo cpos (starEach [e2] X.env)).any (·.1) = false := by rfl) :
    PE X (.Call (.Name "list" p) [.Call (.Name "zip" p2) [e, e2] [] cpos] [] pos) (tE X.K fv mv (evN gZipL fs)) :=
  PE.of (Zl.pe_listZip hc ha hg hm (by decide +kernel) hg2 hm2 hs hs2 hpl) fun σ H Q h => impN ok_zipL h
end
end Sq
namespace Sq
open PySem PySem.Spec L2
/-! ### an item taken out of a list of one's own that is not needed any more -/
def eIxM (i : Nat) (ix : Ex) : Ex := fun s => do
  let _ ← slot s i
  let (y, s) ← ix s
  let x ← slot s i
  match x.1, y.1 with
  | .list ds, .int n => match ixN ds.length n with
    | some j => match ds[j]? with
      | some d => .ok ((d, x.2 - 1), s.set i none)
      | none => .bad
    | none => .bad
  | _, _ => .bad
section
variable {X : Cx} {b : Expr} {pos pos' : Pos} {fv mv : List Nat} {f : Ex}
theorem re_ixM {i : Nat} {x : Str} (hN : X.N[i]? = some x) (hv : Vis X.env.scope x) (hb : PE X b (tE X.K fv mv f)) (hs : PlainIx b) (d : djn [i] mv = true := by rfl) (hd : (x == ("__debug__" : Str)) = false := by decide) (hcd : (x == ("__classdict__" : Str)) = false := by decide) : PE X (.Subscript (.Name x pos') b pos) (tE X.K [] (mv ++ [i]) (eIxM i f)) := by
  refine PE.of (pe_ix ix_list (pe_var hN hv hd hcd) hb hs) fun σ H Q h => ?_
  obtain ⟨Z, s, Fs, z, s', gd, e, q⟩ := h
  unfold eIxM at e
  obtain ⟨x0, ex0, e⟩ := Res.bind_eq_ok.mp e
  obtain ⟨⟨y, s1⟩, eb, e⟩ := Res.bind_eq_ok.mp e
  obtain ⟨x1, ex1, e⟩ := Res.bind_eq_ok.mp e
  obtain ⟨_, v, ev, _⟩ := gd.slotAt ex0
  refine ⟨v, ev, Z, s, Fs, y, s1, gd, eb, fun w H1 Z1 Fs1 F1 p1 => ?_⟩
  obtain ⟨es1, v1, ev1, ow⟩ := p1.good.slotAt ex1
  rw [ev] at ev1
  cases ev1
  obtain ⟨xd, xk⟩ := x1
  obtain ⟨yd, yk⟩ := y
  cases xd with
  | list ds =>
    cases yd with
    | int n =>
      simp only at e
      cases ej : ixN ds.length n with
      | none => rw [ej] at e; cases e
      | some j =>
        rw [ej] at e
        simp only at e
        cases ed : ds[j]? with
        | none => rw [ed] at e; cases e
        | some dd =>
          rw [ed] at e
          cases e
          obtain ⟨p, vs, F', rfl, r1, o1, sb⟩ := Own.sub ow
          obtain ⟨A, Fj, B, u, eF, eu, ou, _⟩ := OwnAll.split ds j o1 ed
          have pt := p1.good.take ev ow
          have sb2 : Fj.Sublist (Fs1 i) := by
            refine List.Sublist.trans ?_ sb
            rw [eF]
            exact (List.sublist_append_left Fj B).trans (List.sublist_append_right A _)
          have p2 := pt.sub sb2 (P' := POne X.K u (dd, xk - 1)) (Own.zmono _ ou fun a z => .inl z)
          refine ⟨p, vs, n, u, rfl, own_int p1.held.pr, .inl r1, ?_, q _ _ _ _ _ (p1.nothing.fv0.seq p2)⟩
          unfold atI
          rw [OwnAll.len _ o1, ej]
          exact eu
    | _ => cases e
  | _ => cases e
theorem xixm (i : Nat) {x : Str} (hb : PE X b (tE X.K fv mv f)) (hs : PlainIx b := by intro _ _; rfl) (d : djn [i] mv = true := by rfl) (hN : X.N[i]? = some x := by rfl) (hv : Vis X.env.scope x := by first | exact Or.inl rfl | exact Or.inr (Or.inl rfl) | exact Or.inr (Or.inr rfl)) (hd : (x == ("__debug__" : Str)) = false := by decide) (hcd : (x == ("__classdict__" : Str)) = false := by decide) : PE X (.Subscript (.Name x pos') b pos) (tE X.K [] (mv ++ [i]) (eIxM i f)) := re_ixM hN hv hb hs d hd hcd
end
end Sq
end

section
/-! sorted(xs) of data that are alike -/
namespace Sq
open PySem PySem.Spec L2
def isTupC : PyData → Bool
  | .tuple (_ :: _) => true
  | _ => false
def isOth : PyData → Bool
  | .none => false
  | .tuple _ => false
  | _ => true
def srtOk (ds : List PyData) : Bool := (ds.all fun d => ds.all fun d' => PySem.W.alike d d') && (ds.all isTupC || ds.all isOth) && (ndcAll ds && ds.all fun d => decide (d.depth ≤ 60))
theorem srt_alike {ds : List PyData} (h : srtOk ds = true) : PySem.W.AllAlike ds := fun d hd d' hd' => by
  unfold srtOk at h
  rw [Bool.and_eq_true, Bool.and_eq_true] at h
  exact List.all_eq_true.mp (List.all_eq_true.mp h.1.1 d hd) d' hd'
theorem srt_able {ds : List PyData} (h : srtOk ds = true) : PySem.W.Sortable ds := by
  unfold srtOk at h
  rw [Bool.and_eq_true, Bool.and_eq_true, Bool.or_eq_true] at h
  rcases h.1.2 with q | q
  · have := PySem.W.Sortable.tuples (β := PyData) (enc := fun d => if isTupC d then d else .tuple [.none]) (bs := ds) fun b => by
      show ∃ x r, (if isTupC b then b else .tuple [.none]) = _
      split
      · rename_i z
        cases b with
        | tuple xs => cases xs with
          | nil => cases z
          | cons x r => exact ⟨x, r, rfl⟩
        | _ => cases z
      · exact ⟨_, _, rfl⟩
    have e : ds.map (fun d => if isTupC d then d else .tuple [.none]) = ds := by
      conv => rhs; rw [← List.map_id ds]
      exact List.map_congr_left fun d hd => if_pos (List.all_eq_true.mp q d hd)
    rwa [e] at this
  · have := PySem.W.Sortable.others (β := PyData) (enc := fun d => if isOth d then d else .int 0) (bs := ds) fun b => by
      show (if isOth b then b else .int 0) ≠ .none ∧ ∀ xs, (if isOth b then b else .int 0) ≠ .tuple xs
      split
      · rename_i z
        exact ⟨(by rintro rfl; cases z), (by rintro xs rfl; cases z)⟩
      · exact ⟨(by intro h; cases h), (by intro _ h; cases h)⟩
    have e : ds.map (fun d => if isOth d then d else .int 0) = ds := by
      conv => rhs; rw [← List.map_id ds]
      exact List.map_congr_left fun d hd => if_pos (List.all_eq_true.mp q d hd)
    rwa [e] at this
theorem srt_dep {ds : List PyData} (h : srtOk ds = true) : ∀ d ∈ ds, d.depth ≤ 60 := fun d hd => by
  unfold srtOk at h
  have h2 := (Bool.and_eq_true ..).mp ((Bool.and_eq_true ..).mp h).2
  exact of_decide_eq_true (List.all_eq_true.mp h2.2 d hd)
theorem srt_ndc {ds : List PyData} (h : srtOk ds = true) : ndcAll ds = true := by
  unfold srtOk at h
  exact ((Bool.and_eq_true ..).mp ((Bool.and_eq_true ..).mp h).2).1
def sortP (xs : List V) (ds : List PyData) : List (V × PyData) := (xs.zip ds).mergeSort (PySem.W.dataLe false Prod.snd)
def sortD (ds : List PyData) : List PyData := ds.mergeSort (PySem.W.dataLe false id)
def rSortedD (K : PySem.W.Frag) : List V → Hp → VK → Prop := fun vs H Q => ∃ (a : Addr) (xs : List V) (ds : List PyData), vs = [V.ref a] ∧ SqL K H a xs ∧ DpAll K H xs ds ∧ srtOk ds = true ∧
  ∀ p, H p = none → Q (.ref p) (upd H p (.lst ((sortP xs ds).map Prod.fst)))
theorem DpAll.len {K : PySem.W.Frag} {H : Hp} : ∀ {xs : List V} {ds : List PyData}, DpAll K H xs ds → xs.length = ds.length
  | _, _, .nil => rfl
  | _, _, .cons _ h => by rw [List.length_cons, List.length_cons, DpAll.len h]
section
variable {X : Cx}
theorem each_rel : ∀ {xs : List V} {us : List Value} {ds : List PyData}, Vals xs us → xs.length = ds.length → PySem.W.EachIs (fun (u : Value) (b : V × PyData) => RelV b.1 u) us (xs.zip ds)
  | [], _, [], .nil, _ => .nil
  | x :: xs, _, d :: ds, .cons r rs, h => .cons r (each_rel rs (Nat.succ.inj h))
theorem each_reads {pins : List (Addr × Obj)} {σ : St} {H : Hp} {s : Shared} (I : Inv X pins σ H s) : ∀ {xs : List V} {us : List Value} {ds : List PyData}, Vals xs us → DpAll X.K H xs ds → PySem.W.EachIs (fun (u : Value) (b : V × PyData) => ∃ as, Reads s.heap u b.2 as) us (xs.zip ds)
  | [], _, [], .nil, _ => .nil
  | x :: xs, _, d :: ds, .cons r rs, .cons h hs => .cons (Dp.reads I d x _ h r) (each_reads I rs hs)
theorem vals_each : ∀ {zs : List (V × PyData)} {us : List Value}, PySem.W.EachIs (fun (u : Value) (b : V × PyData) => RelV b.1 u) us zs → Vals (zs.map Prod.fst) us
  | [], _, .nil => .nil
  | _ :: _, _, .cons r rs => .cons r (vals_each rs)
theorem cr_sortedD (hu : X.A.units + 65 < cLine) : CallR X (.builtin "sorted") (rSortedD X.K) := by
  intro pins s σ H vs us Q I r h
  obtain ⟨a, xs, ds, rfl, hs, hd, ok, q⟩ := h
  obtain ⟨its, rv, hl, hz⟩ := I.list hs
  rw [Vals.ref1 r]
  have hlen := DpAll.len hd
  have hm : (xs.zip ds).map Prod.snd = ds := List.map_snd_zip (by omega)
  have hzl : (xs.zip ds).length = xs.length := by rw [List.length_zip]; omega
  refine PySem.W.sorted_data (β := V × PyData) (enc := Prod.snd) (R := fun u b => RelV b.1 u) hl.isList (each_rel rv hlen) (each_reads I rv hd) (by rw [hm]; exact srt_alike ok) (by rw [hm]; exact srt_able ok) (by rw [hzl]; exact hz) (fun b hb => ?_) fun out ho eo => ?_
  · have hb2 : b.2 ∈ ds := by rw [← hm]; exact List.mem_map.mpr ⟨b, hb, rfl⟩
    have := srt_dep ok b.2 hb2
    omega
  · obtain ⟨ep, he'⟩ := PyProof.Rows.sortedAll_at s.heap its out.toArray
    have hv := vals_each eo
    have hlen : ((sortP xs ds).map Prod.fst).length ≤ sizeLine := by
      unfold sortP
      rw [List.length_map, List.length_mergeSort, hzl]
      exact hz
    exact ⟨.ref _, upd H (s.heap.objs.size + 1) (.lst ((sortP xs ds).map Prod.fst)), I.laid (t' := s.toks) (fun _ _ => PyProof.Rows.sortedAll_old) (Nat.le_succ _) ⟨hlen, out, ep, hv, he'⟩, rfl, q _ (I.hok.fresh (Nat.le_succ _))⟩
end
section
variable {K : PySem.W.Frag} {Z : Zs} {H : Hp} {k : Nat}
theorem OwnAll.perm {l l' : List (V × PyData)} (h : l.Perm l') : ∀ {F : List Addr}, OwnAll K Z H k (l.map Prod.fst) (l.map Prod.snd) F → ∃ F', F'.Perm F ∧ OwnAll K Z H k (l'.map Prod.fst) (l'.map Prod.snd) F' := by
  induction h with
  | nil => exact fun h => ⟨_, List.Perm.refl _, h⟩
  | cons x _ ih =>
    intro F h
    rw [List.map_cons, List.map_cons] at h
    unfold OwnAll at h
    obtain ⟨v, vs', F1, F2, e, h1, h2, rfl⟩ := h
    obtain ⟨rfl, rfl⟩ := List.cons.inj e
    obtain ⟨F3, pm, h3⟩ := ih h2
    refine ⟨F1 ++ F3, pm.append_left F1, ?_⟩
    rw [List.map_cons, List.map_cons]
    unfold OwnAll
    exact ⟨_, _, F1, F3, rfl, h1, h3, rfl⟩
  | swap x y l =>
    intro F h
    rw [List.map_cons, List.map_cons, List.map_cons, List.map_cons] at h
    unfold OwnAll at h
    obtain ⟨v, vs', F1, F2, e, h1, h2, rfl⟩ := h
    obtain ⟨rfl, rfl⟩ := List.cons.inj e
    unfold OwnAll at h2
    obtain ⟨v, vs', F3, F4, e, h3, h4, rfl⟩ := h2
    obtain ⟨rfl, rfl⟩ := List.cons.inj e
    refine ⟨F3 ++ (F1 ++ F4), ?_, ?_⟩
    · rw [← List.append_assoc, ← List.append_assoc]
      exact List.perm_append_comm.append_right F4
    · rw [List.map_cons, List.map_cons, List.map_cons, List.map_cons]
      unfold OwnAll
      refine ⟨_, _, F3, F1 ++ F4, rfl, h3, ?_, rfl⟩
      unfold OwnAll
      exact ⟨_, _, F1, F4, rfl, h1, h4, rfl⟩
  | trans _ _ ih1 ih2 =>
    intro F h
    obtain ⟨F1, p1, h1⟩ := ih1 h
    obtain ⟨F2, p2, h2⟩ := ih2 h1
    exact ⟨F2, p2.trans p1, h2⟩
end
def gSortA (xs : List DV) : Res DV := match xs with
  | [x] => match x.1 with
    | .list ds => match intsD ds with
      | some ns => .ok (.list ((sortI ns).map .int), 10)
      | none => if srtOk ds then .ok (.list (sortD ds), depI x + 1) else .bad
    | _ => .bad
  | _ => .bad
section
variable {K : PySem.W.Frag}
theorem ok_sortA : CallOk K (fun xs H Q => rSortedI K xs H Q ∨ rSortedD K xs H Q) gSortA := by
  intro fv mv H Z Fs σ s' H1 Z1 Fs1 F vs xs z Q e p q
  unfold gSortA at e
  split at e
  · next x =>
    obtain ⟨xd, xk⟩ := x
    simp only at e
    split at e
    · next ds =>
      split at e
      · next bs eb =>
        cases e
        refine .inl ?_
        obtain ⟨v, rfl, h1⟩ := one_own p.held.pr
        obtain ⟨l, ws, G, rfl, r1, o1, sb⟩ := h1.sub
        rw [intsD_own eb o1] at r1
        refine ⟨l, bs, rfl, .inl r1, fun ns' pn pm sr hp => ?_⟩
        have e2 : ns' = sortI bs := srt_uniq (pm.trans (sortI_perm bs).symm) sr (sortI_srt bs)
        subst e2
        exact q _ _ _ _ (p.newL (stb_all K _ _) (F' := []) (k := 9) hp (List.nil_sublist _) fun Z2 mz m2 => own_ints _)
      · next eb =>
        split at e
        · next hc =>
          cases e
          refine .inr ?_
          obtain ⟨v, rfl, h1⟩ := one_own p.held.pr
          simp only at h1
          obtain ⟨l, ws, G, rfl, r1, o1, sb⟩ := h1.sub
          have hlen := OwnAll.len _ o1
          refine ⟨l, ws, ds, rfl, .inl r1, OwnAll.dp _ o1 (srt_ndc hc), hc, fun pn hp => ?_⟩
          obtain ⟨E1, t1, q1⟩ := OwnAll.to (m := depI (PyData.list ds, xk)) o1 (p.held.nd.sublist sb) (depI_ok (Nat.le_refl _))
          have S1 : ∀ ws ds, Stb (fun Z H F => OwnAll K Z H (depI (PyData.list ds, xk)) ws ds F) := fun ws ds => ⟨fun h k => OwnAll.keep _ h k, fun h m => OwnAll.zmono _ h m, fun h => OwnAll.isl _ h⟩
          have p0 := p.shared (stb_all K _ _) (F' := E1) (t1.trans sb) (P' := fun Z H F => OwnAll K Z H (depI (PyData.list ds, xk)) ws ds F) (q1 _ (fun a z => z.imp (fun z => .inl z) id) fun a ha hn => .inl (.inr ⟨sb.subset ha, hn⟩))
          have m1 : (ws.zip ds).map Prod.fst = ws := List.map_fst_zip (by omega)
          have m2 : (ws.zip ds).map Prod.snd = ds := List.map_snd_zip (by omega)
          have pr0 := p0.held.pr
          have pm : (ws.zip ds).Perm (sortP ws ds) := (List.mergeSort_perm _ _).symm
          obtain ⟨E2, pe, ho⟩ := OwnAll.perm (l := ws.zip ds) pm (by rw [m1, m2]; exact pr0)
          have m3 : (sortP ws ds).map Prod.snd = sortD ds := by
            unfold sortP sortD
            rw [List.map_mergeSort (r := PySem.W.dataLe false Prod.snd) (s := PySem.W.dataLe false id) (fun a _ b _ => rfl), m2]
          rw [m3] at ho
          have p1 : Post K (fun Z H F => OwnAll K Z H (depI (PyData.list ds, xk)) ((sortP ws ds).map Prod.fst) (sortD ds) F) fv mv H Z Fs σ s' H1 (Zp Z1 F E1) Fs1 E2 :=
            ⟨p0.tr, p0.good, ⟨ho, pe.nodup_iff.mpr p0.held.nd, fun a ha => p0.held.nf a (pe.mem_iff.mp ha), fun a ha => p0.held.nz a (pe.mem_iff.mp ha)⟩, fun a ha => p0.new a (pe.mem_iff.mp ha)⟩
          exact q _ _ _ _ (p1.newL ⟨fun h k => OwnAll.keep _ h k, fun h m => OwnAll.zmono _ h m, fun h => OwnAll.isl _ h⟩ (F' := E2) hp (List.Sublist.refl _) fun Z2 mz m2 => OwnAll.zmono _ ho mz)
        · cases e
    · cases e
  · cases e
end
section
variable {X : Cx} {e : Expr} {p pos : Pos} {fv mv : List Nat} {io : List (Nat × Nat)} {fs : Exs} {k : Nat}
theorem cr_sortA (hu : X.A.units + 65 < cLine) : CallR X (.builtin "sorted") (fun xs H Q => rSortedI X.K xs H Q ∨ rSortedD X.K xs H Q) := fun pins s σ H vs us Q I r h => by
  rcases h with h | h
  · exact cr_sortedI pins s σ H vs us Q I r h
  · exact cr_sortedD hu pins s σ H vs us Q I r h
theorem xsortedA (hr : Room k X.A) (hm : X.mg "sorted" = none) (ha : PA X [e] (tA X.K fv mv io fs)) (hg : Gl X "sorted" := by rfl) (he : starEach [e] X.env = (false, eval e X.env) :: starEach [] X.env := by rfl) (hpl : (backTo pos (starEach [] X.env)).any (·.1) = false := by rfl) : PE X (.Call (.Name "sorted" p) [e] [] pos) (tE X.K fv mv (evN gSortA fs)) := re_callB (cr_sortA (hu65 hr)) ok_sortA hg hm (by decide +kernel) ha (by decide) (by decide) he hpl
end
end Sq
end

section
namespace Sq
open PySem PySem.Spec L2
/-! ### two places set at once, by numbers -/
def sSet2 (f : Ex) (i1 : Nat) (p1 : Pth) (x1 : Ex) (i2 : Nat) (p2 : Pth) (x2 : Ex) : Sx := fun s => do
  let (x, s) ← f s
  match x.1 with
  | .tuple [.int a, .int b] => sSeq (sSet i1 [] (eC (.int a)) p1 x1) (sSet i2 [] (eC (.int b)) p2 x2) s
  | _ => .bad
section
variable {X : Cx} {o o' ix ix' e : Expr} {pos tpos tpos' qpos : Pos} {i i' : Nat} {mva mvx fvx mva' mvx' fvx' fv mv : List Nat} {fp fp' : Pth} {fx fx' f : Ex}
def tGI (K : PySem.W.Frag) (i : Nat) (mv : List Nat) (p : Pth) (ix : Ex) : TG := fun v σ H Q => ∃ a Z s Fs fl s', v = .int a ∧ Good K Z H σ s Fs ∧ sSet i [] (eC (.int a)) p ix s = .ok (fl, s') ∧ ∀ H' Z' Fs', PostS K [] mv σ H Z Fs σ s' H' Z' Fs' → Q σ H'
theorem sSet_next {a : Ex} {s : SD} {fl : Fl} {s' : SD} (h : sSet i fv a fp fx s = .ok (fl, s')) : fl = .next := by
  unfold sSet at h
  obtain ⟨⟨x, s1⟩, ea, h⟩ := Res.bind_eq_ok.mp h
  obtain ⟨⟨js, s2⟩, eb, h⟩ := Res.bind_eq_ok.mp h
  obtain ⟨⟨y, s3⟩, ey, h⟩ := Res.bind_eq_ok.mp h
  obtain ⟨yd, yk⟩ := y
  cases yd with
  | int n =>
    obtain ⟨s4, ec, h⟩ := Res.bind_eq_ok.mp h
    cases h
    rfl
  | _ => cases h
theorem rg_putI (ho : PE X o (tP X.K i mva fp)) (hi : PE X ix (tE X.K fvx mvx fx)) (d2 : djn [i] mvx = true)
    (hs : PG X (.Subscript o ix tpos) (L2.gSub (tP X.K i mva fp) (tE X.K fvx mvx fx) rSetL)) : PG X (.Subscript o ix tpos) (tGI X.K i ((mva ++ mvx) ++ [i]) fp fx) := by
  refine PG.of hs fun v σ H Q h => ?_
  obtain ⟨a, Z, s, Fs, fl, s', rfl, gd, e, q⟩ := h
  unfold sSet at e
  obtain ⟨⟨x, s1⟩, ea, e⟩ := Res.bind_eq_ok.mp e
  cases ea
  obtain ⟨⟨js, s2⟩, eb, e⟩ := Res.bind_eq_ok.mp e
  obtain ⟨⟨y, s3⟩, ey, e⟩ := Res.bind_eq_ok.mp e
  obtain ⟨yd, yk⟩ := y
  cases yd with
  | int n =>
    obtain ⟨s4, ec, e⟩ := Res.bind_eq_ok.mp e
    cases e
    have ni : i ∉ mvx := djn_ok d2 i (List.mem_singleton.mpr rfl)
    refine ⟨Z, s, Fs, js, s2, gd, eb, fun u H2 Z2 Fs2 p2 ⟨v0, ev0, r2⟩ => ⟨Z2, s2, Fs2, _, s3, p2.good, ey, fun w H3 Z3 Fs3 F3 p3 => ?_⟩⟩
    have pp := ((p2.seq p3.nothing).fv0).sc (v := .int a) (x := (.int a, 0)) int_own
    obtain ⟨Z4, Fs4, p4, f4⟩ := pp.settle
    have r3 := r2.on p2.good p3.tr ni
    obtain ⟨pa', ws, ds, ds', e1, h2, hl, _, eo, fin⟩ := chg_ok (lows_one X.K (.int a) (.int a, 0)) (stb_one _ _ _) p4 ec ev0 (u := u) (js := js) (fun dd kk ee nk => by
      rcases f4 i with z | z
      · rw [z]; exact r3
      · exact absurd (z dd kk ee) nk)
    unfold opSet at eo
    cases ej : ixN ds.length n with
    | none => rw [ej] at eo; cases eo
    | some j =>
      rw [ej] at eo
      cases eo
      obtain ⟨Z5, Fs5, p5⟩ := fin (ws.set j (.int a)) fun Zq Hq m G Fx o1 o2 nd => OwnAll.setAt ds j o1 o2 nd
      exact ⟨pa', ws, n, j, e1, own_int p3.held.pr, h2, by rw [hl]; exact ej, q _ Z5 Fs5 (p5.weak (fun _ h => h) fun l hl => by simpa using hl)⟩
  | _ => cases e
theorem rs_put2 {k : Nat} (hc : X.calm = true) (he : PE X e (tE X.K fv mv f)) (ho : PE X o (tP X.K i mva fp)) (hi : PE X ix (tE X.K fvx mvx fx)) (ho' : PE X o' (tP X.K i' mva' fp')) (hi' : PE X ix' (tE X.K fvx' mvx' fx'))
    (hs : PG X (.Subscript o ix tpos) (L2.gSub (tP X.K i mva fp) (tE X.K fvx mvx fx) rSetL)) (hs' : PG X (.Subscript o' ix' tpos') (L2.gSub (tP X.K i' mva' fp') (tE X.K fvx' mvx' fx') rSetL))
    (d2 : djn [i] mvx = true := by rfl) (d2' : djn [i'] mvx' = true := by rfl)
    (h1 : (assignEach [.Subscript o ix tpos, .Subscript o' ix' tpos'] X.env).map (·.2) = assign (.Subscript o ix tpos) X.env :: (assignEach [.Subscript o' ix' tpos'] X.env).map (·.2) := by rfl)
    (h2 : (assignEach [.Subscript o' ix' tpos'] X.env).map (·.2) = assign (.Subscript o' ix' tpos') X.env :: (assignEach [] X.env).map (·.2) := by rfl)
    (hn : (assignEach [.Subscript o ix tpos, .Subscript o' ix' tpos'] X.env).length = 2 := by rfl) (hst : (assignEach [.Subscript o ix tpos, .Subscript o' ix' tpos'] X.env).findIdx? (·.1) = none := by rfl)
    (hsw : swapsWithSole [.Tuple [.Subscript o ix tpos, .Subscript o' ix' tpos'] k qpos] e pos.line X.env = pure false := by rfl) (hw : swappedStores [.Tuple [.Subscript o ix tpos, .Subscript o' ix' tpos'] k qpos] e X.env = pure none := by rfl) :
    PS X (.Assign [.Tuple [.Subscript o ix tpos, .Subscript o' ix' tpos'] k qpos] e pos) (tS X.K [] (mv ++ (((mva ++ mvx) ++ [i]) ++ ((mva' ++ mvx') ++ [i']))) (sSet2 f i fp fx i' fp' fx')) := by
  refine PS.of (ps_asg he (pg_tup hc (pgs_cons (rg_putI ho hi d2 hs) (pgs_cons (rg_putI ho' hi' d2' hs') pgs_nil h2) h1) hn hst) hsw hw) fun D σ H h => ?_
  obtain ⟨Z, s, Fs, fl, s', gd, e, q⟩ := h
  unfold sSet2 at e
  obtain ⟨⟨x, s1⟩, ea, e⟩ := Res.bind_eq_ok.mp e
  obtain ⟨xd, xk⟩ := x
  simp only at e
  split at e
  · next a b =>
    unfold sSeq at e
    obtain ⟨⟨fl1, s2⟩, e1, e⟩ := Res.bind_eq_ok.mp e
    cases sSet_next e1
    have e2 : sSet i' [] (eC (.int b)) fp' fx' s2 = .ok (fl, s') := e
    cases sSet_next e2
    refine ⟨Z, s, Fs, _, s1, gd, ea, fun v H1 Z1 Fs1 F1 p1 => ?_⟩
    have ow : Own X.K (Zf Z1 Fs1 fv) H1 xk v (.tuple [.int a, .int b]) F1 := p1.held.pr
    unfold Own at ow
    obtain ⟨p, vs, rfl, r, hs⟩ := ow
    have ev := intsD_own (ns := [a, b]) rfl hs
    subst ev
    refine ⟨p, _, rfl, r, rfl, .int a, [.int b], rfl, a, Z1, s1, Fs1, .next, s2, rfl, p1.good, e1, fun H2 Z2 Fs2 p2 => ⟨.int b, [], rfl, b, Z2, s2, Fs2, .next, s', rfl, p2.good, e2, fun H3 Z3 Fs3 p3 => ⟨rfl, ?_⟩⟩⟩
    have P0 : PostS X.K [] mv σ H Z Fs σ s1 H1 Z1 Fs1 := ⟨p1.tr, p1.good, fun _ _ => rfl, rfl⟩
    exact q σ H3 Z3 Fs3 (P0.trans (p2.trans p3))
  · cases e
end
/-! ### x in (1, 2), t + u, lists of numbers in order -/
theorem plain_ints : ∀ ns : List Int, PyData.plainAll (ns.map .int) = true
  | [] => by rw [List.map_nil, PyData.plainAll]
  | n :: ns => by rw [List.map_cons, PyData.plainAll, plain_ints ns, PyData.plain]; rfl
def gInT (x y : DV) : Res DV := match x.1, y.1 with
  | .int i, .tuple ds => match intsD ds with
    | some ns => .ok (.bool (decide (i ∈ ns)), 0)
    | none => .bad
  | _, _ => .bad
def gCatT (x y : DV) : Res DV := match x.1, y.1 with
  | .tuple as, .tuple bs => match intsD as, intsD bs with
    | some (n :: ns), some (m :: ms) => if small ((n :: ns).length + (m :: ms).length) then .ok (.tuple (((n :: ns) ++ (m :: ms)).map .int), 10) else .bad
    | _, _ => .bad
  | _, _ => .bad
def gLtL (x y : DV) : Res DV := match x.1, y.1 with
  | .list as, .list bs => match intsD as, intsD bs with
    | some ns, some ms => .ok (.bool (decide (ns < ms)), 0)
    | _, _ => .bad
  | _, _ => .bad
theorem any_ints (i : Int) : ∀ ns : List Int, ((ns.map PyData.int).any fun y => PyData.eqv y (.int i)) = decide (i ∈ ns)
  | [] => by simp
  | n :: ns => by
    rw [List.map_cons, List.any_cons, any_ints i ns, PyData.eqv]
    by_cases h : n = i
    · subst h; simp
    · have h' : ¬ i = n := fun z => h z.symm
      simp [h, h']
theorem intsD_is : ∀ {ds : List PyData} {ns : List Int}, intsD ds = some ns → ds = ns.map .int
  | [], ns, h => by cases h; rfl
  | d :: ds, ns, h => by
    cases d with
    | int i =>
      unfold intsD at h
      cases e : intsD ds with
      | none => rw [e] at h; cases h
      | some is => rw [e] at h; cases h; rw [List.map_cons, intsD_is e]
    | _ => cases h
section
variable {X : Cx}
def rInT (K : PySem.W.Frag) : R2 := fun x y H Q => ∃ (i : Int) (ns : List Int), x = .int i ∧ Dp K H y (.tuple (ns.map .int)) ∧ Q (.bl (decide (i ∈ ns))) H
theorem op_inT (hu : X.A.units + 65 < cLine) : OpR X (compareOp .In) (rInT X.K) := by
  intro pins s σ H x y v u Q I rx ry h
  obtain ⟨i, ns, rfl, he, q⟩ := h
  obtain ⟨bs, r2⟩ := Dp.reads I _ y u he ry
  obtain ⟨as, r1⟩ := Dp.reads I (.int i) (.int i) v (.int i) rx
  refine PySem.SeqAt.in_tuple_data r2 r1 (plain_ints ns) (by rw [PyData.plain]) (by rw [PySem.W.depth_ints]; omega) ?_
  rw [any_ints]
  exact ⟨.bl _, H, I, rfl, q⟩
def rLtL (K : PySem.W.Frag) : R2 := fun x y H Q => ∃ ns ms : List Int, Dp K H x (.list (ns.map .int)) ∧ Dp K H y (.list (ms.map .int)) ∧ Q (.bl (decide (ns < ms))) H
theorem op_ltL (hu : X.A.units + 65 < cLine) : OpR X (compareOp .Lt) (rLtL X.K) := by
  intro pins s σ H x y v u Q I rx ry h
  obtain ⟨ns, ms, hd, he, q⟩ := h
  obtain ⟨as, r1⟩ := Dp.reads I _ x v hd rx
  obtain ⟨bs, r2⟩ := Dp.reads I _ y u he ry
  refine PySem.W.lt_data r1 r2 (by rw [PySem.W.alike]; exact PySem.W.alike_ints ns ms) (fun h => nomatch h) (by rw [PyData.depth, PyData.depth, PySem.W.depth_ints, PySem.W.depth_ints]; omega) ?_
  rw [PySem.W.dataLt_list]
  have := PySem.W.dataLt_ints ns ms
  unfold PySem.W.rowLt at this
  rw [this]
  exact ⟨.bl _, H, I, rfl, q⟩
end
section
variable {K : PySem.W.Frag}
theorem ok_inT : OpOk K (rInT K) gInT := by
  intro fv mv H Z Fs σ s' H1 Z1 Fs1 F v w x y z Q e p q
  obtain ⟨F1, F2, h1, h2, eF⟩ := two_own p.held.pr
  obtain ⟨xd, xk⟩ := x
  obtain ⟨yd, yk⟩ := y
  unfold gInT at e
  simp only at e
  split at e
  · next i ds =>
    cases eb : intsD ds with
    | none => rw [eb] at e; cases e
    | some ns =>
      rw [eb] at e
      cases e
      have hd := Own.dp _ h2 (by simp only; rw [ndc, intsD_is eb]; exact ndc_ints ns)
      simp only at hd
      rw [intsD_is eb] at hd
      exact ⟨i, ns, own_int h1, hd, q _ _ _ _ (p.sc bl_own)⟩
  · cases e
theorem ok_ltL : OpOk K (rLtL K) gLtL := by
  intro fv mv H Z Fs σ s' H1 Z1 Fs1 F v w x y z Q e p q
  obtain ⟨F1, F2, h1, h2, eF⟩ := two_own p.held.pr
  obtain ⟨xd, xk⟩ := x
  obtain ⟨yd, yk⟩ := y
  unfold gLtL at e
  simp only at e
  split at e
  · next as bs =>
    cases ea : intsD as with
    | none => rw [ea] at e; cases e
    | some ns =>
      cases eb : intsD bs with
      | none => rw [ea, eb] at e; cases e
      | some ms =>
        rw [ea, eb] at e
        cases e
        have hd := Own.dp _ h1 (by simp only; rw [ndc, intsD_is ea]; exact ndc_ints ns)
        have he := Own.dp _ h2 (by simp only; rw [ndc, intsD_is eb]; exact ndc_ints ms)
        simp only at hd he
        rw [intsD_is ea] at hd
        rw [intsD_is eb] at he
        exact ⟨ns, ms, hd, he, q _ _ _ _ (p.sc bl_own)⟩
  · cases e
theorem ok_catT : OpOk K (rCatT K) gCatT := by
  intro fv mv H Z Fs σ s' H1 Z1 Fs1 F v w x y z Q e p q
  obtain ⟨F1, F2, h1, h2, eF⟩ := two_own p.held.pr
  obtain ⟨xd, xk⟩ := x
  obtain ⟨yd, yk⟩ := y
  unfold gCatT at e
  simp only at e
  split at e
  · next as bs =>
    split at e
    · next n ns m ms ea eb =>
      split at e
      · next hc =>
        cases e
        simp only at h1 h2
        unfold Own at h1 h2
        obtain ⟨a, us, rfl, r1, o1⟩ := h1
        obtain ⟨b, ws, rfl, r2, o2⟩ := h2
        rw [intsD_own ea o1] at r1
        rw [intsD_own eb o2] at r2
        refine ⟨a, b, _, _, rfl, rfl, r1, r2, by simp, ?_, fun h => absurd h (by simp), fun _ pn hp => ?_⟩
        · rw [List.length_map, List.length_map, sizeLine_eq]
          have := of_decide_eq_true hc
          omega
        · rw [← List.map_append]
          exact q _ _ _ _ (p.newT (stb_all K _ _) (F' := []) (k := 9) hp (List.nil_sublist _) fun Z2 mz m2 => own_ints _)
      · cases e
    · cases e
  · cases e
end
section
variable {X : Cx} {a b : Expr} {pos : Pos} {fva fvb mva mvb : List Nat} {fa fb : Ex} {k : Nat}
theorem xinT (hr : Room k X.A) (ha : PE X a (tE X.K fva mva fa)) (hb : PE X b (tE X.K fvb mvb fb)) (d : djn fva mvb = true := by rfl) (hm : behindInMarks .In b = false := by rfl) : PE X (.Compare a [.In] [b] pos) (tE X.K (fva ++ fvb) (mva ++ mvb) (ev2 gInT fa fb)) := re_cmp (op_inT (hu65 hr)) ok_inT ha hb d hm
theorem xltL (hr : Room k X.A) (ha : PE X a (tE X.K fva mva fa)) (hb : PE X b (tE X.K fvb mvb fb)) (d : djn fva mvb = true := by rfl) (hm : behindInMarks .Lt b = false := by rfl) : PE X (.Compare a [.Lt] [b] pos) (tE X.K (fva ++ fvb) (mva ++ mvb) (ev2 gLtL fa fb)) := re_cmp (op_ltL (hu65 hr)) ok_ltL ha hb d hm
theorem zinT (hr : Room k X.A) (ha : PE X a (tE X.K fva mva fa)) (hb : PE X b (tE X.K fvb mvb fb)) (d : djn fva mvb = true := by rfl) (hm : behindInMarks .In b = false := by rfl) : PT X (.Compare a [.In] [b] pos) (tT X.K (mva ++ mvb) (tst (ev2 gInT fa fb))) := rt_cmp (op_inT (hu65 hr)) ok_inT ha hb d hm
theorem zltL (hr : Room k X.A) (ha : PE X a (tE X.K fva mva fa)) (hb : PE X b (tE X.K fvb mvb fb)) (d : djn fva mvb = true := by rfl) (hm : behindInMarks .Lt b = false := by rfl) : PT X (.Compare a [.Lt] [b] pos) (tT X.K (mva ++ mvb) (tst (ev2 gLtL fa fb))) := rt_cmp (op_ltL (hu65 hr)) ok_ltL ha hb d hm
theorem xcatT (ha : PE X a (tE X.K fva mva fa)) (hb : PE X b (tE X.K fvb mvb fb)) (d : djn fva mvb = true := by rfl) : PE X (.BinOp a .Add b pos) (tE X.K (fva ++ fvb) (mva ++ mvb) (ev2 gCatT fa fb)) := re_op op_catT ok_catT ha hb d
end
end Sq
end

section
namespace Sq
open PySem PySem.Spec L2
/-! ### plain reckoning with the worths -/
section
variable {s : SD} {i : Nat} {fv mv : List Nat} {a b : Ex} {as : Exs} {g2 : DV → DV → Res DV} {g1 : DV → Res DV} {gn : List DV → Res DV} {x : DV} {c d : Tst} {p q : Sx}
@[simp] theorem qC (t : PyData) : eC t s = .ok ((t, 0), s) := rfl
@[simp] theorem qVar : eVar i s = (slot s i >>= fun x => .ok ((x.1, 0), s)) := rfl
@[simp] theorem qMove : eMove i s = (slot s i >>= fun x => .ok (x, s.set i none)) := rfl
@[simp] theorem q2 : ev2 g2 a b s = (a s >>= fun x => b x.2 >>= fun y => g2 x.1 y.1 >>= fun z => .ok (z, y.2)) := rfl
@[simp] theorem q1 : ev1 g1 a s = (a s >>= fun x => g1 x.1 >>= fun z => .ok (z, x.2)) := rfl
@[simp] theorem qN : evN gn as s = (as s >>= fun x => gn x.1 >>= fun z => .ok (z, x.2)) := rfl
@[simp] theorem qNil : eNil s = .ok ([], s) := rfl
@[simp] theorem qCons : eCons a as s = (a s >>= fun x => as x.2 >>= fun y => .ok (x.1 :: y.1, y.2)) := rfl
@[simp] theorem qCall {g : Fn} {bk : List (Nat × Nat)} : evCall g bk as s = (as s >>= fun x => g x.1 >>= fun z => .ok (z.1, putBack z.2 bk x.2)) := rfl
@[simp] theorem qTst : tst a s = (a s >>= fun x => match x.1.1 with | .bool b => .ok (b, x.2) | _ => .bad) := rfl
@[simp] theorem qAnd2 : tAnd2 c d s = (c s >>= fun x => if x.1 then d x.2 else .ok (false, x.2)) := rfl
@[simp] theorem qOr2 : tOr2 c d s = (c s >>= fun x => if x.1 then .ok (true, x.2) else d x.2) := rfl
@[simp] theorem qNot2 : tNot2 c s = (c s >>= fun x => .ok (!x.1, x.2)) := rfl
@[simp] theorem qYes2 : tYes2 s = .ok (true, s) := rfl
@[simp] theorem qAnd : evAnd a b s = (a s >>= fun x => match x.1.1 with | .bool true => b x.2 | .bool false => .ok ((.bool false, 0), x.2) | _ => .bad) := rfl
@[simp] theorem qOr : evOr a b s = (a s >>= fun x => match x.1.1 with | .bool true => .ok ((.bool true, 0), x.2) | .bool false => b x.2 | _ => .bad) := rfl
@[simp] theorem qAsg : sAsg i fv a s = (a s >>= fun x => .ok (.next, (settle fv x.1 x.2).set i (some x.1))) := rfl
@[simp] theorem qExpr : sExpr a s = (a s >>= fun x => .ok (.next, x.2)) := rfl
@[simp] theorem qRet : sRet fv a s = (a s >>= fun x => .ok (.ret x.1, settle fv x.1 x.2)) := rfl
@[simp] theorem qSkip : sSkip s = .ok (.next, s) := rfl
@[simp] theorem qIf : sIf c p q s = (c s >>= fun t => if t.1 then p t.2 else q t.2) := rfl
theorem qSeq : sSeq p q s = (p s >>= fun t => match t.1 with | .next => q t.2 | fl => .ok (fl, t.2)) := rfl
theorem seq_next {s' : SD} (h : p s = .ok (.next, s')) : sSeq p q s = q s' := by rw [qSeq, h]; rfl
theorem seq_ret {s' : SD} (h : p s = .ok (.ret x, s')) : sSeq p q s = .ok (.ret x, s') := by rw [qSeq, h]; rfl
@[simp] theorem qFor {bd : Bd} {it : Src} : sFor bd fv it p s = (it s >>= fun x => loopF bd p x.1 (demote fv x.2)) := rfl
@[simp] theorem full_int (n : Int) (k : Nat) : full (.int n, k) = true := by simp [full, hgt]
@[simp] theorem full_bl (n : Bool) (k : Nat) : full (.bool n, k) = true := by simp [full, hgt]
@[simp] theorem full_str (n : Str) (k : Nat) : full (.str n, k) = true := by simp [full, hgt]
@[simp] theorem full_none (k : Nat) : full (.none, k) = true := by simp [full, hgt]
@[simp] theorem dep_int (n : Int) (k : Nat) : dep (.int n, k) = 9 := by simp [dep]
@[simp] theorem dep_bl (n : Bool) (k : Nat) : dep (.bool n, k) = 9 := by simp [dep]
@[simp] theorem dep_str (n : Str) (k : Nat) : dep (.str n, k) = 9 := by simp [dep]
@[simp] theorem slot0 {o : DV} {r : SD} : slot (some o :: r) 0 = .ok o := rfl
@[simp] theorem slotS {o : Option DV} {r : SD} : slot (o :: r) (i + 1) = slot r i := by simp [slot]
theorem settle_full (h : full x = true) : settle fv x s = s := by simp [settle, h]
@[simp] theorem settle_int (n : Int) (k : Nat) : settle fv (.int n, k) s = s := settle_full (full_int ..)
@[simp] theorem settle_bl (n : Bool) (k : Nat) : settle fv (.bool n, k) s = s := settle_full (full_bl ..)
@[simp] theorem putBack0 (f : SD) : putBack f [] s = s := rfl
@[simp] theorem putBack1 (f : SD) (j : Nat) : putBack f [(j, i)] s = s.set i (keepFull ((f[j]?).getD none)) := rfl
theorem keep_full (h : full x = true) : keepFull (some x) = some x := by simp [keepFull, h]
@[simp] theorem hgtAll_ints (ns : List Int) : hgtAll (ns.map .int) = 0 := by
  induction ns with
  | nil => rfl
  | cons n ns ih => simp [hgtAll, hgt, ih]
@[simp] theorem hgt_ints (ns : List Int) : hgt (.list (ns.map .int)) = 1 := by simp [hgt]
/-- a loop that holds an invariant and never ends early -/
theorem loopF_inv {bd : Bd} {body : Sx} (I : SD → Prop) (ds : List PyData) (step : ∀ d ∈ ds, ∀ s, I s → ∃ s1 s2, bd (d, 0) s = .ok s1 ∧ body s1 = .ok (.next, s2) ∧ I s2) : ∀ s, I s → ∃ s', loopF bd body ds s = .ok (.next, s') ∧ I s' := by
  induction ds with
  | nil => exact fun s h => ⟨s, rfl, h⟩
  | cons d ds ih =>
    intro s h
    obtain ⟨s1, s2, e1, e2, h2⟩ := step d (List.mem_cons_self ..) s h
    obtain ⟨s', e, h'⟩ := ih (fun d hd => step d (List.mem_cons_of_mem _ hd)) s2 h2
    exact ⟨s', by rw [loopF, e1, Res.bind_ok, e2]; exact e, h'⟩
theorem defn_ret {n np : Nat} {asg : List Nat} {xs : List DV} {s0 s' : SD} (h0 : start1 n xs = s0) (h : p s0 = .ok (.ret x, s')) (hl : xs.length = np := by rfl) : defn n np asg p xs = .ok (x, finP np asg s') := by
  unfold defn
  rw [if_pos hl, h0, h]
  rfl
theorem seq_assoc {r : Sx} : sSeq (sSeq p q) r s = sSeq p (sSeq q r) s := by
  rw [qSeq, qSeq, qSeq]
  cases h : p s with
  | ok t =>
    obtain ⟨fl, t⟩ := t
    cases fl <;> simp only [Res.bind_ok, qSeq]
  | exc c p => rfl
  | bad => rfl
theorem seq_assocF {r : Sx} : sSeq (sSeq p q) r = sSeq p (sSeq q r) := funext fun _ => seq_assoc
/-- what is left when a run goes on -/
def nx (r : Res (Fl × SD)) : Option SD := match r with
  | .ok (.next, s) => some s
  | _ => none
theorem nx_ok {r : Res (Fl × SD)} {s' : SD} (h : nx r = some s') : r = .ok (.next, s') := by
  unfold nx at h
  split at h
  · cases h; rfl
  · cases h
theorem nx_view {α : Type} {r : Res (Fl × SD)} {f : SD → α} {a : α} (h : (nx r).map f = some a) : ∃ s', r = .ok (.next, s') ∧ f s' = a := by
  cases e : nx r with
  | none => rw [e] at h; cases h
  | some s' => rw [e] at h; exact ⟨s', nx_ok e, Option.some.inj h⟩
end
end Sq
end

section
namespace Sq
open PySem PySem.Spec L2
/-! ### typed things: how they are data -/
class Enc (α : Type) where
  enc : α → PyData
  hm : Nat
  wf : α → Prop
  hgt_le : ∀ x, hgt (enc x) ≤ hm
open Enc (enc hm wf hgt_le)
theorem hgtAll_le {ds : List PyData} {m : Nat} (h : ∀ d ∈ ds, hgt d ≤ m) : hgtAll ds ≤ m := by
  induction ds with
  | nil => exact Nat.zero_le _
  | cons d ds ih =>
    rw [hgtAll]
    exact Nat.max_le.mpr ⟨h d (List.mem_cons_self ..), ih fun e he => h e (List.mem_cons_of_mem _ he)⟩
theorem hgtAll_map {α : Type} [Enc α] (xs : List α) : hgtAll (xs.map enc) ≤ hm α := hgtAll_le fun d hd => by
  obtain ⟨x, _, rfl⟩ := List.mem_map.mp hd
  exact hgt_le x
instance instEncInt : Enc Int := ⟨.int, 0, fun _ => True, fun _ => by simp [hgt]⟩
instance instEncBool : Enc Bool := ⟨.bool, 0, fun _ => True, fun _ => by simp [hgt]⟩
instance instEncUnit : Enc Unit := ⟨fun _ => .none, 0, fun _ => True, fun _ => by simp [hgt]⟩
instance instEncStr : Enc Str := ⟨.str, 0, fun s => PyData.canLay0 (.str s) = true ∧ s.length ≤ 1000000, fun _ => by simp [hgt]⟩
instance instEncList {α : Type} [Enc α] : Enc (List α) := ⟨fun xs => .list (xs.map enc), hm α + 1, fun xs => xs.length ≤ 1000000 ∧ ∀ x ∈ xs, wf x, fun xs => by
  rw [hgt]
  exact Nat.succ_le_succ (hgtAll_map xs)⟩
def upT (n : Nat) : Nat := match n with
  | 0 => 0
  | n + 1 => n + 2
theorem hgt_tup {ds : List PyData} {m : Nat} (h : ∀ d ∈ ds, hgt d ≤ m) : hgt (.tuple ds) ≤ upT m := by
  have h := hgtAll_le h
  rw [hgt]
  unfold upT
  split
  · exact Nat.zero_le _
  · cases m with
    | zero => omega
    | succ m => show _ ≤ m + 2; omega
instance instEncProd {α β : Type} [Enc α] [Enc β] : Enc (α × β) := ⟨fun p => .tuple [enc p.1, enc p.2], upT (max (hm α) (hm β)), fun p => wf p.1 ∧ wf p.2, fun p => hgt_tup fun d hd => by
  have a := hgt_le p.1
  have b := hgt_le p.2
  simp only [List.mem_cons, List.not_mem_nil, or_false] at hd
  rcases hd with rfl | rfl <;> omega⟩
structure P3 (α β γ : Type) where
  a : α
  b : β
  c : γ
deriving DecidableEq
structure P4 (α β γ δ : Type) where
  a : α
  b : β
  c : γ
  d : δ
deriving DecidableEq
instance instEncP3 {α β γ : Type} [Enc α] [Enc β] [Enc γ] : Enc (P3 α β γ) := ⟨fun p => .tuple [enc p.a, enc p.b, enc p.c], upT (max (hm α) (max (hm β) (hm γ))), fun p => wf p.a ∧ wf p.b ∧ wf p.c, fun p => hgt_tup fun d hd => by
  have a := hgt_le p.a
  have b := hgt_le p.b
  have c := hgt_le p.c
  simp only [List.mem_cons, List.not_mem_nil, or_false] at hd
  rcases hd with rfl | rfl | rfl <;> omega⟩
instance instEncP4 {α β γ δ : Type} [Enc α] [Enc β] [Enc γ] [Enc δ] : Enc (P4 α β γ δ) := ⟨fun p => .tuple [enc p.a, enc p.b, enc p.c, enc p.d], upT (max (max (hm α) (hm β)) (max (hm γ) (hm δ))), fun p => wf p.a ∧ wf p.b ∧ wf p.c ∧ wf p.d, fun p => hgt_tup fun d hd => by
  have a := hgt_le p.a
  have b := hgt_le p.b
  have c := hgt_le p.c
  have e := hgt_le p.d
  simp only [List.mem_cons, List.not_mem_nil, or_false] at hd
  rcases hd with rfl | rfl | rfl | rfl <;> omega⟩
instance instEncOpt {α : Type} [Enc α] : Enc (Option α) := ⟨fun o => match o with
  | none => .none
  | some x => enc x, hm α, fun o => ∀ x, o = some x → wf x, fun o => by
  cases o with
  | none => simp [hgt]
  | some x => exact hgt_le x⟩
instance instEncSum {α β : Type} [Enc α] [Enc β] : Enc (α ⊕ β) := ⟨fun o => match o with
  | .inl x => enc x
  | .inr x => enc x, max (hm α) (hm β), fun o => match o with
  | .inl x => wf x
  | .inr x => wf x, fun o => by
  cases o with
  | inl x => exact Nat.le_trans (hgt_le x) (Nat.le_max_left _ _)
  | inr x => exact Nat.le_trans (hgt_le x) (Nat.le_max_right _ _)⟩
theorem full_enc {α : Type} [Enc α] (x : α) {k : Nat} (h : hm α ≤ k) : full (enc x, k) = true := decide_eq_true (Nat.le_trans (hgt_le x) h)
def dpt (h m : Nat) : Nat := if h ≤ m then 9 else min 9 m
theorem dep_enc {α : Type} [Enc α] (x : α) {m k : Nat} (h : m ≤ k) : dpt (hm α) m ≤ dep (enc x, k) := by
  unfold dpt dep
  split
  · rename_i h1
    rw [if_pos (full_enc x (Nat.le_trans h1 h))]
    exact Nat.le_refl _
  · split
    · exact Nat.min_le_left _ _
    · exact Nat.le_trans (Nat.min_le_right _ _) h
/-- how deep the items are one's own -/
def dpi (h m : Nat) : Nat := if h + 1 ≤ m then 9 else if h = 0 then 9 else min 9 (m - 1)
theorem depI_enc {α : Type} [Enc α] (xs : List α) {m k : Nat} (h : m ≤ k) : dpi (hm α) m ≤ depI (enc xs, k) := by
  have hx : hgt (enc xs) ≤ hm α + 1 := hgt_le xs
  unfold dpi depI
  by_cases h1 : (full (enc xs, k) || decide (hgt (enc xs, k).1 ≤ 1)) = true
  · rw [if_pos h1]
    split
    · exact Nat.le_refl _
    · split
      · exact Nat.le_refl _
      · exact Nat.min_le_left _ _
  · rw [if_neg h1]
    rw [Bool.or_eq_true] at h1
    split
    · rename_i h2
      exact absurd (.inl (full_enc xs (Nat.le_trans h2 h))) h1
    · split
      · rename_i h2
        exact absurd (.inr (decide_eq_true (by show hgt (enc xs) ≤ 1; omega))) h1
      · show min 9 (m - 1) ≤ k - 1
        omega
/-- equality -/
class EncEq (α : Type) [Enc α] [DecidableEq α] where
  eqv : ∀ x y : α, PyData.eqv (enc x) (enc y) = decide (x = y)
  lay : ∀ x : α, wf x → PyData.canLay0 (enc x) = true
  dp : Nat
  depth_le : ∀ x : α, (enc x).depth ≤ dp
theorem depthAll_le {ds : List PyData} {m : Nat} (h : ∀ d ∈ ds, d.depth ≤ m) : PyData.depthAll ds ≤ m := by
  induction ds with
  | nil => simp [PyData.depthAll]
  | cons d ds ih =>
    rw [PyData.depthAll]
    exact Nat.max_le.mpr ⟨h d (List.mem_cons_self ..), ih fun e he => h e (List.mem_cons_of_mem _ he)⟩
theorem layAll_of {ds : List PyData} (h : ∀ d ∈ ds, d.canLay0 = true) : PyData.canLayAll0 ds = true := by
  induction ds with
  | nil => simp [PyData.canLayAll0]
  | cons d ds ih =>
    rw [PyData.canLayAll0, h d (List.mem_cons_self ..), ih fun e he => h e (List.mem_cons_of_mem _ he)]
    rfl
theorem shaped_enc {α : Type} [Enc α] [DecidableEq α] [E : EncEq α] (x : α) (h : wf x) (hd : E.dp ≤ 64) : SeqAt.shaped (enc x) = true := by
  unfold SeqAt.shaped
  rw [E.lay x h, decide_eq_true (Nat.le_trans (E.depth_le x) hd)]
  rfl
instance : EncEq Int := ⟨fun a b => by
  show PyData.eqv (.int a) (.int b) = _
  rw [PyData.eqv]
  exact Bool.eq_iff_iff.mpr (by rw [beq_iff_eq, decide_eq_true_eq]), fun _ _ => by simp [enc, PyData.canLay0], 0, fun _ => by simp [enc, PyData.depth]⟩
instance : EncEq Bool := ⟨fun a b => by
  show PyData.eqv (.bool a) (.bool b) = _
  rw [PyData.eqv]
  exact Bool.eq_iff_iff.mpr (by rw [beq_iff_eq, decide_eq_true_eq]), fun _ _ => by simp [enc, PyData.canLay0], 0, fun _ => by simp [enc, PyData.depth]⟩
instance : EncEq Str := ⟨fun a b => by
  show PyData.eqv (.str a) (.str b) = _
  rw [PyData.eqv]
  exact Bool.eq_iff_iff.mpr (by rw [beq_iff_eq, decide_eq_true_eq]), fun _ h => h.1, 0, fun _ => by simp [enc, PyData.depth]⟩
instance : EncEq Unit := ⟨fun a b => by
  show PyData.eqv .none .none = _
  rw [PyData.eqv]; rfl, fun _ _ => by simp [enc, PyData.canLay0], 0, fun _ => by simp [enc, PyData.depth]⟩
theorem eqvAll_map {α : Type} [Enc α] [DecidableEq α] [E : EncEq α] : ∀ (a b : List α), PyData.eqvAll (a.map enc) (b.map enc) = decide (a = b)
  | [], [] => by simp [PyData.eqvAll]
  | [], _ :: _ => by simp [PyData.eqvAll]
  | _ :: _, [] => by simp [PyData.eqvAll]
  | x :: xs, y :: ys => by
    rw [List.map_cons, List.map_cons, PyData.eqvAll, E.eqv, eqvAll_map xs ys]
    simp
instance {α : Type} [Enc α] [DecidableEq α] [E : EncEq α] : EncEq (List α) := ⟨fun a b => by
  show PyData.eqv (.list _) (.list _) = _
  rw [PyData.eqv, eqvAll_map], fun xs h => by
    show PyData.canLay0 (.list _) = _
    rw [PyData.canLay0]
    exact layAll_of fun d hd => by
      obtain ⟨x, hx, rfl⟩ := List.mem_map.mp hd
      exact E.lay x (h.2 x hx), E.dp + 1, fun xs => by
    show (PyData.list _).depth ≤ _
    rw [PyData.depth]
    exact Nat.succ_le_succ (depthAll_le fun d hd => by
      obtain ⟨x, hx, rfl⟩ := List.mem_map.mp hd
      exact E.depth_le x)⟩
instance {α β : Type} [Enc α] [DecidableEq α] [E : EncEq α] [Enc β] [DecidableEq β] [G : EncEq β] : EncEq (α × β) := ⟨fun a b => by
  show PyData.eqv (.tuple [enc a.1, enc a.2]) (.tuple [enc b.1, enc b.2]) = _
  rw [PyData.eqv, PyData.eqvAll, PyData.eqvAll, PyData.eqvAll, E.eqv, G.eqv]
  simp [Prod.ext_iff], fun p h => by
    show PyData.canLay0 (.tuple _) = _
    rw [PyData.canLay0]
    exact layAll_of fun d hd => by
      simp only [List.mem_cons, List.not_mem_nil, or_false] at hd
      rcases hd with rfl | rfl
      · exact E.lay _ h.1
      · exact G.lay _ h.2, max E.dp G.dp + 1, fun p => by
    show (PyData.tuple _).depth ≤ _
    rw [PyData.depth]
    exact Nat.succ_le_succ (depthAll_le fun d hd => by
      have a := E.depth_le p.1
      have b := G.depth_le p.2
      simp only [List.mem_cons, List.not_mem_nil, or_false] at hd
      rcases hd with rfl | rfl <;> omega)⟩
instance {α β γ : Type} [Enc α] [DecidableEq α] [E : EncEq α] [Enc β] [DecidableEq β] [G : EncEq β] [Enc γ] [DecidableEq γ] [J : EncEq γ] : EncEq (P3 α β γ) := ⟨fun a b => by
  show PyData.eqv (.tuple [enc a.a, enc a.b, enc a.c]) (.tuple [enc b.a, enc b.b, enc b.c]) = _
  rw [PyData.eqv, PyData.eqvAll, PyData.eqvAll, PyData.eqvAll, PyData.eqvAll, E.eqv, G.eqv, J.eqv]
  cases a; cases b
  simp, fun p h => by
    show PyData.canLay0 (.tuple _) = _
    rw [PyData.canLay0]
    exact layAll_of fun d hd => by
      simp only [List.mem_cons, List.not_mem_nil, or_false] at hd
      rcases hd with rfl | rfl | rfl
      · exact E.lay _ h.1
      · exact G.lay _ h.2.1
      · exact J.lay _ h.2.2, max E.dp (max G.dp J.dp) + 1, fun p => by
    show (PyData.tuple _).depth ≤ _
    rw [PyData.depth]
    exact Nat.succ_le_succ (depthAll_le fun d hd => by
      have a := E.depth_le p.a
      have b := G.depth_le p.b
      have c := J.depth_le p.c
      simp only [List.mem_cons, List.not_mem_nil, or_false] at hd
      rcases hd with rfl | rfl | rfl <;> omega)⟩
instance {α β γ δ : Type} [Enc α] [DecidableEq α] [E : EncEq α] [Enc β] [DecidableEq β] [G : EncEq β] [Enc γ] [DecidableEq γ] [J : EncEq γ] [Enc δ] [DecidableEq δ] [N : EncEq δ] : EncEq (P4 α β γ δ) := ⟨fun a b => by
  show PyData.eqv (.tuple [enc a.a, enc a.b, enc a.c, enc a.d]) (.tuple [enc b.a, enc b.b, enc b.c, enc b.d]) = _
  rw [PyData.eqv, PyData.eqvAll, PyData.eqvAll, PyData.eqvAll, PyData.eqvAll, PyData.eqvAll, E.eqv, G.eqv, J.eqv, N.eqv]
  cases a; cases b
  simp, fun p h => by
    show PyData.canLay0 (.tuple _) = _
    rw [PyData.canLay0]
    exact layAll_of fun d hd => by
      simp only [List.mem_cons, List.not_mem_nil, or_false] at hd
      rcases hd with rfl | rfl | rfl | rfl
      · exact E.lay _ h.1
      · exact G.lay _ h.2.1
      · exact J.lay _ h.2.2.1
      · exact N.lay _ h.2.2.2, max (max E.dp G.dp) (max J.dp N.dp) + 1, fun p => by
    show (PyData.tuple _).depth ≤ _
    rw [PyData.depth]
    exact Nat.succ_le_succ (depthAll_le fun d hd => by
      have a := E.depth_le p.a
      have b := G.depth_le p.b
      have c := J.depth_le p.c
      have e := N.depth_le p.d
      simp only [List.mem_cons, List.not_mem_nil, or_false] at hd
      rcases hd with rfl | rfl | rfl | rfl <;> omega)⟩
/-- never None -/
class NN (α : Type) [Enc α] where
  l : ∀ x : α, PyData.eqv .none (enc x) = false
  r : ∀ x : α, PyData.eqv (enc x) .none = false
  n : ∀ x : α, isNon (enc x) = false
instance : NN Int := ⟨fun _ => by simp [enc, PyData.eqv], fun _ => by simp [enc, PyData.eqv], fun _ => rfl⟩
instance : NN Bool := ⟨fun _ => by simp [enc, PyData.eqv], fun _ => by simp [enc, PyData.eqv], fun _ => rfl⟩
instance : NN Str := ⟨fun _ => by simp [enc, PyData.eqv], fun _ => by simp [enc, PyData.eqv], fun _ => rfl⟩
instance {α : Type} [Enc α] : NN (List α) := ⟨fun _ => by simp [enc, PyData.eqv], fun _ => by simp [enc, PyData.eqv], fun _ => rfl⟩
instance {α β : Type} [Enc α] [Enc β] : NN (α × β) := ⟨fun _ => by simp [enc, PyData.eqv], fun _ => by simp [enc, PyData.eqv], fun _ => rfl⟩
instance {α β γ : Type} [Enc α] [Enc β] [Enc γ] : NN (P3 α β γ) := ⟨fun _ => by simp [enc, PyData.eqv], fun _ => by simp [enc, PyData.eqv], fun _ => rfl⟩
instance {α β γ δ : Type} [Enc α] [Enc β] [Enc γ] [Enc δ] : NN (P4 α β γ δ) := ⟨fun _ => by simp [enc, PyData.eqv], fun _ => by simp [enc, PyData.eqv], fun _ => rfl⟩
instance {α : Type} [Enc α] [DecidableEq α] [E : EncEq α] [N : NN α] : EncEq (Option α) := ⟨fun a b => by
  cases a <;> cases b
  · simp [enc, PyData.eqv]
  · exact (N.l _).trans (by simp)
  · exact (N.r _).trans (by simp)
  · exact (E.eqv _ _).trans (by simp), fun o h => by
    cases o with
    | none => simp [enc, PyData.canLay0]
    | some x => exact E.lay x (h x rfl), E.dp, fun o => by
    cases o with
    | none => simp [enc, PyData.depth]
    | some x => exact E.depth_le x⟩
/-! ### slots -/
class EnvE (σ : Type) where
  encE : σ → List (Option PyData)
  wfE : σ → Prop
  hms : List Nat
  none_ : σ
  len : ∀ v, (encE v).length = hms.length
  enc_none : encE none_ = List.replicate hms.length none
  wf_none : wfE none_
  hgt_e : ∀ v i d, (encE v)[i]? = some (some d) → hgt d ≤ hms.getD i 0
open EnvE (encE wfE hms)
instance instEnvUnit : EnvE Unit := ⟨fun _ => [], fun _ => True, [], (), fun _ => rfl, rfl, trivial, fun _ _ _ h => by simp at h⟩
instance instEnvCons {α σ : Type} [Enc α] [S : EnvE σ] : EnvE (Option α × σ) := ⟨fun v => v.1.map enc :: encE v.2, fun v => (∀ x, v.1 = some x → wf x) ∧ wfE v.2, hm α :: hms σ, (none, S.none_), fun v => by simp [S.len], by simp [S.enc_none, List.replicate], ⟨by simp, S.wf_none⟩, fun v i d h => by
  cases i with
  | zero =>
    obtain ⟨o, v⟩ := v
    cases o with
    | none => simp at h
    | some x =>
      have h : enc x = d := by simpa using h
      rw [← h]
      exact hgt_le x
  | succ i => exact S.hgt_e v.2 i d (by simpa using h)⟩
/-- the slots s hold the things v, each one's own at least as deep as δ tells -/
def rel {σ : Type} [EnvE σ] (δ : List Nat) (v : σ) (s : SD) : Prop :=
  s.length = (encE v).length ∧ wfE v ∧ ∀ i d, (encE v)[i]? = some (some d) → ∃ k, s[i]? = some (some (d, k)) ∧ δ.getD i 0 ≤ k
def leD (a b : List Nat) : Bool := (List.range (max a.length b.length)).all fun i => decide (a.getD i 0 ≤ b.getD i 0)
theorem leD_at {a b : List Nat} (h : leD a b = true) (i : Nat) : a.getD i 0 ≤ b.getD i 0 := by
  by_cases hi : i < max a.length b.length
  · exact of_decide_eq_true (List.all_eq_true.mp h i (List.mem_range.mpr hi))
  · have : a.getD i 0 = 0 := by rw [List.getD_eq_getElem?_getD, List.getElem?_eq_none (by omega)]; rfl
    omega
theorem rel.mono {σ : Type} [EnvE σ] {δ δ' : List Nat} {v : σ} {s : SD} (r : rel δ v s) (h : leD δ' δ = true) : rel δ' v s :=
  ⟨r.1, r.2.1, fun i d e => by
    obtain ⟨k, e1, e2⟩ := r.2.2 i d e
    exact ⟨k, e1, Nat.le_trans (leD_at h i) e2⟩⟩
structure Sl (σ : Type) [EnvE σ] (α : Type) [Enc α] (i : Nat) where
  get : σ → Option α
  set : σ → Option α → σ
  get_enc : ∀ (v : σ) (x : α), get v = some x → (encE v)[i]? = some (some (enc x))
  in_ : ∀ v : σ, ∃ o, (encE v)[i]? = some o
  get_wf : ∀ v x, wfE v → get v = some x → wf x
  set_enc : ∀ v o, encE (set v o) = (encE v).set i (o.map enc)
  set_wf : ∀ v o, wfE v → (∀ x, o = some x → wf x) → wfE (set v o)
def Sl.z {α σ : Type} [Enc α] [EnvE σ] : Sl (Option α × σ) α 0 where
  get := fun v => v.1
  set := fun v o => (o, v.2)
  get_enc := fun v x e => by
    show some (v.1.map enc) = _
    rw [e]
    rfl
  in_ := fun v => ⟨_, rfl⟩
  get_wf := fun v x h e => h.1 x e
  set_enc := fun v o => rfl
  set_wf := fun v o h e => ⟨e, h.2⟩
def Sl.s {α β σ : Type} [Enc α] [Enc β] [EnvE σ] {i : Nat} (x : Sl σ α i) : Sl (Option β × σ) α (i + 1) where
  get := fun v => x.get v.2
  set := fun v o => (v.1, x.set v.2 o)
  get_enc := fun v y e => x.get_enc v.2 y e
  in_ := fun v => x.in_ v.2
  get_wf := fun v y h e => x.get_wf v.2 y h.2 e
  set_enc := fun v o => by
    show _ :: encE (x.set v.2 o) = _
    rw [x.set_enc]
    rfl
  set_wf := fun v o h e => ⟨h.1, x.set_wf v.2 o h.2 e⟩
/-- a slot that holds things of one type or of another one -/
def Sl.l {α β σ : Type} [Enc α] [Enc β] [EnvE σ] {i : Nat} (x : Sl σ (α ⊕ β) i) : Sl σ α i where
  get := fun v => match x.get v with
    | some (.inl a) => some a
    | _ => none
  set := fun v o => x.set v (o.map .inl)
  get_enc := fun v a e => by
    split at e
    · rename_i h; cases e; exact x.get_enc v _ h
    · cases e
  in_ := x.in_
  get_wf := fun v a h e => by
    split at e
    · rename_i h2; cases e; exact x.get_wf v _ h h2
    · cases e
  set_enc := fun v o => by rw [x.set_enc]; cases o <;> rfl
  set_wf := fun v o h e => x.set_wf v _ h fun y hy => by
    cases o with
    | none => cases hy
    | some a => cases hy; exact e a rfl
def Sl.r {α β σ : Type} [Enc α] [Enc β] [EnvE σ] {i : Nat} (x : Sl σ (α ⊕ β) i) : Sl σ β i where
  get := fun v => match x.get v with
    | some (.inr a) => some a
    | _ => none
  set := fun v o => x.set v (o.map .inr)
  get_enc := fun v a e => by
    split at e
    · rename_i h; cases e; exact x.get_enc v _ h
    · cases e
  in_ := x.in_
  get_wf := fun v a h e => by
    split at e
    · rename_i h2; cases e; exact x.get_wf v _ h h2
    · cases e
  set_enc := fun v o => by rw [x.set_enc]; cases o <;> rfl
  set_wf := fun v o h e => x.set_wf v _ h fun y hy => by
    cases o with
    | none => cases hy
    | some a => cases hy; exact e a rfl
@[simp] theorem Sl.l_get {α β σ : Type} [Enc α] [Enc β] [EnvE σ] {i : Nat} (x : Sl σ (α ⊕ β) i) (v : σ) : (Sl.l x).get v = match x.get v with
    | some (.inl a) => some a
    | _ => none := rfl
@[simp] theorem Sl.l_set {α β σ : Type} [Enc α] [Enc β] [EnvE σ] {i : Nat} (x : Sl σ (α ⊕ β) i) (v : σ) (o : Option α) : (Sl.l x).set v o = x.set v (o.map .inl) := rfl
@[simp] theorem Sl.r_get {α β σ : Type} [Enc α] [Enc β] [EnvE σ] {i : Nat} (x : Sl σ (α ⊕ β) i) (v : σ) : (Sl.r x).get v = match x.get v with
    | some (.inr a) => some a
    | _ => none := rfl
@[simp] theorem Sl.r_set {α β σ : Type} [Enc α] [Enc β] [EnvE σ] {i : Nat} (x : Sl σ (α ⊕ β) i) (v : σ) (o : Option β) : (Sl.r x).set v o = x.set v (o.map .inr) := rfl
@[simp] theorem Sl.z_get {α σ : Type} [Enc α] [EnvE σ] (v : Option α × σ) : (Sl.z : Sl (Option α × σ) α 0).get v = v.1 := rfl
@[simp] theorem Sl.z_set {α σ : Type} [Enc α] [EnvE σ] (v : Option α × σ) (o : Option α) : (Sl.z : Sl (Option α × σ) α 0).set v o = (o, v.2) := rfl
@[simp] theorem Sl.s_get {α β σ : Type} [Enc α] [Enc β] [EnvE σ] {i : Nat} (x : Sl σ α i) (v : Option β × σ) : (Sl.s x : Sl (Option β × σ) α (i + 1)).get v = x.get v.2 := rfl
@[simp] theorem Sl.s_set {α β σ : Type} [Enc α] [Enc β] [EnvE σ] {i : Nat} (x : Sl σ α i) (v : Option β × σ) (o : Option α) : (Sl.s x : Sl (Option β × σ) α (i + 1)).set v o = (v.1, x.set v.2 o) := rfl
section
variable {σ : Type} [EnvE σ] {α : Type} [Enc α] {i : Nat} {δ : List Nat} {v : σ} {s : SD}
theorem rel.get (r : rel δ v s) (x : Sl σ α i) {a : α} (h : x.get v = some a) : wf a ∧ ∃ k, slot s i = .ok (enc a, k) ∧ δ.getD i 0 ≤ k := by
  have e := x.get_enc v a h
  obtain ⟨k, e1, e2⟩ := r.2.2 i _ e
  refine ⟨x.get_wf v a r.2.1 h, k, ?_, e2⟩
  unfold slot
  rw [e1]
theorem getD_set_le {δ : List Nat} {i m k : Nat} (h : m ≤ k) : (δ.set i m).getD i 0 ≤ k := by
  rw [List.getD_eq_getElem?_getD, List.getElem?_set_self']
  cases δ[i]? with
  | none => exact Nat.zero_le _
  | some _ => exact h
theorem rel.set (r : rel δ v s) (x : Sl σ α i) {a : α} (h : wf a) {m k : Nat} (hk : m ≤ k) : rel (δ.set i m) (x.set v (some a)) (s.set i (some (enc a, k))) := by
  refine ⟨?_, x.set_wf v _ r.2.1 (fun y e => by cases e; exact h), fun j d e => ?_⟩
  · rw [x.set_enc, List.length_set, List.length_set, r.1]
  rw [x.set_enc] at e
  by_cases hj : i = j
  · subst hj
    have hl : i < (encE v).length := by
      by_cases hl : i < (encE v).length
      · exact hl
      · rw [List.getElem?_eq_none (by rw [List.length_set]; omega)] at e
        cases e
    rw [List.getElem?_set_self hl] at e
    cases e
    exact ⟨k, by rw [List.getElem?_set_self (by rw [r.1]; exact hl)], getD_set_le hk⟩
  · rw [List.getElem?_set_ne hj] at e
    obtain ⟨k', e1, e2⟩ := r.2.2 j d e
    refine ⟨k', by rw [List.getElem?_set_ne hj]; exact e1, ?_⟩
    rw [List.getD_eq_getElem?_getD, List.getElem?_set_ne hj, ← List.getD_eq_getElem?_getD]
    exact e2
theorem rel.wipe (r : rel δ v s) (x : Sl σ α i) (o : Option DV) : rel δ (x.set v none) (s.set i o) := by
  refine ⟨?_, x.set_wf v _ r.2.1 (fun y e => by cases e), fun j d e => ?_⟩
  · rw [x.set_enc, List.length_set, List.length_set, r.1]
  rw [x.set_enc] at e
  by_cases hj : i = j
  · subst hj
    rw [List.getElem?_set_self'] at e
    cases h : (encE v)[i]? with
    | none => rw [h] at e; cases e
    | some y => rw [h] at e; cases e
  · rw [List.getElem?_set_ne hj] at e
    obtain ⟨k', e1, e2⟩ := r.2.2 j d e
    exact ⟨k', by rw [List.getElem?_set_ne hj]; exact e1, e2⟩
theorem rel.forget (r : rel δ v s) (x : Sl σ α i) : rel δ (x.set v none) s := by
  have h := r.wipe x (s[i]?.getD none)
  have e : s.set i (s[i]?.getD none) = s := by
    apply List.ext_getElem?
    intro j
    by_cases hj : i = j
    · subst hj
      rw [List.getElem?_set_self']
      cases h : s[i]? <;> rfl
    · rw [List.getElem?_set_ne hj]
  rw [e] at h
  exact h
def demD (is : List Nat) (δ : List Nat) : List Nat := δ.mapIdx fun i m => if i ∈ is then 0 else m
theorem demD_le (is δ : List Nat) (i : Nat) : (demD is δ).getD i 0 ≤ δ.getD i 0 := by
  unfold demD
  rw [List.getD_eq_getElem?_getD, List.getD_eq_getElem?_getD, List.getElem?_mapIdx]
  cases δ[i]? with
  | none => exact Nat.le_refl _
  | some m =>
    show (if i ∈ is then 0 else m) ≤ m
    split <;> omega
theorem demD_in {is δ : List Nat} {i : Nat} (h : i ∈ is) : (demD is δ).getD i 0 = 0 := by
  unfold demD
  rw [List.getD_eq_getElem?_getD, List.getElem?_mapIdx]
  cases δ[i]? with
  | none => rfl
  | some m => exact if_pos h
theorem rel.dem (r : rel δ v s) (is : List Nat) : rel (demD is δ) v (demote is s) := by
  refine ⟨?_, r.2.1, fun i d e => ?_⟩
  · unfold demote
    rw [List.length_mapIdx, r.1]
  obtain ⟨k, e1, e2⟩ := r.2.2 i d e
  by_cases hi : i ∈ is
  · refine ⟨0, ?_, by rw [demD_in hi]; exact Nat.le_refl _⟩
    unfold demote
    rw [List.getElem?_mapIdx, e1]
    simp [hi]
  · refine ⟨k, ?_, Nat.le_trans (demD_le ..) e2⟩
    unfold demote
    rw [List.getElem?_mapIdx, e1]
    simp [hi]
theorem rel.dem' (r : rel δ v s) (is : List Nat) : rel (demD is δ) v s := ⟨r.1, r.2.1, fun i d e => by
  obtain ⟨k, e1, e2⟩ := r.2.2 i d e
  exact ⟨k, e1, Nat.le_trans (demD_le ..) e2⟩⟩
/-- behind the keeping of a thing of the type: what it may share is no more one's own -/
def setD (h m : Nat) (fv δ : List Nat) : List Nat := if h ≤ m then δ else demD fv δ
theorem rel.settle (r : rel δ v s) {fv : List Nat} {a : α} {m k : Nat} (hk : m ≤ k) : rel (setD (hm α) m fv δ) v (Sq.settle fv (enc a, k) s) := by
  unfold setD Sq.settle
  by_cases h : hm α ≤ m
  · rw [if_pos h, if_pos (full_enc a (Nat.le_trans h hk))]
    exact r
  · rw [if_neg h]
    split
    · exact r.dem' fv
    · exact r.dem fv
end
end Sq
end

section
namespace Sq
open PySem PySem.Spec L2
open Enc (enc hm wf hgt_le)
open EnvE (encE wfE hms)
/-! ### typed expressions -/
/-- what a plain reckoning tells of the worth of an expression -/
def Rt {α β : Type} (t : Res α) (r : Res β) (P : α → β → Prop) : Prop := match t with
  | .ok x => ∃ y, r = .ok y ∧ P x y
  | .exc c p => r = .exc c p
  | .bad => True
theorem Rt.ok {α β : Type} {x : α} {y : β} {P : α → β → Prop} (h : P x y) : Rt (.ok x) (.ok y) P := ⟨y, rfl, h⟩
theorem Rt.bind {α β α' β' : Type} {t : Res α} {r : Res β} {P : α → β → Prop} {f : α → Res α'} {g : β → Res β'} {Q : α' → β' → Prop} (h : Rt t r P) (k : ∀ x y, P x y → Rt (f x) (g y) Q) : Rt (t >>= f) (r >>= g) Q := by
  cases t with
  | ok x =>
    obtain ⟨y, e, p⟩ := h
    rw [e]
    exact k x y p
  | exc c p =>
    have h : r = .exc c p := h
    rw [h]
    exact rfl
  | bad => exact trivial
theorem Rt.mono {α β : Type} {t : Res α} {r : Res β} {P Q : α → β → Prop} (h : Rt t r P) (k : ∀ x y, P x y → Q x y) : Rt t r Q := by
  cases t with
  | ok x =>
    obtain ⟨y, e, p⟩ := h
    exact ⟨y, e, k x y p⟩
  | exc c p => exact h
  | bad => exact trivial
theorem Rt.bindr {α β β' : Type} {t : Res α} {r : Res β} {P : α → β → Prop} {g : β → Res β'} {Q : α → β' → Prop} (h : Rt t r P) (k : ∀ x y, P x y → Rt (.ok x) (g y) Q) : Rt t (r >>= g) Q := by
  cases t with
  | ok x =>
    obtain ⟨y, e, p⟩ := h
    rw [e]
    exact k x y p
  | exc c p =>
    have h : r = .exc c p := h
    rw [h]
    exact rfl
  | bad => exact trivial
section
variable {σ : Type} [EnvE σ] {α β γ ρ : Type} [Enc α] [Enc β] [Enc γ] [Enc ρ] {i : Nat} {δ δ' δ1 δ2 δ3 : List Nat}
def VR (m : Nat) (x : α) (y : DV) : Prop := wf x ∧ y.1 = enc x ∧ m ≤ y.2
/-- a pure expression -/
def LP (δ : List Nat) (m : Nat) (t : σ → Res α) (e : Ex) : Prop := ∀ v s, rel δ v s → Rt (t v) (e s) fun x y => VR m x y.1 ∧ y.2 = s
/-- one that changes slots -/
def LE (δ δ' : List Nat) (m : Nat) (t : σ → Res (α × σ)) (e : Ex) : Prop := ∀ v s, rel δ v s → Rt (t v) (e s) fun x y => VR m x.1 y.1 ∧ rel δ' x.2 y.2
@[simp] def eP (t : σ → Res α) : σ → Res (α × σ) := fun v => t v >>= fun x => .ok (x, v)
theorem LP.e {m : Nat} {t : σ → Res α} {e : Ex} (h : LP δ m t e) : LE δ δ m (eP t) e := fun v s r => by
  have k := h v s r
  unfold eP
  revert k
  cases t v with
  | ok x =>
    rintro ⟨y, e, p, q⟩
    exact ⟨y, e, p, q ▸ r⟩
  | exc c p => exact id
  | bad => exact id
theorem LP.mono {m m' : Nat} {t : σ → Res α} {e : Ex} (h : LP δ m t e) (hm : m' ≤ m) : LP δ m' t e := fun v s r => (h v s r).mono fun x y p => ⟨⟨p.1.1, p.1.2.1, Nat.le_trans hm p.1.2.2⟩, p.2⟩
theorem LE.mono {m m' : Nat} {t : σ → Res (α × σ)} {e : Ex} (h : LE δ δ' m t e) (hm : m' ≤ m) : LE δ δ' m' t e := fun v s r => (h v s r).mono fun x y p => ⟨⟨p.1.1, p.1.2.1, Nat.le_trans hm p.1.2.2⟩, p.2⟩
/-! constants, variables -/
@[simp] def pC (x : α) : σ → Res α := fun _ => .ok x
theorem lp_c {x : α} (h : wf x) : LP (σ := σ) δ 0 (pC x) (eC (enc x)) := fun v s r => Rt.ok ⟨⟨h, rfl, Nat.le_refl _⟩, rfl⟩
theorem lp_int {n : Int} : LP (σ := σ) δ 0 (pC n) (eC (.int n)) := lp_c (x := n) trivial
theorem lp_bl {n : Bool} : LP (σ := σ) δ 0 (pC n) (eC (.bool n)) := lp_c (x := n) trivial
theorem lp_str {n : Str} (h : wf n) : LP (σ := σ) δ 0 (pC n) (eC (.str n)) := lp_c (x := n) h
theorem lp_non : LP (σ := σ) δ 0 (pC ()) (eC .none) := lp_c (x := ()) trivial
theorem lp_nonO : LP (σ := σ) δ 0 (pC (none : Option α)) (eC .none) := lp_c (x := (none : Option α)) (fun _ h => nomatch h)
@[simp] def ofO (o : Option α) : Res α := match o with
  | some x => .ok x
  | none => .bad
@[simp] def pV (x : Sl σ α i) : σ → Res α := fun v => ofO (x.get v)
theorem lp_v (x : Sl σ α i) : LP δ 0 (pV x) (eVar i) := fun v s r => by
  unfold pV ofO
  cases h : x.get v with
  | none => exact trivial
  | some a =>
    obtain ⟨w, k, e, _⟩ := r.get x h
    refine ⟨((enc a, 0), s), ?_, ⟨w, rfl, Nat.zero_le _⟩, rfl⟩
    rw [qVar, e]
    rfl
@[simp] def eM (x : Sl σ α i) : σ → Res (α × σ) := fun v => ofO (x.get v) >>= fun a => .ok (a, x.set v none)
theorem le_m (x : Sl σ α i) : LE δ δ (δ.getD i 0) (eM x) (eMove i) := fun v s r => by
  unfold eM ofO
  cases h : x.get v with
  | none => exact trivial
  | some a =>
    obtain ⟨w, k, e, hk⟩ := r.get x h
    refine ⟨((enc a, k), s.set i none), ?_, ⟨w, rfl, hk⟩, r.wipe x none⟩
    rw [qMove, e]
    rfl
/-! some -/
@[simp] def pSome (t : σ → Res α) : σ → Res (Option α) := fun v => t v >>= fun x => .ok (some x)
theorem lp_some {m : Nat} {t : σ → Res α} {e : Ex} (h : LP δ m t e) : LP δ m (pSome t) e := fun v s r => by
  have k := h v s r
  unfold pSome
  revert k
  cases t v with
  | ok x =>
    rintro ⟨y, e, p, q⟩
    exact ⟨y, e, ⟨fun z hz => by cases hz; exact p.1, p.2.1, p.2.2⟩, q⟩
  | exc c p => exact id
  | bad => exact id
@[simp] def eSome (t : σ → Res (α × σ)) : σ → Res (Option α × σ) := fun v => t v >>= fun x => .ok (some x.1, x.2)
theorem le_some {m : Nat} {t : σ → Res (α × σ)} {e : Ex} (h : LE δ δ' m t e) : LE δ δ' m (eSome t) e := fun v s r => by
  have k := h v s r
  unfold eSome
  revert k
  cases t v with
  | ok x =>
    rintro ⟨y, e, p, q⟩
    exact ⟨y, e, ⟨fun z hz => by cases hz; exact p.1, p.2.1, p.2.2⟩, q⟩
  | exc c p => exact id
  | bad => exact id
/-- the thing is there -/
@[simp] def pThe (t : σ → Res (Option α)) : σ → Res α := fun v => t v >>= ofO
theorem lp_the {m : Nat} {t : σ → Res (Option α)} {e : Ex} (h : LP δ m t e) : LP δ m (pThe t) e := fun v s r => by
  have k := h v s r
  unfold pThe
  revert k
  cases t v with
  | ok x =>
    rintro ⟨y, e, p, q⟩
    cases x with
    | none => exact trivial
    | some x => exact ⟨y, e, ⟨p.1 x rfl, p.2.1, p.2.2⟩, q⟩
  | exc c p => exact id
  | bad => exact id
@[simp] def eThe (t : σ → Res (Option α × σ)) : σ → Res (α × σ) := fun v => t v >>= fun x => ofO x.1 >>= fun y => .ok (y, x.2)
theorem le_the {m : Nat} {t : σ → Res (Option α × σ)} {e : Ex} (h : LE δ δ' m t e) : LE δ δ' m (eThe t) e := fun v s r => by
  have k := h v s r
  unfold eThe
  revert k
  cases t v with
  | ok x =>
    rintro ⟨y, e, p, q⟩
    obtain ⟨x, v1⟩ := x
    cases x with
    | none => exact trivial
    | some x => exact ⟨y, e, ⟨p.1 x rfl, p.2.1, p.2.2⟩, q⟩
  | exc c p => exact id
  | bad => exact id
/-! operators -/
def Op1 (ma m : Nat) (f : α → Res γ) (g : DV → Res DV) : Prop := ∀ x y, VR ma x y → Rt (f x) (g y) (VR m)
def Op2 (ma mb m : Nat) (f : α → β → Res γ) (g : DV → DV → Res DV) : Prop := ∀ x y z w, VR ma x y → VR mb z w → Rt (f x z) (g y w) (VR m)
def Op3 (ma mb mc m : Nat) (f : α → β → γ → Res ρ) (g : DV → DV → DV → Res DV) : Prop := ∀ x y z w u t, VR ma x y → VR mb z w → VR mc u t → Rt (f x z u) (g y w t) (VR m)
@[simp] def p1 (f : α → Res γ) (t : σ → Res α) : σ → Res γ := fun v => t v >>= f
@[simp] def p2 (f : α → β → Res γ) (t : σ → Res α) (u : σ → Res β) : σ → Res γ := fun v => t v >>= fun x => u v >>= fun y => f x y
@[simp] def e1_ (f : α → Res γ) (t : σ → Res (α × σ)) : σ → Res (γ × σ) := fun v => t v >>= fun x => f x.1 >>= fun z => .ok (z, x.2)
@[simp] def e2_ (f : α → β → Res γ) (t : σ → Res (α × σ)) (u : σ → Res (β × σ)) : σ → Res (γ × σ) := fun v => t v >>= fun x => u x.2 >>= fun y => f x.1 y.1 >>= fun z => .ok (z, y.2)
variable {ma mb m m' : Nat} {t : σ → Res α} {u : σ → Res β} {te : σ → Res (α × σ)} {ue : σ → Res (β × σ)} {a b : Ex}
theorem lp1 {f : α → Res γ} {g : DV → Res DV} (o : Op1 ma m f g) (ha : LP δ ma t a) : LP δ m (p1 f t) (ev1 g a) := fun v s r => (ha v s r).bind fun x y p => by
  obtain ⟨y, s1⟩ := y
  obtain ⟨p, rfl⟩ := p
  exact (o x y p).bindr fun z w q => Rt.ok ⟨q, rfl⟩
theorem lp2 {f : α → β → Res γ} {g : DV → DV → Res DV} (o : Op2 ma mb m f g) (ha : LP δ ma t a) (hb : LP δ mb u b) : LP δ m (p2 f t u) (ev2 g a b) := fun v s r => (ha v s r).bind fun x y p => by
  obtain ⟨y, s1⟩ := y
  obtain ⟨p, rfl⟩ := p
  exact (hb v s1 r).bind fun x2 y2 p2 => by
    obtain ⟨y2, s2⟩ := y2
    obtain ⟨p2, rfl⟩ := p2
    exact (o x y x2 y2 p p2).bindr fun z w q => Rt.ok ⟨q, rfl⟩
theorem le1 {f : α → Res γ} {g : DV → Res DV} (o : Op1 ma m f g) (ha : LE δ δ' ma te a) : LE δ δ' m (e1_ f te) (ev1 g a) := fun v s r => (ha v s r).bind fun x y p => (o x.1 y.1 p.1).bind fun z w q => Rt.ok ⟨q, p.2⟩
theorem le2 {f : α → β → Res γ} {g : DV → DV → Res DV} (o : Op2 ma mb m f g) (ha : LE δ δ1 ma te a) (hb : LE δ1 δ2 mb ue b) : LE δ δ2 m (e2_ f te ue) (ev2 g a b) := fun v s r => (ha v s r).bind fun x y p => (hb x.2 y.2 p.2).bind fun x2 y2 p2 => (o x.1 y.1 x2.1 y2.1 p.1 p2.1).bind fun z w q => Rt.ok ⟨q, p2.2⟩
/-! lists of arguments -/
class ArgE (τ : Type) where
  encA : τ → List PyData
  wfA : τ → Prop
open ArgE (encA wfA)
instance : ArgE Unit := ⟨fun _ => [], fun _ => True⟩
instance {α τ : Type} [Enc α] [ArgE τ] : ArgE (α × τ) := ⟨fun p => enc p.1 :: encA p.2, fun p => wf p.1 ∧ wfA p.2⟩
def leAll : List Nat → List Nat → Prop
  | [], [] => True
  | m :: ms, k :: ks => m ≤ k ∧ leAll ms ks
  | _, _ => False
variable {τ : Type} [ArgE τ]
def AR (ms : List Nat) (x : τ) (ys : List DV) : Prop := wfA x ∧ ys.map (·.1) = encA x ∧ leAll ms (ys.map (·.2))
def LPs (δ : List Nat) (ms : List Nat) (t : σ → Res τ) (e : Exs) : Prop := ∀ v s, rel δ v s → Rt (t v) (e s) fun x y => AR ms x y.1 ∧ y.2 = s
def LEs (δ δ' : List Nat) (ms : List Nat) (t : σ → Res (τ × σ)) (e : Exs) : Prop := ∀ v s, rel δ v s → Rt (t v) (e s) fun x y => AR ms x.1 y.1 ∧ rel δ' x.2 y.2
@[simp] def psNil : σ → Res Unit := fun _ => .ok ()
@[simp] def psCons (t : σ → Res α) (u : σ → Res τ) : σ → Res (α × τ) := fun v => t v >>= fun x => u v >>= fun y => .ok (x, y)
theorem lps_nil : LPs (σ := σ) δ [] psNil eNil := fun v s r => ⟨([], s), rfl, ⟨trivial, rfl, trivial⟩, rfl⟩
theorem lps_cons {ms : List Nat} {u : σ → Res τ} {b : Exs} (ha : LP δ m t a) (hb : LPs δ ms u b) : LPs δ (m :: ms) (psCons t u) (eCons a b) := fun v s r => (ha v s r).bind fun x y p => by
  obtain ⟨y, s1⟩ := y
  obtain ⟨p, rfl⟩ := p
  exact (hb v s1 r).bind fun x2 y2 p2 => by
    obtain ⟨y2, s2⟩ := y2
    obtain ⟨p2, rfl⟩ := p2
    exact Rt.ok ⟨⟨⟨p.1, p2.1⟩, by rw [List.map_cons, p.2.1, p2.2.1]; rfl, p.2.2, p2.2.2⟩, rfl⟩
@[simp] def esP (t : σ → Res τ) : σ → Res (τ × σ) := fun v => t v >>= fun x => .ok (x, v)
theorem LPs.e {ms : List Nat} {t : σ → Res τ} {e : Exs} (h : LPs δ ms t e) : LEs δ δ ms (esP t) e := fun v s r => by
  have k := h v s r
  unfold esP
  revert k
  cases t v with
  | ok x =>
    rintro ⟨y, e, p, q⟩
    exact ⟨y, e, p, q ▸ r⟩
  | exc c p => exact id
  | bad => exact id
@[simp] def esCons (t : σ → Res (α × σ)) (u : σ → Res (τ × σ)) : σ → Res ((α × τ) × σ) := fun v => t v >>= fun x => u x.2 >>= fun y => .ok ((x.1, y.1), y.2)
theorem les_cons {ms : List Nat} {u : σ → Res (τ × σ)} {b : Exs} (ha : LE δ δ1 m te a) (hb : LEs δ1 δ2 ms u b) : LEs δ δ2 (m :: ms) (esCons te u) (eCons a b) := fun v s r => (ha v s r).bind fun x y p => (hb x.2 y.2 p.2).bind fun x2 y2 p2 => Rt.ok ⟨⟨⟨p.1.1, p2.1.1⟩, by rw [List.map_cons, p.1.2.1, p2.1.2.1]; rfl, p.1.2.2, p2.1.2.2⟩, p2.2⟩
/-! functions of a list of arguments -/
def OpN (ms : List Nat) (m : Nat) (f : τ → Res γ) (g : List DV → Res DV) : Prop := ∀ x ys, AR ms x ys → Rt (f x) (g ys) (VR m)
@[simp] def pN (f : τ → Res γ) (t : σ → Res τ) : σ → Res γ := fun v => t v >>= f
@[simp] def eN (f : τ → Res γ) (t : σ → Res (τ × σ)) : σ → Res (γ × σ) := fun v => t v >>= fun x => f x.1 >>= fun z => .ok (z, x.2)
theorem lpN {ms : List Nat} {f : τ → Res γ} {g : List DV → Res DV} {t : σ → Res τ} {a : Exs} (o : OpN ms m f g) (ha : LPs δ ms t a) : LP δ m (pN f t) (evN g a) := fun v s r => (ha v s r).bind fun x y p => by
  obtain ⟨y, s1⟩ := y
  obtain ⟨p, rfl⟩ := p
  exact (o x y p).bindr fun z w q => Rt.ok ⟨q, rfl⟩
theorem leN {ms : List Nat} {f : τ → Res γ} {g : List DV → Res DV} {t : σ → Res (τ × σ)} {a : Exs} (o : OpN ms m f g) (ha : LEs δ δ' ms t a) : LE δ δ' m (eN f t) (evN g a) := fun v s r => (ha v s r).bind fun x y p => (o x.1 y.1 p.1).bind fun z w q => Rt.ok ⟨q, p.2⟩
theorem AR.one {k : Nat} {x : α} {ys : List DV} (h : AR [k] (x, ()) ys) : ∃ y, ys = [y] ∧ VR k x y := by
  obtain ⟨⟨w, _⟩, e, l⟩ := h
  match ys, e, l with
  | [y], e, l => exact ⟨y, rfl, ⟨w, (List.cons.inj e).1, l.1⟩⟩
theorem AR.two {j k : Nat} {x : α} {z : β} {ys : List DV} (h : AR [j, k] (x, z, ()) ys) : ∃ y w, ys = [y, w] ∧ VR j x y ∧ VR k z w := by
  obtain ⟨⟨w1, w2, _⟩, e, l⟩ := h
  match ys, e, l with
  | [y, w], e, l => exact ⟨y, w, rfl, ⟨w1, (List.cons.inj e).1, l.1⟩, w2, (List.cons.inj (List.cons.inj e).2).1, l.2.1⟩
/-! lists, tuples -/
def LPl (δ : List Nat) (m : Nat) (t : σ → Res (List α)) (e : Exs) : Prop := ∀ v s, rel δ v s → Rt (t v) (e s) fun x y => (∀ z ∈ x, wf z) ∧ y.1.map (·.1) = x.map enc ∧ (∀ d ∈ y.1, dpt (hm α) m ≤ dep d) ∧ y.2 = s
def LEl (δ δ' : List Nat) (m : Nat) (t : σ → Res (List α × σ)) (e : Exs) : Prop := ∀ v s, rel δ v s → Rt (t v) (e s) fun x y => (∀ z ∈ x.1, wf z) ∧ y.1.map (·.1) = x.1.map enc ∧ (∀ d ∈ y.1, dpt (hm α) m ≤ dep d) ∧ rel δ' x.2 y.2
@[simp] def plNil : σ → Res (List α) := fun _ => .ok []
@[simp] def plCons (t : σ → Res α) (u : σ → Res (List α)) : σ → Res (List α) := fun v => t v >>= fun x => u v >>= fun y => .ok (x :: y)
@[simp] def elP (t : σ → Res (List α)) : σ → Res (List α × σ) := fun v => t v >>= fun x => .ok (x, v)
@[simp] def elCons (t : σ → Res (α × σ)) (u : σ → Res (List α × σ)) : σ → Res (List α × σ) := fun v => t v >>= fun x => u x.2 >>= fun y => .ok (x.1 :: y.1, y.2)
theorem lpl_nil : LPl (σ := σ) δ m (plNil (α := α)) eNil := fun v s r => Rt.ok ⟨(fun _ h => nomatch h), rfl, (fun _ h => nomatch h), rfl⟩
theorem dep_VR {x : α} {y : DV} (h : VR m x y) : dpt (hm α) m ≤ dep y := by
  obtain ⟨y, k⟩ := y
  obtain ⟨_, e, l⟩ := h
  have e : y = enc x := e
  subst e
  exact dep_enc x l
theorem lpl_cons {u : σ → Res (List α)} {b : Exs} (ha : LP δ m t a) (hb : LPl δ m u b) : LPl δ m (plCons t u) (eCons a b) := fun v s r => (ha v s r).bind fun x y p => by
  obtain ⟨y, s1⟩ := y
  obtain ⟨p, rfl⟩ := p
  exact (hb v s1 r).bind fun x2 y2 p2 => by
    obtain ⟨y2, s2⟩ := y2
    obtain ⟨w2, e2, d2, rfl⟩ := p2
    refine Rt.ok ⟨fun z hz => ?_, ?_, fun d hd => ?_, rfl⟩
    · rcases List.mem_cons.mp hz with rfl | hz
      · exact p.1
      · exact w2 z hz
    · rw [List.map_cons, List.map_cons, p.2.1, e2]
    · rcases List.mem_cons.mp hd with rfl | hd
      · exact dep_VR p
      · exact d2 d hd
theorem LPl.e {t : σ → Res (List α)} {e : Exs} (h : LPl δ m t e) : LEl δ δ m (elP t) e := fun v s r => by
  have k := h v s r
  unfold elP
  revert k
  cases t v with
  | ok x =>
    rintro ⟨y, e, p, q, w, z⟩
    exact ⟨y, e, p, q, w, z ▸ r⟩
  | exc c p => exact id
  | bad => exact id
theorem lel_cons {u : σ → Res (List α × σ)} {b : Exs} (ha : LE δ δ1 m te a) (hb : LEl δ1 δ2 m u b) : LEl δ δ2 m (elCons te u) (eCons a b) := fun v s r => (ha v s r).bind fun x y p => (hb x.2 y.2 p.2).bind fun x2 y2 p2 => by
  obtain ⟨w2, e2, d2, r2⟩ := p2
  refine Rt.ok ⟨fun z hz => ?_, ?_, fun d hd => ?_, r2⟩
  · rcases List.mem_cons.mp hz with rfl | hz
    · exact p.1.1
    · exact w2 z hz
  · rw [List.map_cons, List.map_cons, p.1.2.1, e2]
  · rcases List.mem_cons.mp hd with rfl | hd
    · exact dep_VR p.1
    · exact d2 d hd
theorem le_minAll {ns : List Nat} {m : Nat} (h9 : m ≤ 9) (h : ∀ n ∈ ns, m ≤ n) : m ≤ minAll ns := by
  induction ns with
  | nil => exact h9
  | cons n ns ih =>
    rw [minAll]
    exact Nat.le_min.mpr ⟨h n (List.mem_cons_self ..), ih fun k hk => h k (List.mem_cons_of_mem _ hk)⟩
theorem dpt9 (h m : Nat) : dpt h m ≤ 9 := by
  unfold dpt
  split
  · exact Nat.le_refl _
  · exact Nat.min_le_left _ _
/-- [..] as it is written: few -/
def sml (xs : List α) : Res (List α) := if small xs.length then .ok xs else .bad
@[simp] theorem sml_lit {xs : List α} (h : xs.length ≤ 1000000) : sml xs = .ok xs := if_pos (decide_eq_true h)
@[simp] def pLst (t : σ → Res (List α)) : σ → Res (List α) := fun v => t v >>= sml
@[simp] def eLst (t : σ → Res (List α × σ)) : σ → Res (List α × σ) := fun v => t v >>= fun x => sml x.1 >>= fun z => .ok (z, x.2)
theorem lst_ok {xs : List α} {ys : List DV} (w : ∀ z ∈ xs, wf z) (e : ys.map (·.1) = xs.map enc) (d : ∀ y ∈ ys, dpt (hm α) m ≤ dep y) : Rt (sml xs) (gList ys) (VR (dpt (hm α) m + 1)) := by
  have el : ys.length = xs.length := by rw [← List.length_map (f := (·.1)) (as := ys), e, List.length_map]
  unfold sml gList
  by_cases h : small xs.length = true
  · rw [if_pos h, el, if_pos h]
    refine Rt.ok ⟨⟨of_decide_eq_true h, w⟩, ?_, ?_⟩
    · show PyData.list _ = PyData.list _
      rw [e]
    · exact Nat.succ_le_succ (le_minAll (dpt9 ..) fun n hn => by
        obtain ⟨y, hy, rfl⟩ := List.mem_map.mp hn
        exact d y hy)
  · rw [if_neg h]
    exact trivial
theorem lp_lst {t : σ → Res (List α)} {a : Exs} (h : LPl δ m t a) : LP δ (dpt (hm α) m + 1) (pLst t) (evN gList a) := fun v s r => (h v s r).bind fun x y p => by
  obtain ⟨y, s1⟩ := y
  obtain ⟨w, e, d, rfl⟩ := p
  exact (lst_ok w e d).bindr fun z w q => Rt.ok ⟨q, rfl⟩
theorem le_lst {t : σ → Res (List α × σ)} {a : Exs} (h : LEl δ δ' m t a) : LE δ δ' (dpt (hm α) m + 1) (eLst t) (evN gList a) := fun v s r => (h v s r).bind fun x y p => (lst_ok p.1 p.2.1 p.2.2.1).bind fun z w q => Rt.ok ⟨q, p.2.2.2⟩
@[simp] def oT2 : α × β × Unit → Res (α × β) := fun p => .ok (p.1, p.2.1)
@[simp] def oT3 : α × β × γ × Unit → Res (P3 α β γ) := fun p => .ok ⟨p.1, p.2.1, p.2.2.1⟩
@[simp] def oT4 : α × β × γ × ρ × Unit → Res (P4 α β γ ρ) := fun p => .ok ⟨p.1, p.2.1, p.2.2.1, p.2.2.2.1⟩
theorem op_t2 {j k : Nat} : OpN [j, k] (min (dpt (hm α) j) (dpt (hm β) k) + 1) (oT2 (α := α) (β := β)) gTup := fun x ys h => by
  obtain ⟨x, z, u⟩ := x
  obtain ⟨⟨w1, w2, _⟩, e, l⟩ := h
  match ys, e, l with
  | [y, w], e, l =>
    have hy : VR j x y := ⟨w1, (List.cons.inj e).1, l.1⟩
    have hw : VR k z w := ⟨w2, (List.cons.inj (List.cons.inj e).2).1, l.2.1⟩
    refine ⟨_, if_pos (show small 2 = true from rfl), ⟨w1, w2⟩, ?_, ?_⟩
    · show PyData.tuple [y.1, w.1] = PyData.tuple [enc x, enc z]
      rw [hy.2.1, hw.2.1]
    · show _ ≤ min (dep y) (min (dep w) 9) + 1
      have a := dep_VR hy
      have b := dep_VR hw
      have c := dpt9 (hm α) j
      have d := dpt9 (hm β) k
      omega
theorem op_t3 {j k l : Nat} : OpN [j, k, l] (min (dpt (hm α) j) (min (dpt (hm β) k) (dpt (hm γ) l)) + 1) (oT3 (α := α) (β := β) (γ := γ)) gTup := fun x ys h => by
  obtain ⟨x, z, t, u⟩ := x
  obtain ⟨⟨w1, w2, w3, _⟩, e, q⟩ := h
  match ys, e, q with
  | [y, w, c], e, q =>
    have hy : VR j x y := ⟨w1, (List.cons.inj e).1, q.1⟩
    have hw : VR k z w := ⟨w2, (List.cons.inj (List.cons.inj e).2).1, q.2.1⟩
    have hc : VR l t c := ⟨w3, (List.cons.inj (List.cons.inj (List.cons.inj e).2).2).1, q.2.2.1⟩
    refine ⟨_, if_pos (show small 3 = true from rfl), ⟨w1, w2, w3⟩, ?_, ?_⟩
    · show PyData.tuple [y.1, w.1, c.1] = PyData.tuple [enc x, enc z, enc t]
      rw [hy.2.1, hw.2.1, hc.2.1]
    · show _ ≤ min (dep y) (min (dep w) (min (dep c) 9)) + 1
      have a := dep_VR hy
      have b := dep_VR hw
      have a3 := dep_VR hc
      have c := dpt9 (hm α) j
      have d := dpt9 (hm β) k
      have d3 := dpt9 (hm γ) l
      omega
theorem op_t4 {j k l n : Nat} : OpN [j, k, l, n] (min (dpt (hm α) j) (min (dpt (hm β) k) (min (dpt (hm γ) l) (dpt (hm ρ) n))) + 1) (oT4 (α := α) (β := β) (γ := γ) (ρ := ρ)) gTup := fun x ys h => by
  obtain ⟨x, z, t, r, u⟩ := x
  obtain ⟨⟨w1, w2, w3, w4, _⟩, e, q⟩ := h
  match ys, e, q with
  | [y, w, c, f], e, q =>
    have hy : VR j x y := ⟨w1, (List.cons.inj e).1, q.1⟩
    have hw : VR k z w := ⟨w2, (List.cons.inj (List.cons.inj e).2).1, q.2.1⟩
    have hc : VR l t c := ⟨w3, (List.cons.inj (List.cons.inj (List.cons.inj e).2).2).1, q.2.2.1⟩
    have hf : VR n r f := ⟨w4, (List.cons.inj (List.cons.inj (List.cons.inj (List.cons.inj e).2).2).2).1, q.2.2.2.1⟩
    refine ⟨_, if_pos (show small 4 = true from rfl), ⟨w1, w2, w3, w4⟩, ?_, ?_⟩
    · show PyData.tuple [y.1, w.1, c.1, f.1] = PyData.tuple [enc x, enc z, enc t, enc r]
      rw [hy.2.1, hw.2.1, hc.2.1, hf.2.1]
    · show _ ≤ min (dep y) (min (dep w) (min (dep c) (min (dep f) 9))) + 1
      have a := dep_VR hy
      have b := dep_VR hw
      have a3 := dep_VR hc
      have a4 := dep_VR hf
      have c := dpt9 (hm α) j
      have d := dpt9 (hm β) k
      have d3 := dpt9 (hm γ) l
      have d4 := dpt9 (hm ρ) n
      omega
/-! tests -/
def LT (δ : List Nat) (t : σ → Res Bool) (c : Tst) : Prop := ∀ v s, rel δ v s → Rt (t v) (c s) fun x y => y = (x, s)
def LTE (δ δ' : List Nat) (t : σ → Res (Bool × σ)) (c : Tst) : Prop := ∀ v s, rel δ v s → Rt (t v) (c s) fun x y => y.1 = x.1 ∧ rel δ' x.2 y.2
variable {tb ub : σ → Res Bool} {tbe ube : σ → Res (Bool × σ)} {c d : Tst}
theorem lt_val (h : LP δ m tb a) : LT δ tb (tst a) := fun v s r => (h v s r).bindr fun x y p => by
  obtain ⟨⟨d, k⟩, s1⟩ := y
  obtain ⟨⟨_, e, _⟩, rfl⟩ := p
  have e : d = .bool x := e
  subst e
  exact Rt.ok rfl
theorem lte_val (h : LE δ δ' m tbe a) : LTE δ δ' tbe (tst a) := fun v s r => (h v s r).bindr fun x y p => by
  obtain ⟨⟨d, k⟩, s1⟩ := y
  obtain ⟨⟨_, e, _⟩, r⟩ := p
  have e : d = .bool x.1 := e
  subst e
  exact Rt.ok ⟨rfl, r⟩
theorem LT.e (h : LT δ tb c) : LTE δ δ (eP tb) c := fun v s r => by
  have k := h v s r
  unfold eP
  revert k
  cases tb v with
  | ok x =>
    rintro ⟨y, e, rfl⟩
    exact ⟨_, e, rfl, r⟩
  | exc c p => exact id
  | bad => exact id
@[simp] def pAnd (t u : σ → Res Bool) : σ → Res Bool := fun v => t v >>= fun x => if x then u v else .ok false
@[simp] def pOr (t u : σ → Res Bool) : σ → Res Bool := fun v => t v >>= fun x => if x then .ok true else u v
@[simp] def pNot (t : σ → Res Bool) : σ → Res Bool := fun v => t v >>= fun x => .ok (!x)
theorem lt_and (ha : LT δ tb c) (hb : LT δ ub d) : LT δ (pAnd tb ub) (tAnd2 c d) := fun v s r => (ha v s r).bind fun x y p => by
  cases p
  cases x with
  | true => exact hb v s r
  | false => exact Rt.ok rfl
theorem lt_or (ha : LT δ tb c) (hb : LT δ ub d) : LT δ (pOr tb ub) (tOr2 c d) := fun v s r => (ha v s r).bind fun x y p => by
  cases p
  cases x with
  | true => exact Rt.ok rfl
  | false => exact hb v s r
theorem lt_not (ha : LT δ tb c) : LT δ (pNot tb) (tNot2 c) := fun v s r => (ha v s r).bind fun x y p => by
  cases p
  exact Rt.ok rfl
theorem lp_and (ha : LP δ ma tb a) (hb : LP δ mb ub b) : LP δ 0 (pAnd tb ub) (evAnd a b) := fun v s r => (ha v s r).bind fun x y p => by
  obtain ⟨⟨e, k⟩, s1⟩ := y
  obtain ⟨⟨_, h, _⟩, rfl⟩ := p
  have h : e = .bool x := h
  subst h
  cases x with
  | true => exact (hb v s1 r).mono fun x y p => ⟨⟨p.1.1, p.1.2.1, Nat.zero_le _⟩, p.2⟩
  | false => exact Rt.ok ⟨⟨trivial, rfl, Nat.zero_le _⟩, rfl⟩
theorem lp_or (ha : LP δ ma tb a) (hb : LP δ mb ub b) : LP δ 0 (pOr tb ub) (evOr a b) := fun v s r => (ha v s r).bind fun x y p => by
  obtain ⟨⟨e, k⟩, s1⟩ := y
  obtain ⟨⟨_, h, _⟩, rfl⟩ := p
  have h : e = .bool x := h
  subst h
  cases x with
  | true => exact Rt.ok ⟨⟨trivial, rfl, Nat.zero_le _⟩, rfl⟩
  | false => exact (hb v s1 r).mono fun x y p => ⟨⟨p.1.1, p.1.2.1, Nat.zero_le _⟩, p.2⟩
@[simp] def eAnd (t u : σ → Res (Bool × σ)) : σ → Res (Bool × σ) := fun v => t v >>= fun x => if x.1 then u x.2 else .ok (false, x.2)
@[simp] def eOr (t u : σ → Res (Bool × σ)) : σ → Res (Bool × σ) := fun v => t v >>= fun x => if x.1 then .ok (true, x.2) else u x.2
@[simp] def eNot (t : σ → Res (Bool × σ)) : σ → Res (Bool × σ) := fun v => t v >>= fun x => .ok (!x.1, x.2)
theorem lte_not (ha : LTE δ δ1 tbe c) : LTE δ δ1 (eNot tbe) (tNot2 c) := fun v s r => (ha v s r).bind fun x y p => by
  obtain ⟨y, s1⟩ := y
  obtain ⟨e, r⟩ := p
  have e : y = x.1 := e
  subst e
  exact Rt.ok ⟨rfl, r⟩
theorem lte_and (ha : LTE δ δ1 tbe c) (hb : LTE δ1 δ2 ube d) (h : leD δ2 δ1 = true := by decide) : LTE δ δ2 (eAnd tbe ube) (tAnd2 c d) := fun v s r => (ha v s r).bind fun x y p => by
  obtain ⟨x, v⟩ := x
  obtain ⟨y, s1⟩ := y
  obtain ⟨e, r⟩ := p
  have e : y = x := e
  subst e
  cases y with
  | true => exact hb v s1 r
  | false => exact Rt.ok ⟨rfl, r.mono h⟩
theorem lte_or (ha : LTE δ δ1 tbe c) (hb : LTE δ1 δ2 ube d) (h : leD δ2 δ1 = true := by decide) : LTE δ δ2 (eOr tbe ube) (tOr2 c d) := fun v s r => (ha v s r).bind fun x y p => by
  obtain ⟨x, v⟩ := x
  obtain ⟨y, s1⟩ := y
  obtain ⟨e, r⟩ := p
  have e : y = x := e
  subst e
  cases y with
  | true => exact Rt.ok ⟨rfl, r.mono h⟩
  | false => exact hb v s1 r
end
end Sq
end

section
namespace Sq
open PySem PySem.Spec L2
open Enc (enc hm wf hgt_le)
open EnvE (encE wfE hms)
open ArgE (encA wfA)
/-! ### typed operators -/
section
variable {α β γ : Type} [Enc α] [Enc β] [Enc γ] {ma mb m : Nat}
theorem VR.eq {x : α} {y : DV} (h : VR m x y) : y = (enc x, y.2) := by
  obtain ⟨y, k⟩ := y
  exact congrArg (·, k) h.2.1
theorem VR.mk0 {x : α} (h : wf x) {k : Nat} : VR 0 x (enc x, k) := ⟨h, rfl, Nat.zero_le _⟩
theorem VR.mk' {x : α} (h : wf x) {m k : Nat} (l : m ≤ k) : VR m x (enc x, k) := ⟨h, rfl, l⟩
@[simp] def oAdd (a b : Int) : Res Int := .ok (a + b)
@[simp] def oSub (a b : Int) : Res Int := .ok (a - b)
def oMul (a b : Int) : Res Int := if lo64 a || lo64 b || decide (a.natAbs.log2 + b.natAbs.log2 < 1000000) then .ok (a * b) else .bad
def oFdiv (a b : Int) : Res Int := if decide (0 < b) && decide (b.natAbs.log2 < 9000) then .ok (a / b) else .bad
def oMod (a b : Int) : Res Int := if 0 < b then .ok (a % b) else .bad
def oPow (a b : Int) : Res Int := if decide (0 ≤ b) && decide (b ≤ 1000) && lo64 a then .ok (a ^ b.toNat) else .bad
@[simp] def oXor (a b : Int) : Res Int := .ok (Builtin.bitXor a b)
@[simp] def oLt (a b : Int) : Res Bool := .ok (decide (a < b))
@[simp] def oLe (a b : Int) : Res Bool := .ok (decide (a ≤ b))
@[simp] def oGt (a b : Int) : Res Bool := .ok (decide (b < a))
@[simp] def oGe (a b : Int) : Res Bool := .ok (decide (b ≤ a))
theorem op_int {f : Int → Int → Res Int} {g : DV → DV → Res DV} (h : ∀ a b k j, g (.int a, k) (.int b, j) = (f a b >>= fun z => .ok (.int z, 0))) : Op2 ma mb 0 f g := fun x y z w p q => by
  rw [p.eq, q.eq]
  show Rt _ (g (.int x, _) (.int z, _)) _
  rw [h]
  cases f x z with
  | ok u => exact Rt.ok (VR.mk0 trivial)
  | exc c p => exact rfl
  | bad => exact trivial
theorem op_intB {f : Int → Int → Bool} {g : DV → DV → Res DV} (h : ∀ a b k j, g (.int a, k) (.int b, j) = .ok (.bool (f a b), 0)) : Op2 ma mb 0 (fun a b => .ok (f a b)) g := fun x y z w p q => by
  rw [p.eq, q.eq]
  show Rt _ (g (.int x, _) (.int z, _)) _
  rw [h]
  exact Rt.ok (VR.mk0 (x := f x z) trivial)
theorem o_add : Op2 ma mb 0 oAdd gAdd := op_int fun a b k j => rfl
theorem o_sub : Op2 ma mb 0 oSub gSub := op_int fun a b k j => rfl
theorem o_xor : Op2 ma mb 0 oXor gXor := op_int fun a b k j => rfl
theorem o_mul : Op2 ma mb 0 oMul gMul := op_int fun a b k j => by
  show (if _ then _ else _) = _
  unfold oMul
  split <;> rfl
theorem o_fdiv : Op2 ma mb 0 oFdiv gFdiv := op_int fun a b k j => by
  show (if _ then _ else _) = _
  unfold oFdiv
  split <;> rfl
theorem o_mod : Op2 ma mb 0 oMod gMod := op_int fun a b k j => by
  show (if decide (0 < b) = true then _ else _) = _
  unfold oMod
  by_cases h : 0 < b
  · rw [if_pos (decide_eq_true h), if_pos h]; rfl
  · rw [if_neg (by simpa using h), if_neg h]; rfl
theorem o_pow : Op2 ma mb 0 oPow gPow := op_int fun a b k j => by
  show (if _ then _ else _) = _
  unfold oPow
  split <;> rfl
theorem o_lt : Op2 ma mb 0 oLt gLt := op_intB fun a b k j => rfl
theorem o_le : Op2 ma mb 0 oLe gLe := op_intB fun a b k j => rfl
theorem o_gt : Op2 ma mb 0 oGt gGt := op_intB fun a b k j => rfl
theorem o_ge : Op2 ma mb 0 oGe gGe := op_intB fun a b k j => rfl
@[simp] def oNeg (a : Int) : Res Int := .ok (-a)
theorem o_neg : Op1 ma 0 oNeg gNeg := fun x y p => by
  rw [p.eq]
  exact ⟨(.int (-x), 0), rfl, VR.mk0 (x := -x) trivial⟩
@[simp] def oNot (a : Bool) : Res Bool := .ok (!a)
theorem o_not : Op1 ma 0 oNot gNot := fun x y p => by
  rw [p.eq]
  exact ⟨(.bool (!x), 0), rfl, VR.mk0 (x := !x) trivial⟩
/-! equality, membership -/
section
variable [DecidableEq α] [E : EncEq α]
@[simp] def oEq (a b : α) : Res Bool := .ok (decide (a = b))
@[simp] def oNe (a b : α) : Res Bool := .ok (!decide (a = b))
theorem o_eq (h : E.dp ≤ 64 := by decide) : Op2 ma mb 0 (oEq (α := α)) gEq := fun x y z w p q => by
  unfold gEq
  rw [p.2.1, q.2.1, shaped_enc x p.1 h, shaped_enc z q.1 h, E.eqv]
  exact ⟨_, rfl, VR.mk0 (x := decide (x = z)) trivial⟩
theorem o_ne (h : E.dp ≤ 64 := by decide) : Op2 ma mb 0 (oNe (α := α)) gNe := fun x y z w p q => by
  unfold gNe
  rw [p.2.1, q.2.1, shaped_enc x p.1 h, shaped_enc z q.1 h, E.eqv]
  exact ⟨_, rfl, VR.mk0 (x := !decide (x = z)) trivial⟩
@[simp] def oIn (a : α) (b : List α) : Res Bool := .ok (decide (a ∈ b))
@[simp] def oNotIn (a : α) (b : List α) : Res Bool := .ok (!decide (a ∈ b))
theorem any_eqv (x : α) : ∀ xs : List α, ((xs.map enc).any fun z => PyData.eqv z (enc x)) = decide (x ∈ xs)
  | [] => by simp
  | y :: ys => by
    rw [List.map_cons, List.any_cons, any_eqv x ys, E.eqv]
    by_cases h : y = x
    · subst h; simp
    · have h2 : ¬ x = y := fun e => h e.symm
      simp [h, h2]
theorem o_in (h : E.dp + 1 ≤ 64 := by decide) : Op2 ma mb 0 (oIn (α := α)) gIn := fun x y z w p q => by
  have e : gIn y w = .ok (.bool (decide (x ∈ z)), 0) := by
    rw [p.eq, q.eq]
    show (if _ then Res.ok (PyData.bool ((z.map enc).any fun u => PyData.eqv u (enc x)), 0) else _) = _
    rw [any_eqv, shaped_enc x p.1 (by omega), shaped_enc (E := inferInstanceAs (EncEq (List α))) z q.1 h]
    rfl
  rw [e]
  exact ⟨_, rfl, VR.mk0 (x := decide (x ∈ z)) trivial⟩
theorem o_notin (h : E.dp + 1 ≤ 64 := by decide) : Op2 ma mb 0 (oNotIn (α := α)) gNotIn := fun x y z w p q => by
  have e : gNotIn y w = .ok (.bool (!decide (x ∈ z)), 0) := by
    rw [p.eq, q.eq]
    show (if _ then Res.ok (PyData.bool (!(z.map enc).any fun u => PyData.eqv u (enc x)), 0) else _) = _
    rw [any_eqv, shaped_enc x p.1 (by omega), shaped_enc (E := inferInstanceAs (EncEq (List α))) z q.1 h]
    rfl
  rw [e]
  exact ⟨_, rfl, VR.mk0 (x := !decide (x ∈ z)) trivial⟩
def oIndex (b : List α) (a : α) : Res Int := if a ∈ b then .ok (b.idxOf a : Nat) else .bad
theorem idxD_enc (x : α) : ∀ (xs : List α) (j : Nat), idxD (enc x) (xs.map enc) j = if x ∈ xs then some (j + xs.idxOf x) else none
  | [], j => by simp [idxD]
  | y :: ys, j => by
    rw [List.map_cons, idxD, E.eqv, idxD_enc x ys]
    by_cases h : y = x
    · subst h; simp
    · have h2 : ¬ x = y := fun e => h e.symm
      simp only [h, decide_false, Bool.false_eq_true, if_false, List.mem_cons, h2, false_or]
      split
      · rw [List.idxOf_cons, show (y == x) = false from beq_eq_false_iff_ne.mpr h]
        simp only [cond_false]
        congr 1
        omega
      · rfl
theorem o_index (h : E.dp + 1 ≤ 64 := by decide) : Op2 ma mb 0 (oIndex (α := α)) gIndex := fun z w x y q p => by
  have e : gIndex w y = if x ∈ z then .ok (.int (z.idxOf x : Nat), 0) else .bad := by
    rw [p.eq, q.eq]
    show (if _ then (match idxD (enc x) (z.map enc) 0 with | some j => Res.ok (PyData.int (j : Nat), 0) | none => .bad) else _) = _
    rw [idxD_enc, show SeqAt.shaped (enc z) = true from shaped_enc (E := inferInstanceAs (EncEq (List α))) z q.1 h, shaped_enc x p.1 (by omega)]
    rw [if_pos (show (true && true) = true from rfl)]
    by_cases h : x ∈ z
    · rw [if_pos h, if_pos h]
      simp
    · rw [if_neg h, if_neg h]
  rw [e]
  unfold oIndex
  split
  · exact Rt.ok (VR.mk0 (x := ((z.idxOf x : Nat) : Int)) trivial)
  · exact trivial
end
/-! places -/
def oIx (a : List α) (i : Int) : Res α := match atI a i with
  | some x => .ok x
  | none => .bad
theorem atI_map {α β : Type} (f : α → β) (xs : List α) (i : Int) : atI (xs.map f) i = (atI xs i).map f := by
  unfold atI
  rw [List.length_map]
  cases ixN xs.length i with
  | none => rfl
  | some j =>
    show (xs.map f)[j]? = (xs[j]?).map f
    rw [List.getElem?_map]
theorem atI_mem {α : Type} {xs : List α} {i : Int} {x : α} (h : atI xs i = some x) : x ∈ xs := by
  unfold atI at h
  cases e : ixN xs.length i with
  | none => rw [e] at h; cases h
  | some j => rw [e] at h; exact List.mem_of_getElem? h
theorem o_ix : Op2 ma mb (ma - 1) (oIx (α := α)) gIx := fun x y z w p q => by
  rw [p.eq, q.eq]
  show Rt _ (gIx (.list (x.map enc), _) (.int z, _)) _
  unfold oIx
  show Rt _ (match atI (x.map enc) z with | some d => Res.ok (d, y.2 - 1) | none => .bad) _
  rw [atI_map]
  cases h : atI x z with
  | none => exact trivial
  | some a => exact Rt.ok (VR.mk' (p.1.2 a (atI_mem h)) (Nat.sub_le_sub_right p.2.2 1))
/-- t[0], t[1] .. of a tuple -/
theorem o_fst : Op2 (α := α × β) (β := Int) ma mb (ma - 1) (fun p (_ : Int) => .ok p.1) (fun x _ => gIx x (.int 0, 0)) := fun x y z w p q => by
  rw [p.eq]
  exact Rt.ok (VR.mk' p.1.1 (Nat.sub_le_sub_right p.2.2 1))
@[simp] def o21 (p : α × β) : Res α := .ok p.1
@[simp] def o22 (p : α × β) : Res β := .ok p.2
@[simp] def o31 (p : P3 α β γ) : Res α := .ok p.a
@[simp] def o32 (p : P3 α β γ) : Res β := .ok p.b
@[simp] def o33 (p : P3 α β γ) : Res γ := .ok p.c
section
variable {σ : Type} [EnvE σ] {δ δ' : List Nat} {a : Ex}
theorem ix_lit {f : α → Res β} {n : Int} {t : σ → Res α} (ha : LP δ ma t a) (h : ∀ x k, wf x → ma ≤ k → Rt (f x) (gIx (enc x, k) (.int n, 0)) (VR (ma - 1))) : LP δ (ma - 1) (p1 f t) (ev2 gIx a (eC (.int n))) := fun v s r => (ha v s r).bind fun x y p => by
  obtain ⟨y, s1⟩ := y
  obtain ⟨p, rfl⟩ := p
  have hh := h x y.2 p.1 p.2.2
  rw [← VR.eq p] at hh
  exact hh.bindr fun z w q => Rt.ok ⟨q, rfl⟩
theorem lp_21 {t : σ → Res (α × β)} (ha : LP δ ma t a) : LP δ (ma - 1) (p1 o21 t) (ev2 gIx a (eC (.int 0))) := ix_lit ha fun x k w l => Rt.ok (VR.mk' w.1 (Nat.sub_le_sub_right l 1))
theorem lp_22 {t : σ → Res (α × β)} (ha : LP δ ma t a) : LP δ (ma - 1) (p1 o22 t) (ev2 gIx a (eC (.int 1))) := ix_lit ha fun x k w l => Rt.ok (VR.mk' w.2 (Nat.sub_le_sub_right l 1))
theorem lp_31 {t : σ → Res (P3 α β γ)} (ha : LP δ ma t a) : LP δ (ma - 1) (p1 o31 t) (ev2 gIx a (eC (.int 0))) := ix_lit ha fun x k w l => Rt.ok (VR.mk' w.1 (Nat.sub_le_sub_right l 1))
theorem lp_32 {t : σ → Res (P3 α β γ)} (ha : LP δ ma t a) : LP δ (ma - 1) (p1 o32 t) (ev2 gIx a (eC (.int 1))) := ix_lit ha fun x k w l => Rt.ok (VR.mk' w.2.1 (Nat.sub_le_sub_right l 1))
theorem lp_33 {t : σ → Res (P3 α β γ)} (ha : LP δ ma t a) : LP δ (ma - 1) (p1 o33 t) (ev2 gIx a (eC (.int 2))) := ix_lit ha fun x k w l => Rt.ok (VR.mk' w.2.2 (Nat.sub_le_sub_right l 1))
end
/-! built-in functions -/
@[simp] def oLen : List α × Unit → Res Int := fun p => .ok (p.1.length : Nat)
theorem o_len : OpN [ma] 0 (oLen (α := α)) gLen := fun x ys h => by
  obtain ⟨y, rfl, p⟩ := AR.one h
  rw [p.eq]
  exact ⟨(.int ((x.1.map enc).length : Nat), 0), rfl, trivial, by rw [List.length_map]; rfl, Nat.zero_le _⟩
@[simp] def oLenS : Str × Unit → Res Int := fun p => .ok (p.1.length : Nat)
theorem o_lenS : OpN [ma] 0 oLenS gLen := fun x ys h => by
  obtain ⟨y, rfl, p⟩ := AR.one h
  rw [p.eq]
  exact ⟨(.int (x.1.length : Nat), 0), if_pos (decide_eq_true p.1.2), trivial, rfl, Nat.zero_le _⟩
@[simp] def oAbs : Int × Unit → Res Int := fun p => .ok (if p.1 < 0 then -p.1 else p.1)
theorem o_abs : OpN [ma] 0 oAbs gAbs := fun x ys h => by
  obtain ⟨y, rfl, p⟩ := AR.one h
  rw [p.eq]
  exact ⟨_, rfl, trivial, rfl, Nat.zero_le _⟩
@[simp] def oInt : Int × Unit → Res Int := fun p => .ok p.1
theorem o_intI : OpN [ma] 0 oInt gInt := fun x ys h => by
  obtain ⟨y, rfl, p⟩ := AR.one h
  rw [p.eq]
  exact ⟨_, rfl, trivial, rfl, Nat.zero_le _⟩
@[simp] def oIntB : Bool × Unit → Res Int := fun p => .ok (if p.1 then 1 else 0)
theorem o_intB : OpN [ma] 0 oIntB gInt := fun x ys h => by
  obtain ⟨y, rfl, p⟩ := AR.one h
  rw [p.eq]
  exact ⟨_, rfl, trivial, rfl, Nat.zero_le _⟩
theorem bls_enc (bs : List Bool) : blsD (bs.map enc) = some bs := by
  induction bs with
  | nil => rfl
  | cons b bs ih =>
    show blsD (.bool b :: bs.map enc) = _
    rw [blsD, ih]
theorem ints_enc (bs : List Int) : intsD (bs.map enc) = some bs := by
  induction bs with
  | nil => rfl
  | cons b bs ih =>
    show intsD (.int b :: bs.map enc) = _
    rw [intsD, ih]
@[simp] def oAny : List Bool × Unit → Res Bool := fun p => .ok (p.1.any id)
theorem o_any : OpN [ma] 0 oAny gAny := fun x ys h => by
  obtain ⟨y, rfl, p⟩ := AR.one h
  rw [p.eq]
  show Rt _ (match blsD (x.1.map enc) with | some bs => Res.ok (PyData.bool (bs.any id), 0) | none => .bad) _
  rw [bls_enc]
  exact Rt.ok ⟨trivial, rfl, Nat.zero_le _⟩
@[simp] def oAll : List Bool × Unit → Res Bool := fun p => .ok (p.1.all id)
theorem o_all : OpN [ma] 0 oAll gAll := fun x ys h => by
  obtain ⟨y, rfl, p⟩ := AR.one h
  rw [p.eq]
  show Rt _ (match blsD (x.1.map enc) with | some bs => Res.ok (PyData.bool (bs.all id), 0) | none => .bad) _
  rw [bls_enc]
  exact Rt.ok ⟨trivial, rfl, Nat.zero_le _⟩
@[simp] def oSum : List Int × Unit → Res Int := fun p => .ok p.1.sum
theorem o_sum : OpN [ma] 0 oSum gSum := fun x ys h => by
  obtain ⟨y, rfl, p⟩ := AR.one h
  rw [p.eq]
  show Rt _ (match intsD (x.1.map enc) with | some bs => Res.ok (PyData.int bs.sum, 0) | none => .bad) _
  rw [ints_enc]
  exact Rt.ok ⟨trivial, rfl, Nat.zero_le _⟩
@[simp] def oMax : List Int × Unit → Res Int := fun p => match p.1 with
  | n :: ns => .ok (maxL n ns)
  | [] => .bad
@[simp] def oMin : List Int × Unit → Res Int := fun p => match p.1 with
  | n :: ns => .ok (minL n ns)
  | [] => .bad
theorem o_max : OpN [ma] 0 oMax gMax := fun x ys h => by
  obtain ⟨y, rfl, p⟩ := AR.one h
  rw [p.eq]
  show Rt _ (match intsD (x.1.map enc) with | some (n :: ns) => Res.ok (PyData.int (maxL n ns), 0) | _ => .bad) _
  rw [ints_enc]
  obtain ⟨xs, u⟩ := x
  cases xs with
  | nil => exact trivial
  | cons n ns => exact Rt.ok ⟨trivial, rfl, Nat.zero_le _⟩
theorem o_min : OpN [ma] 0 oMin gMin := fun x ys h => by
  obtain ⟨y, rfl, p⟩ := AR.one h
  rw [p.eq]
  show Rt _ (match intsD (x.1.map enc) with | some (n :: ns) => Res.ok (PyData.int (minL n ns), 0) | _ => .bad) _
  rw [ints_enc]
  obtain ⟨xs, u⟩ := x
  cases xs with
  | nil => exact trivial
  | cons n ns => exact Rt.ok ⟨trivial, rfl, Nat.zero_le _⟩
@[simp] def oMax2 : Int × Int × Unit → Res Int := fun p => .ok (if p.2.1 > p.1 then p.2.1 else p.1)
@[simp] def oMin2 : Int × Int × Unit → Res Int := fun p => .ok (if p.2.1 < p.1 then p.2.1 else p.1)
theorem o_max2 : OpN [ma, mb] 0 oMax2 gMax2 := fun x ys h => by
  obtain ⟨x, z, u⟩ := x
  obtain ⟨y, w, rfl, p, q⟩ := AR.two h
  rw [p.eq, q.eq]
  exact ⟨_, rfl, trivial, rfl, Nat.zero_le _⟩
theorem o_min2 : OpN [ma, mb] 0 oMin2 gMin2 := fun x ys h => by
  obtain ⟨x, z, u⟩ := x
  obtain ⟨y, w, rfl, p, q⟩ := AR.two h
  rw [p.eq, q.eq]
  exact ⟨_, rfl, trivial, rfl, Nat.zero_le _⟩
theorem insI_len (n : Int) : ∀ ns, (insI n ns).length = ns.length + 1
  | [] => rfl
  | m :: ms => by
    rw [insI]
    split
    · rfl
    · rw [List.length_cons, insI_len n ms, List.length_cons]
theorem sortI_len : ∀ ns, (sortI ns).length = ns.length
  | [] => rfl
  | n :: ns => by rw [sortI, insI_len, sortI_len ns, List.length_cons]
@[simp] def oSort : List Int × Unit → Res (List Int) := fun p => .ok (sortI p.1)
theorem o_sort : OpN [ma] 10 oSort gSortI := fun x ys h => by
  obtain ⟨y, rfl, p⟩ := AR.one h
  rw [p.eq]
  show Rt _ (match intsD (x.1.map enc) with | some ns => Res.ok (PyData.list ((sortI ns).map .int), 10) | none => .bad) _
  rw [ints_enc]
  exact Rt.ok ⟨⟨by rw [sortI_len]; exact p.1.1, fun _ _ => trivial⟩, rfl, Nat.le_refl _⟩
@[simp] def oList : List α × Unit → Res (List α) := fun p => .ok p.1
theorem o_list : OpN [ma] (dpi (hm α) ma + 1) (oList (α := α)) gListOf := fun x ys h => by
  obtain ⟨y, rfl, p⟩ := AR.one h
  have e := p.eq
  have l := p.2.2
  rw [e]
  refine ⟨_, rfl, ⟨p.1, rfl, ?_⟩⟩
  exact Nat.succ_le_succ (depI_enc x.1 l)
def rngT (a b : Int) : Res (List Int) := if lo62 a && lo62 b && decide ((b - a).toNat ≤ 1000000) then .ok ((List.range (b - a).toNat).map fun i => a + (i : Nat)) else .bad
theorem rng_enc (a : Int) (n : Nat) : rng a n = ((List.range n).map fun i => a + (i : Nat)).map enc := by
  unfold rng
  rw [List.map_map]
  rfl
theorem lR_rt (a b : Int) : Rt (rngT a b) (lR a b) (VR 10) := by
  unfold rngT lR
  split
  · rename_i h
    rw [rng_enc]
    refine Rt.ok ⟨⟨?_, fun _ _ => trivial⟩, rfl, Nat.le_refl _⟩
    rw [List.length_map, List.length_range]
    exact of_decide_eq_true (Bool.and_eq_true_iff.mp h).2
  · exact trivial
@[simp] def oR1 (b : Int) : Res (List Int) := rngT 0 b
theorem o_r1 : Op1 ma 10 oR1 gR1 := fun x y p => by
  rw [p.eq]
  exact lR_rt 0 x
theorem o_r2 : Op2 ma mb 10 rngT gR2 := fun x y z w p q => by
  rw [p.eq, q.eq]
  exact lR_rt x z
/-! lists joined, repeated, turned, cut -/
def oCat (a b : List α) : Res (List α) := if small (a.length + b.length) then .ok (a ++ b) else .bad
theorem o_cat : Op2 ma mb (min (dpi (hm α) ma) (dpi (hm α) mb) + 1) (oCat (α := α)) gAdd := fun x y z w p q => by
  have e1 := p.eq
  have e2 := q.eq
  have l1 := depI_enc x p.2.2
  have l2 := depI_enc z q.2.2
  rw [e1, e2]
  show Rt _ (if small ((x.map enc).length + (z.map enc).length) then Res.ok (PyData.list (x.map enc ++ z.map enc), min (depI (enc x, y.2)) (depI (enc z, w.2)) + 1) else .bad) _
  rw [List.length_map, List.length_map, ← List.map_append]
  unfold oCat
  split
  · rename_i h
    refine Rt.ok ⟨⟨by rw [List.length_append]; exact of_decide_eq_true h, fun u hu => ?_⟩, rfl, Nat.succ_le_succ (by show _ ≤ min _ _; omega)⟩
    rcases List.mem_append.mp hu with hu | hu
    · exact p.1.2 u hu
    · exact q.1.2 u hu
  · exact trivial
def oRep (a : List α) (k : Int) : Res (List α) := if small (a.length * k.toNat) && decide (k < 1000000) && decide (-1000000 < k) then .ok (List.replicate k.toNat a).flatten else .bad
theorem o_rep (h0 : hm α = 0) (h1 : 0 < ma) : Op2 ma mb 10 (oRep (α := α)) gMul := fun x y z w p q => by
  have hl := p.2.2
  rw [p.eq, q.eq]
  show Rt _ (if small ((x.map enc).length * z.toNat) && decide (z < 1000000) && decide (-1000000 < z) && decide (hgt (.list (x.map enc)) ≤ 1) && decide (0 < y.2) then Res.ok (PyData.list (List.replicate z.toNat (x.map enc)).flatten, 10) else .bad) _
  have e3 : hgt (.list (x.map enc)) ≤ 1 := by
    have := hgt_le x
    show hgt (enc x) ≤ 1
    have e : hm (List α) = hm α + 1 := rfl
    omega
  rw [List.length_map, decide_eq_true e3, decide_eq_true (show 0 < y.2 by omega), Bool.and_true, Bool.and_true]
  unfold oRep
  split
  · rename_i h
    rw [Bool.and_eq_true, Bool.and_eq_true] at h
    have e4 : (List.replicate z.toNat (x.map enc)).flatten = (List.replicate z.toNat x).flatten.map (enc (α := α)) := by
      rw [List.map_flatten, List.map_replicate]
    rw [e4]
    refine Rt.ok ⟨⟨?_, fun u hu => ?_⟩, rfl, Nat.le_refl _⟩
    · have : (List.replicate z.toNat x).flatten.length = x.length * z.toNat := by
        rw [List.length_flatten, List.map_replicate, List.sum_replicate_nat, Nat.mul_comm]
      rw [this]
      exact of_decide_eq_true h.1.1
    · obtain ⟨l, hl, hu⟩ := List.mem_flatten.mp hu
      rw [List.eq_of_mem_replicate hl] at hu
      exact p.1.2 u hu
  · exact trivial
@[simp] def oRev (a : List α) : Res (List α) := .ok a.reverse
theorem o_rev : Op1 ma (if hm α = 0 then 10 else 1) (oRev (α := α)) gRevL := fun x y p => by
  rw [p.eq]
  show Rt _ (Res.ok (PyData.list (x.map enc).reverse, (if hgtAll (x.map enc) = 0 then 9 else 0) + 1)) _
  rw [← List.map_reverse]
  refine Rt.ok ⟨⟨by rw [List.length_reverse]; exact p.1.1, fun u hu => p.1.2 u (List.mem_reverse.mp hu)⟩, rfl, ?_⟩
  have h := hgtAll_map x
  show _ ≤ (if hgtAll (x.map enc) = 0 then 9 else 0) + 1
  by_cases h0 : hm α = 0
  · rw [if_pos h0, if_pos (by omega)]
    exact Nat.le_refl _
  · rw [if_neg h0]
    omega
theorem cutD_map {α β : Type} (f : α → β) (xs : List α) (lo hi : Option Int) : cutD (xs.map f) lo hi = (cutD xs lo hi).map f := by
  unfold cutD
  rw [List.length_map, List.map_take, List.map_drop]
theorem cutD_mem {α : Type} {xs : List α} {lo hi : Option Int} {x : α} (h : x ∈ cutD xs lo hi) : x ∈ xs := List.mem_of_mem_drop (List.mem_of_mem_take h)
theorem cutD_len {α : Type} (xs : List α) (lo hi : Option Int) : (cutD xs lo hi).length ≤ xs.length := by
  unfold cutD
  rw [List.length_take, List.length_drop]
  omega
section
variable {σ : Type} [EnvE σ] {δ δ' δ1 δ2 : List Nat} {a : Ex}
def LO (δ : List Nat) (t : σ → Res (Option Int)) (o : Opt) : Prop := ∀ v s, rel δ v s → Rt (t v) (o s) fun x y => y = (x, s)
@[simp] def poNone : σ → Res (Option Int) := fun _ => .ok none
@[simp] def poSome (t : σ → Res Int) : σ → Res (Option Int) := fun v => t v >>= fun x => .ok (some x)
theorem lo_none : LO (σ := σ) δ poNone oNone := fun v s r => Rt.ok rfl
theorem lo_some {t : σ → Res Int} (h : LP δ m t a) : LO δ (poSome t) (oSome a) := fun v s r => (h v s r).bind fun x y p => by
  obtain ⟨y, s1⟩ := y
  obtain ⟨p, rfl⟩ := p
  have e : y = (.int x, y.2) := p.eq
  rw [e]
  exact Rt.ok rfl
@[simp] def pSl (t : σ → Res (List α)) (lo hi : σ → Res (Option Int)) : σ → Res (List α) := fun v => t v >>= fun x => lo v >>= fun l => hi v >>= fun h => .ok (cutD x l h)
theorem lp_sl {t : σ → Res (List α)} {tl th : σ → Res (Option Int)} {lo hi : Opt} (ha : LP δ m t a) (hl : LO δ tl lo) (hh : LO δ th hi) : LP δ (dpi (hm α) m + 1) (pSl t tl th) (evSl a lo hi) := fun v s r => (ha v s r).bind fun x y p => by
  obtain ⟨y, s1⟩ := y
  obtain ⟨p, rfl⟩ := p
  exact (hl v s1 r).bind fun l w q => by
    cases q
    exact (hh v s1 r).bind fun h w q => by
      cases q
      have l1 := depI_enc x p.2.2
      have e : y = (enc x, y.2) := p.eq
      rw [e]
      refine ⟨_, rfl, ⟨⟨Nat.le_trans (cutD_len ..) p.1.1, fun u hu => p.1.2 u (cutD_mem hu)⟩, ?_, Nat.succ_le_succ l1⟩, rfl⟩
      show PyData.list (cutD (x.map enc) l h) = PyData.list _
      rw [cutD_map]
@[simp] def eSl (t : σ → Res (List α × σ)) (lo hi : σ → Res (Option Int)) : σ → Res (List α × σ) := fun v => t v >>= fun x => lo x.2 >>= fun l => hi x.2 >>= fun h => .ok (cutD x.1 l h, x.2)
theorem le_sl {t : σ → Res (List α × σ)} {tl th : σ → Res (Option Int)} {lo hi : Opt} (ha : LE δ δ1 m t a) (hl : LO δ1 tl lo) (hh : LO δ1 th hi) : LE δ δ1 (dpi (hm α) m + 1) (eSl t tl th) (evSl a lo hi) := fun v s r => (ha v s r).bind fun x y p => (hl x.2 y.2 p.2).bind fun l w q => by
  cases q
  exact (hh x.2 y.2 p.2).bind fun h w q => by
    cases q
    have l1 := depI_enc x.1 p.1.2.2
    have e := p.1.eq
    rw [e]
    refine ⟨_, rfl, ⟨⟨Nat.le_trans (cutD_len ..) p.1.1.1, fun u hu => p.1.1.2 u (cutD_mem hu)⟩, ?_, Nat.succ_le_succ l1⟩, p.2⟩
    show PyData.list (cutD (x.1.map enc) l h) = PyData.list _
    rw [cutD_map]
@[simp] def pCh (f g : Int → Int → Res Bool) (t u w : σ → Res Int) : σ → Res Bool := fun v => t v >>= fun x => u v >>= fun y => f x y >>= fun z => if z then w v >>= fun c => g y c else .ok false
end
/-! kinds -/
class IsK (α : Type) [Enc α] where
  k : α → Cl → Bool
  ok : ∀ x c, isA (enc x) c = k x c
def kInt : Cl → Bool | .int => true | _ => false
def kBool : Cl → Bool | .int => true | .bool => true | _ => false
def kStr : Cl → Bool | .str => true | _ => false
def kList : Cl → Bool | .list => true | _ => false
def kTup : Cl → Bool | .tuple => true | _ => false
instance : IsK Int := ⟨fun _ => kInt, fun x c => by cases c <;> rfl⟩
instance : IsK Bool := ⟨fun _ => kBool, fun x c => by cases c <;> rfl⟩
instance : IsK Str := ⟨fun _ => kStr, fun x c => by cases c <;> rfl⟩
instance : IsK Unit := ⟨fun _ _ => false, fun x c => by cases c <;> rfl⟩
instance : IsK (List α) := ⟨fun _ => kList, fun x c => by cases c <;> rfl⟩
instance : IsK (α × β) := ⟨fun _ => kTup, fun x c => by cases c <;> rfl⟩
instance : IsK (P3 α β γ) := ⟨fun _ => kTup, fun x c => by cases c <;> rfl⟩
instance {ρ : Type} [Enc ρ] : IsK (P4 α β γ ρ) := ⟨fun _ => kTup, fun x c => by cases c <;> rfl⟩
instance [I : IsK α] : IsK (Option α) := ⟨fun o c => match o with
  | none => false
  | some x => I.k x c, fun o c => by
  cases o with
  | none => cases c <;> rfl
  | some x => exact I.ok x c⟩
@[simp] def oIsA [I : IsK α] (cs : List Cl) (x : α) : Res Bool := .ok (cs.any fun c => I.k x c)
theorem o_isA [I : IsK α] {cs : List Cl} : Op1 ma 0 (oIsA (α := α) cs) (gIsA cs) := fun x y p => by
  unfold gIsA
  rw [p.2.1, show isA (enc x) = I.k x from funext fun c => I.ok x c]
  exact Rt.ok (VR.mk0 (α := Bool) trivial)
@[simp] def oIsB (a b : Bool) : Res Bool := .ok (decide (a = b))
@[simp] def oIsNB (a b : Bool) : Res Bool := .ok (!decide (a = b))
theorem o_isB : Op2 ma mb 0 oIsB gIsB := fun x y z w p q => by
  rw [p.eq, q.eq]
  exact Rt.ok (VR.mk0 (α := Bool) trivial)
theorem o_isNB : Op2 ma mb 0 oIsNB gIsNB := fun x y z w p q => by
  rw [p.eq, q.eq]
  exact Rt.ok (VR.mk0 (α := Bool) trivial)
@[simp] def oIsN (a : Option α) : Res Bool := .ok (a.isNone)
@[simp] def oNotN (a : Option α) : Res Bool := .ok (a.isSome)
theorem o_isN [N : NN α] : Op1 ma 0 (oIsN (α := α)) gIsN := fun x y p => by
  rw [p.eq]
  cases x with
  | none => exact Rt.ok (VR.mk0 (α := Bool) trivial)
  | some x =>
    unfold gIsN
    show Rt _ (Res.ok (PyData.bool (isNon (enc x)), 0)) _
    rw [N.n]
    exact Rt.ok (VR.mk0 (α := Bool) trivial)
theorem o_notN [N : NN α] : Op1 ma 0 (oNotN (α := α)) gNotN := fun x y p => by
  rw [p.eq]
  cases x with
  | none => exact Rt.ok (VR.mk0 (α := Bool) trivial)
  | some x =>
    unfold gNotN
    show Rt _ (Res.ok (PyData.bool (!isNon (enc x)), 0)) _
    rw [N.n]
    exact Rt.ok (VR.mk0 (α := Bool) trivial)
@[simp] def oIsN0 (a : α) : Res Bool := .ok false
@[simp] def oNotN0 (a : α) : Res Bool := .ok true
theorem o_isN0 [N : NN α] : Op1 ma 0 (oIsN0 (α := α)) gIsN := fun x y p => by
  rw [p.eq]
  unfold gIsN
  show Rt _ (Res.ok (PyData.bool (isNon (enc x)), 0)) _
  rw [N.n]
  exact Rt.ok (VR.mk0 (α := Bool) trivial)
theorem o_notN0 [N : NN α] : Op1 ma 0 (oNotN0 (α := α)) gNotN := fun x y p => by
  rw [p.eq]
  unfold gNotN
  show Rt _ (Res.ok (PyData.bool (!isNon (enc x)), 0)) _
  rw [N.n]
  exact Rt.ok (VR.mk0 (α := Bool) trivial)
@[simp] def oIsNU (a : Unit) : Res Bool := .ok true
@[simp] def oNotNU (a : Unit) : Res Bool := .ok false
theorem o_isNU : Op1 ma 0 oIsNU gIsN := fun x y p => by
  rw [p.eq]
  exact Rt.ok (VR.mk0 (α := Bool) trivial)
theorem o_notNU : Op1 ma 0 oNotNU gNotN := fun x y p => by
  rw [p.eq]
  exact Rt.ok (VR.mk0 (α := Bool) trivial)
end
end Sq
end

section
namespace Sq
open PySem PySem.Spec L2
open Enc (enc hm wf hgt_le)
open EnvE (encE wfE hms)
open ArgE (encA wfA)
/-! ### typed targets, sources, comprehensions, calls -/
section
variable {σ : Type} [EnvE σ] {α β γ ρ κ : Type} [Enc α] [Enc β] [Enc γ] [Enc ρ] [Enc κ] {i : Nat} {δ δ' δ1 δ2 δ3 δb δc δe δL δn δr δk : List Nat} {m ma mb : Nat} {a b : Ex} {v w : σ} {s : SD}
def relO (V : Nat → Prop) (δ : List Nat) (v : σ) (s : SD) : Prop :=
  s.length = (encE v).length ∧ wfE v ∧ ∀ i d, ¬ V i → (encE v)[i]? = some (some d) → ∃ k, s[i]? = some (some (d, k)) ∧ δ.getD i 0 ≤ k
theorem rel.o (r : rel δ v s) (V : Nat → Prop) : relO V δ v s := ⟨r.1, r.2.1, fun i d _ => r.2.2 i d⟩
theorem relO.rel {V : Nat → Prop} (r : relO V δ v s) (h : ∀ i, ¬ V i) : rel δ v s := ⟨r.1, r.2.1, fun i d => r.2.2 i d (h i)⟩
theorem relO.mono {V W : Nat → Prop} (r : relO V δ v s) (h : ∀ i, V i → W i) : relO W δ v s := ⟨r.1, r.2.1, fun i d n => r.2.2 i d fun z => n (h i z)⟩
theorem relO.set {V : Nat → Prop} (r : relO V δ v s) (x : Sl σ α i) {a : α} (h : wf a) {m k : Nat} (hk : m ≤ k) : relO (fun j => V j ∧ j ∉ [i]) (δ.set i m) (x.set v (some a)) (s.set i (some (enc a, k))) := by
  refine ⟨?_, x.set_wf v _ r.2.1 (fun y e => by cases e; exact h), fun j d n e => ?_⟩
  · rw [x.set_enc, List.length_set, List.length_set, r.1]
  rw [x.set_enc] at e
  by_cases hj : i = j
  · subst hj
    have hl : i < (encE v).length := by
      by_cases hl : i < (encE v).length
      · exact hl
      · rw [List.getElem?_eq_none (by rw [List.length_set]; omega)] at e
        cases e
    rw [List.getElem?_set_self hl] at e
    cases e
    exact ⟨k, by rw [List.getElem?_set_self (by rw [r.1]; exact hl)], getD_set_le hk⟩
  · rw [List.getElem?_set_ne hj] at e
    obtain ⟨k', e1, e2⟩ := r.2.2 j d (fun z => n ⟨z, fun q => hj (List.mem_singleton.mp q).symm⟩) e
    refine ⟨k', by rw [List.getElem?_set_ne hj]; exact e1, ?_⟩
    rw [List.getD_eq_getElem?_getD, List.getElem?_set_ne hj, ← List.getD_eq_getElem?_getD]
    exact e2
/-- a target: it binds the slots vs anew -/
def LB (m : Nat) (vs : List Nat) (δ δ' : List Nat) (t : α → σ → Res σ) (b : Bd) : Prop := ∀ (V : Nat → Prop) x y v s, VR m x y → relO V δ v s → Rt (t x v) (b y s) fun v' s' => relO (fun i => V i ∧ i ∉ vs) δ' v' s' ∧ ∀ i, i ∉ vs → (encE v')[i]? = (encE v)[i]?
variable {τ : Type} [ArgE τ]
def LBs (ms : List Nat) (vs : List Nat) (δ δ' : List Nat) (t : τ → σ → Res σ) (b : Bds) : Prop := ∀ (V : Nat → Prop) x ys v s, AR ms x ys → relO V δ v s → Rt (t x v) (b ys s) fun v' s' => relO (fun i => V i ∧ i ∉ vs) δ' v' s' ∧ ∀ i, i ∉ vs → (encE v')[i]? = (encE v)[i]?
@[simp] def tN (x : Sl σ α i) : α → σ → Res σ := fun a v => .ok (x.set v (some a))
theorem lb_n (x : Sl σ α i) : LB m [i] δ (δ.set i m) (tN x) (bName i) := fun V a y v s p r => by
  rw [p.eq]
  refine ⟨_, rfl, r.set x p.1 p.2.2, fun j hj => ?_⟩
  rw [x.set_enc, List.getElem?_set_ne (fun e : i = j => hj (List.mem_singleton.mpr e.symm))]
@[simp] def tsNil : Unit → σ → Res σ := fun _ v => .ok v
@[simp] def tsCons (t : α → σ → Res σ) (u : τ → σ → Res σ) : α × τ → σ → Res σ := fun p v => t p.1 v >>= fun v => u p.2 v
theorem lbs_nil : LBs (σ := σ) [] [] δ δ tsNil bNil := fun V x ys v s p r => by
  obtain ⟨_, e, _⟩ := p
  match ys, e with
  | [], _ => exact ⟨s, rfl, r.mono fun i h => ⟨h, List.not_mem_nil⟩, fun _ _ => rfl⟩
theorem lbs_cons {ms vs vs2 : List Nat} {t : α → σ → Res σ} {u : τ → σ → Res σ} {b : Bd} {bs : Bds} (h1 : LB m vs δ δ1 t b) (h2 : LBs ms vs2 δ1 δ2 u bs) : LBs (m :: ms) (vs ++ vs2) δ δ2 (tsCons t u) (bCons b bs) := fun V x ys v s p r => by
  obtain ⟨⟨w1, w2⟩, e, l⟩ := p
  match ys, e, l with
  | y :: ys, e, l =>
    refine (h1 V x.1 y v s ⟨w1, (List.cons.inj e).1, l.1⟩ r).bind fun v1 s1 p1 => ?_
    refine (h2 _ x.2 ys v1 s1 ⟨w2, (List.cons.inj e).2, l.2⟩ p1.1).mono fun v2 s2 p2 => ⟨p2.1.mono fun i h => ⟨h.1.1, fun z => (List.mem_append.mp z).elim h.1.2 h.2⟩, fun i hi => ?_⟩
    rw [p2.2 i fun z => hi (List.mem_append.mpr (.inr z)), p1.2 i fun z => hi (List.mem_append.mpr (.inl z))]
@[simp] def tT2 (u : α × β × Unit → σ → Res σ) : α × β → σ → Res σ := fun p v => u (p.1, p.2, ()) v
@[simp] def tT3 (u : α × β × γ × Unit → σ → Res σ) : P3 α β γ → σ → Res σ := fun p v => u (p.a, p.b, p.c, ()) v
@[simp] def tT4 (u : α × β × γ × ρ × Unit → σ → Res σ) : P4 α β γ ρ → σ → Res σ := fun p v => u (p.a, p.b, p.c, p.d, ()) v
theorem lb_t2 {vs : List Nat} {u : α × β × Unit → σ → Res σ} {bs : Bds} (h : LBs [m - 1, m - 1] vs δ δ' u bs) : LB m vs δ δ' (tT2 u) (bTup 2 bs) := fun V x y v s p r => by
  have l := Nat.sub_le_sub_right p.2.2 1
  rw [p.eq]
  exact h V (x.1, x.2, ()) [(enc x.1, y.2 - 1), (enc x.2, y.2 - 1)] v s ⟨⟨p.1.1, p.1.2, trivial⟩, rfl, l, l, trivial⟩ r
theorem lb_t3 {vs : List Nat} {u : α × β × γ × Unit → σ → Res σ} {bs : Bds} (h : LBs [m - 1, m - 1, m - 1] vs δ δ' u bs) : LB m vs δ δ' (tT3 u) (bTup 3 bs) := fun V x y v s p r => by
  have l := Nat.sub_le_sub_right p.2.2 1
  rw [p.eq]
  exact h V (x.a, x.b, x.c, ()) [(enc x.a, y.2 - 1), (enc x.b, y.2 - 1), (enc x.c, y.2 - 1)] v s ⟨⟨p.1.1, p.1.2.1, p.1.2.2, trivial⟩, rfl, l, l, l, trivial⟩ r
theorem lb_t4 {vs : List Nat} {u : α × β × γ × ρ × Unit → σ → Res σ} {bs : Bds} (h : LBs [m - 1, m - 1, m - 1, m - 1] vs δ δ' u bs) : LB m vs δ δ' (tT4 u) (bTup 4 bs) := fun V x y v s p r => by
  have l := Nat.sub_le_sub_right p.2.2 1
  rw [p.eq]
  exact h V (x.a, x.b, x.c, x.d, ()) [(enc x.a, y.2 - 1), (enc x.b, y.2 - 1), (enc x.c, y.2 - 1), (enc x.d, y.2 - 1)] v s ⟨⟨p.1.1, p.1.2.1, p.1.2.2.1, p.1.2.2.2, trivial⟩, rfl, l, l, l, l, trivial⟩ r
/-- a, b, c = a list -/
def LBl (m : Nat) (vs : List Nat) (δ δ' : List Nat) (t : List α → σ → Res σ) (b : Bds) : Prop := ∀ (V : Nat → Prop) (xs : List α) k v s, (∀ x ∈ xs, wf x) → m ≤ k → relO V δ v s → Rt (t xs v) (b (xs.map fun x => (enc x, k)) s) fun v' s' => relO (fun i => V i ∧ i ∉ vs) δ' v' s' ∧ ∀ i, i ∉ vs → (encE v')[i]? = (encE v)[i]?
@[simp] def tlNil : List α → σ → Res σ := fun xs v => match xs with
  | [] => .ok v
  | _ :: _ => .bad
@[simp] def tlCons (t : α → σ → Res σ) (u : List α → σ → Res σ) : List α → σ → Res σ := fun xs v => match xs with
  | x :: xs => t x v >>= fun v => u xs v
  | [] => .bad
theorem lbl_nil : LBl (σ := σ) (α := α) m [] δ δ tlNil bNil := fun V xs k v s hw hk r => by
  cases xs with
  | nil => exact ⟨s, rfl, r.mono fun i h => ⟨h, List.not_mem_nil⟩, fun _ _ => rfl⟩
  | cons x xs => exact trivial
theorem lbl_cons {vs vs2 : List Nat} {t : α → σ → Res σ} {u : List α → σ → Res σ} {b : Bd} {bs : Bds} (h1 : LB m vs δ δ1 t b) (h2 : LBl m vs2 δ1 δ2 u bs) : LBl m (vs ++ vs2) δ δ2 (tlCons t u) (bCons b bs) := fun V xs k v s hw hk r => by
  cases xs with
  | nil => exact trivial
  | cons x xs =>
    refine (h1 V x (enc x, k) v s ⟨hw x (List.mem_cons_self ..), rfl, hk⟩ r).bind fun v1 s1 p1 => ?_
    refine (h2 _ xs k v1 s1 (fun z hz => hw z (List.mem_cons_of_mem _ hz)) hk p1.1).mono fun v2 s2 p2 => ⟨p2.1.mono fun i h => ⟨h.1.1, fun z => (List.mem_append.mp z).elim h.1.2 h.2⟩, fun i hi => ?_⟩
    rw [p2.2 i fun z => hi (List.mem_append.mpr (.inr z)), p1.2 i fun z => hi (List.mem_append.mpr (.inl z))]
@[simp] def tTl (n : Nat) (u : List α → σ → Res σ) : List α → σ → Res σ := fun xs v => if xs.length = n then u xs v else .bad
theorem lb_tl {n : Nat} {vs : List Nat} {u : List α → σ → Res σ} {bs : Bds} (h : LBl (m - 1) vs δ δ' u bs) : LB m vs δ δ' (tTl n u) (bTup n bs) := fun V x y v s p r => by
  have l := Nat.sub_le_sub_right p.2.2 1
  rw [p.eq]
  show Rt (if x.length = n then u x v else .bad) (if (x.map enc).length = n then bs ((x.map enc).map fun d => (d, y.2 - 1)) s else .bad) _
  rw [List.length_map, List.map_map]
  split
  · exact h V x (y.2 - 1) v s p.1.2 l r
  · exact trivial
/-! what is walked -/
def LI (δ : List Nat) (t : σ → Res (List α)) (it : Src) : Prop := ∀ v s, rel δ v s → Rt (t v) (it s) fun x y => wf x ∧ y.1 = x.map enc ∧ y.2 = s
def LIE (δ δ' : List Nat) (t : σ → Res (List α × σ)) (it : Src) : Prop := ∀ v s, rel δ v s → Rt (t v) (it s) fun x y => wf x.1 ∧ y.1 = x.1.map enc ∧ rel δ' x.2 y.2
theorem LI.e {t : σ → Res (List α)} {it : Src} (h : LI δ t it) : LIE δ δ (eP t) it := fun v s r => by
  have k := h v s r
  unfold eP
  revert k
  cases t v with
  | ok x =>
    rintro ⟨y, e, p, q, z⟩
    exact ⟨y, e, p, q, z ▸ r⟩
  | exc c p => exact id
  | bad => exact id
theorem li_l {t : σ → Res (List α)} (h : LP δ m t a) : LI δ t (iL a) := fun v s r => (h v s r).bindr fun x y p => by
  obtain ⟨y, s1⟩ := y
  obtain ⟨p, rfl⟩ := p
  have e : y = (enc x, y.2) := p.eq
  rw [e]
  exact ⟨(x.map enc, s1), rfl, p.1, rfl, rfl⟩
theorem lie_l {t : σ → Res (List α × σ)} (h : LE δ δ' m t a) : LIE δ δ' t (iL a) := fun v s r => (h v s r).bindr fun x y p => by
  obtain ⟨y, s1⟩ := y
  obtain ⟨p, r⟩ := p
  have e : y = (enc x.1, y.2) := p.eq
  rw [e]
  exact ⟨(x.1.map enc, s1), rfl, p.1, rfl, r⟩
/-- the signs of a text -/
def signs (z : Str) : List Str := z.cps.toList.map fun c => ⟨#[c]⟩
@[simp] def oSigns (z : Str) : Res (List Str) := if (signs z).all fun c => PyData.canLay0 (.str c) then .ok (signs z) else .bad
theorem li_s {t : σ → Res Str} (h : LP δ m t a) : LI δ (p1 oSigns t) (iL a) := fun v s r => (h v s r).bind fun x y p => by
  obtain ⟨y, s1⟩ := y
  obtain ⟨p, rfl⟩ := p
  have e : y = (enc x, y.2) := p.eq
  rw [e]
  unfold oSigns
  split
  · rename_i hh
    refine ⟨(x.cps.toList.map fun c => .str ⟨#[c]⟩, s1), rfl, ⟨?_, fun z hz => ?_⟩, ?_, rfl⟩
    · unfold signs
      rw [List.length_map, Array.length_toList]
      exact p.1.2
    · refine ⟨List.all_eq_true.mp hh z hz, ?_⟩
      obtain ⟨c, _, rfl⟩ := List.mem_map.mp hz
      show 1 ≤ 1000000
      omega
    · unfold signs
      rw [List.map_map]
      rfl
  · exact trivial
def rngI (a b : Int) : Res (List Int) := rngT a b
theorem rngT_wf {a b : Int} {xs : List Int} (h : rngT a b = .ok xs) : wf xs ∧ rng a (b - a).toNat = xs.map enc ∧ lo62 a = true ∧ lo62 b = true := by
  unfold rngT at h
  split at h
  · rename_i hc
    rw [Bool.and_eq_true, Bool.and_eq_true] at hc
    cases h
    refine ⟨⟨?_, fun _ _ => trivial⟩, rng_enc .., hc.1.1, hc.1.2⟩
    rw [List.length_map, List.length_range]
    exact of_decide_eq_true hc.2
  · cases h
@[simp] def oRg1 : Int × Unit → Res (List Int) := fun p => rngT 0 p.1
@[simp] def oRg2 : Int × Int × Unit → Res (List Int) := fun p => rngT p.1 p.2.1
theorem li_r1 {ms : List Nat} {t : σ → Res (Int × Unit)} {e : Exs} (h : LPs δ ms t e) : LI δ (pN oRg1 t) (iR1 e) := fun v s r => (h v s r).bind fun x y p => by
  obtain ⟨ys, s1⟩ := y
  obtain ⟨⟨_, e, _⟩, rfl⟩ := p
  unfold oRg1
  cases h : rngT 0 x.1 with
  | bad => exact trivial
  | exc c p => unfold rngT at h; split at h <;> cases h
  | ok xs =>
    obtain ⟨w, e1, _, e2⟩ := rngT_wf h
    refine ⟨(rng 0 x.1.toNat, s1), ?_, w, ?_, rfl⟩
    · show (match dat ys with | [.int j] => if lo62 j then Res.ok (rng 0 j.toNat, s1) else .bad | _ => .bad) = _
      rw [show dat ys = [.int x.1] from e]
      exact if_pos e2
    · rw [Int.sub_zero] at e1
      exact e1
theorem li_r2 {ms : List Nat} {t : σ → Res (Int × Int × Unit)} {e : Exs} (h : LPs δ ms t e) : LI δ (pN oRg2 t) (iR2 e) := fun v s r => (h v s r).bind fun x y p => by
  obtain ⟨ys, s1⟩ := y
  obtain ⟨⟨_, e, _⟩, rfl⟩ := p
  unfold oRg2
  cases h : rngT x.1 x.2.1 with
  | bad => exact trivial
  | exc c p => unfold rngT at h; split at h <;> cases h
  | ok xs =>
    obtain ⟨w, e1, e3, e2⟩ := rngT_wf h
    refine ⟨(rng x.1 (x.2.1 - x.1).toNat, s1), ?_, w, e1, rfl⟩
    show (match dat ys with | [.int i, .int j] => if lo62 i && lo62 j then Res.ok (rng i (j - i).toNat, s1) else .bad | _ => .bad) = _
    rw [show dat ys = [.int x.1, .int x.2.1] from e]
    exact if_pos (by rw [e2, e3]; rfl)
theorem lie_r1 {ms : List Nat} {t : σ → Res ((Int × Unit) × σ)} {e : Exs} (h : LEs δ δ' ms t e) : LIE δ δ' (eN oRg1 t) (iR1 e) := fun v s r => (h v s r).bind fun x y p => by
  obtain ⟨ys, s1⟩ := y
  obtain ⟨⟨_, e, _⟩, r1⟩ := p
  unfold oRg1
  cases h : rngT 0 x.1.1 with
  | bad => exact trivial
  | exc c p => unfold rngT at h; split at h <;> cases h
  | ok xs =>
    obtain ⟨w, e1, _, e2⟩ := rngT_wf h
    refine ⟨(rng 0 x.1.1.toNat, s1), ?_, w, ?_, r1⟩
    · show (match dat ys with | [.int j] => if lo62 j then Res.ok (rng 0 j.toNat, s1) else .bad | _ => .bad) = _
      rw [show dat ys = [.int x.1.1] from e]
      exact if_pos e2
    · rw [Int.sub_zero] at e1
      exact e1
theorem lie_r2 {ms : List Nat} {t : σ → Res ((Int × Int × Unit) × σ)} {e : Exs} (h : LEs δ δ' ms t e) : LIE δ δ' (eN oRg2 t) (iR2 e) := fun v s r => (h v s r).bind fun x y p => by
  obtain ⟨ys, s1⟩ := y
  obtain ⟨⟨_, e, _⟩, r1⟩ := p
  unfold oRg2
  cases h : rngT x.1.1 x.1.2.1 with
  | bad => exact trivial
  | exc c p => unfold rngT at h; split at h <;> cases h
  | ok xs =>
    obtain ⟨w, e1, e3, e2⟩ := rngT_wf h
    refine ⟨(rng x.1.1 (x.1.2.1 - x.1.1).toNat, s1), ?_, w, e1, r1⟩
    show (match dat ys with | [.int i, .int j] => if lo62 i && lo62 j then Res.ok (rng i (j - i).toNat, s1) else .bad | _ => .bad) = _
    rw [show dat ys = [.int x.1.1, .int x.1.2.1] from e]
    exact if_pos (by rw [e2, e3]; rfl)
def rngDT (a b : Int) : Res (List Int) := if lo62 a && lo62 b && decide ((a - b).toNat ≤ 1000000) then .ok ((List.range (a - b).toNat).map fun i => a - (i : Nat)) else .bad
@[simp] def oRg3 : Int × Int × Int × Unit → Res (List Int) := fun p => if p.2.2.1 = -1 then rngDT p.1 p.2.1 else .bad
theorem li_r3 {ms : List Nat} {t : σ → Res (Int × Int × Int × Unit)} {e : Exs} (h : LPs δ ms t e) : LI δ (pN oRg3 t) (iR3 e) := fun v s r => (h v s r).bind fun x y p => by
  obtain ⟨ys, s1⟩ := y
  obtain ⟨⟨_, e, _⟩, rfl⟩ := p
  unfold oRg3
  split
  · rename_i h3
    unfold rngDT
    split
    · rename_i hc
      rw [Bool.and_eq_true] at hc
      refine ⟨(rngD x.1 (x.1 - x.2.1).toNat, s1), ?_, ⟨?_, fun _ _ => trivial⟩, ?_, rfl⟩
      · show (match dat ys with | [.int i, .int j, .int (-1)] => if lo62 i && lo62 j then Res.ok (rngD i (i - j).toNat, s1) else .bad | _ => .bad) = _
        rw [show dat ys = [.int x.1, .int x.2.1, .int x.2.2.1] from e, h3]
        exact if_pos hc.1
      · rw [List.length_map, List.length_range]
        exact of_decide_eq_true hc.2
      · unfold rngD
        rw [List.map_map]
        rfl
    · exact trivial
  · exact trivial
@[simp] def oEnum : List α × Unit → Res (List (Int × α)) := fun p => .ok (p.1.mapIdx fun i x => ((i : Int), x))
theorem li_en {ms : List Nat} {t : σ → Res (List α × Unit)} {e : Exs} (h : LPs δ ms t e) : LI δ (pN oEnum t) (iEn e) := fun v s r => (h v s r).bind fun x y p => by
  obtain ⟨ys, s1⟩ := y
  obtain ⟨⟨w, e, _⟩, rfl⟩ := p
  refine ⟨(enumD (x.1.map enc), s1), ?_, ⟨?_, fun z hz => ?_⟩, ?_, rfl⟩
  · show (match dat ys with | [.list ds] => Res.ok (enumD ds, s1) | _ => .bad) = _
    rw [show dat ys = [.list (x.1.map enc)] from e]
  · rw [List.length_mapIdx]; exact w.1.1
  · obtain ⟨j, hj, rfl⟩ := List.mem_mapIdx.mp hz
    exact ⟨trivial, w.1.2 _ (List.getElem_mem hj)⟩
  · unfold enumD
    show ((x.1.map enc).mapIdx fun i d => PyData.tuple [.int (i : Nat), d]) = (x.1.mapIdx fun i x => ((i : Int), x)).map enc
    apply List.ext_getElem?
    intro j
    simp only [List.getElem?_mapIdx, List.getElem?_map]
    cases x.1[j]? <;> rfl
@[simp] def oZip : List α × List β × Unit → Res (List (α × β)) := fun p => .ok (p.1.zip p.2.1)
theorem li_z {ms : List Nat} {t : σ → Res (List α × List β × Unit)} {e : Exs} (h : LPs δ ms t e) : LI δ (pN oZip t) (iZ e) := fun v s r => (h v s r).bind fun x y p => by
  obtain ⟨ys, s1⟩ := y
  obtain ⟨⟨w, e, _⟩, rfl⟩ := p
  refine ⟨(zipD (x.1.map enc) (x.2.1.map enc), s1), ?_, ⟨?_, fun z hz => ?_⟩, ?_, rfl⟩
  · show (match dat ys with | [.list ds, .list es] => Res.ok (zipD ds es, s1) | _ => .bad) = _
    rw [show dat ys = [.list (x.1.map enc), .list (x.2.1.map enc)] from e]
  · rw [List.length_zip]
    exact Nat.le_trans (Nat.min_le_left _ _) w.1.1
  · obtain ⟨h1, h2⟩ := List.of_mem_zip hz
    exact ⟨w.1.2 _ h1, w.2.1.2 _ h2⟩
  · unfold zipD
    rw [List.zipWith_map, List.zip, List.map_zipWith]
    rfl
@[simp] def oRvd : List α × Unit → Res (List α) := fun p => .ok p.1.reverse
theorem li_rv {ms : List Nat} {t : σ → Res (List α × Unit)} {e : Exs} (h : LPs δ ms t e) : LI δ (pN oRvd t) (iRv e) := fun v s r => (h v s r).bind fun x y p => by
  obtain ⟨ys, s1⟩ := y
  obtain ⟨⟨w, e, _⟩, rfl⟩ := p
  refine ⟨((x.1.map enc).reverse, s1), ?_, ⟨?_, fun z hz => ?_⟩, ?_, rfl⟩
  · show (match dat ys with | [.list ds] => Res.ok (ds.reverse, s1) | _ => .bad) = _
    rw [show dat ys = [.list (x.1.map enc)] from e]
  · rw [List.length_reverse]; exact w.1.1
  · exact w.1.2 _ (List.mem_reverse.mp hz)
  · rw [List.map_reverse]
/-! list comprehensions -/
def tComp (tb : α → σ → Res σ) (c : σ → Res Bool) (e : σ → Res β) (v : σ) : List α → Res (List β)
  | [] => .ok []
  | x :: xs => tb x v >>= fun w => c w >>= fun t => if t then e w >>= fun y => tComp tb c e v xs >>= fun ys => .ok (y :: ys) else tComp tb c e v xs
def leO (vs a b : List Nat) : Bool := (List.range (max a.length b.length)).all fun i => vs.contains i || decide (a.getD i 0 ≤ b.getD i 0)
theorem leO_at {vs a b : List Nat} (h : leO vs a b = true) {i : Nat} (hv : i ∉ vs) : a.getD i 0 ≤ b.getD i 0 := by
  by_cases hi : i < max a.length b.length
  · have h := List.all_eq_true.mp h i (List.mem_range.mpr hi)
    rw [Bool.or_eq_true] at h
    rcases h with h | h
    · exact absurd (List.contains_iff_mem.mp h) hv
    · exact of_decide_eq_true h
  · have : a.getD i 0 = 0 := by rw [List.getD_eq_getElem?_getD, List.getElem?_eq_none (by omega)]; rfl
    omega
theorem relO.wipe {vs : List Nat} (r : relO (· ∈ vs) δ v s) : relO (· ∈ vs) δ v (wipeD vs s) := by
  refine ⟨by unfold wipeD; rw [List.length_mapIdx, r.1], r.2.1, fun i d n e => ?_⟩
  obtain ⟨k, e1, e2⟩ := r.2.2 i d n e
  refine ⟨k, ?_, e2⟩
  unfold wipeD
  rw [List.getElem?_mapIdx, e1]
  show some (if i ∈ vs then none else _) = _
  rw [if_neg n]
/-- back to what was ahead of the binding -/
theorem relO.back {vs : List Nat} {v' : σ} {s' : SD} (r0 : relO (· ∈ vs) δ v s) (r : Sq.rel δb v' s') (f : ∀ i, i ∉ vs → (encE v')[i]? = (encE v)[i]?) (h : leO vs δ δb = true) : relO (· ∈ vs) δ v s' := by
  refine ⟨?_, r0.2.1, fun i d n e => ?_⟩
  · rw [r.1]
    show (EnvE.encE v').length = (EnvE.encE v).length
    rw [EnvE.len, EnvE.len]
  · rw [← f i n] at e
    obtain ⟨k, e1, e2⟩ := r.2.2 i d e
    exact ⟨k, e1, Nat.le_trans (leO_at h n) e2⟩
theorem comp_ok {vs : List Nat} {tb : α → σ → Res σ} {b : Bd} {tc : σ → Res Bool} {c : Tst} {te : σ → Res β} (hb : LB 0 vs δ δb tb b) (hc : LT δb tc c) (he : LP δb m te a) (h : leO vs δ δb = true) (v : σ) :
    ∀ (xs : List α) (s : SD), (∀ x ∈ xs, wf x) → relO (· ∈ vs) δ v s → Rt (tComp tb tc te v xs) (loopC vs b c a (xs.map enc) s) fun ys r => (∀ y ∈ ys, wf y) ∧ ys.length ≤ xs.length ∧ r.1.map (·.1) = ys.map enc ∧ (∀ d ∈ r.1, dpt (hm β) m ≤ dep d)
  | [], s, _, r => Rt.ok ⟨(fun _ h => nomatch h), Nat.le_refl _, rfl, (fun _ h => nomatch h)⟩
  | x :: xs, s, hw, r => by
    rw [List.map_cons, tComp, loopC]
    refine (hb (· ∈ vs) x (enc x, 0) v (wipeD vs s) ⟨hw x (List.mem_cons_self ..), rfl, Nat.le_refl _⟩ r.wipe).bind fun w1 s1 p1 => ?_
    have r1 : Sq.rel δb w1 s1 := p1.1.rel fun i z => z.2 z.1
    have hw' := fun z hz => hw z (List.mem_cons_of_mem _ hz)
    refine (hc w1 s1 r1).bind fun t z q => ?_
    subst q
    have r2 : relO (· ∈ vs) δ v s1 := r.back r1 p1.2 h
    cases t with
    | false => exact (comp_ok hb hc he h v xs s1 hw' r2).mono fun ys r p => ⟨p.1, Nat.le_succ_of_le p.2.1, p.2.2⟩
    | true =>
      refine (he w1 s1 r1).bind fun y z p => ?_
      obtain ⟨z, s2⟩ := z
      obtain ⟨p, rfl⟩ := p
      refine (comp_ok hb hc he h v xs s2 hw' r2).bind fun ys zs q => ?_
      refine Rt.ok ⟨fun u hu => ?_, Nat.succ_le_succ q.2.1, ?_, fun d hd => ?_⟩
      · rcases List.mem_cons.mp hu with rfl | hu
        · exact p.1
        · exact q.1 u hu
      · rw [List.map_cons, List.map_cons, q.2.2.1]
        exact congrArg (· :: _) p.2.1
      · rcases List.mem_cons.mp hd with rfl | hd
        · exact dep_VR p
        · exact q.2.2.2 d hd
theorem restore_nil (s1 s2 : SD) : restore [] s1 s2 = s1 := by
  unfold restore
  rw [List.mapIdx_eq_zipIdx_map]
  simp
@[simp] def pLc (ts : σ → Res (List α)) (tb : α → σ → Res σ) (tc : σ → Res Bool) (te : σ → Res β) : σ → Res (List β) := fun v => ts v >>= fun xs => tComp tb tc te v xs
@[simp] def pYes : σ → Res Bool := fun _ => .ok true
theorem lt_yes : LT (σ := σ) δ pYes tYes2 := fun v s r => Rt.ok rfl
theorem lp_lc {vs fv : List Nat} {ts : σ → Res (List α)} {it : Src} {tb : α → σ → Res σ} {b : Bd} {tc : σ → Res Bool} {c : Tst} {te : σ → Res β} (hs : LI δ ts it) (hb : LB 0 vs (demD fv δ) δb tb b) (hc : LT δb tc c) (he : LP δb m te a) (h : leO vs (demD fv δ) δb = true := by decide) : LP δ (dpt (hm β) m + 1) (pLc ts tb tc te) (evLc vs fv [] b it c a) := fun v s r => (hs v s r).bind fun xs y p => by
  obtain ⟨ds, s1⟩ := y
  obtain ⟨hw, e, rfl⟩ := p
  have e : ds = xs.map enc := e
  subst e
  have k := comp_ok hb hc he h v xs (demote fv s1) hw.2 ((r.dem fv).o _)
  refine k.bindr fun ys z q => ?_
  obtain ⟨zs, s2⟩ := z
  obtain ⟨q1, q2, q3, q4⟩ := q
  have el : zs.length = ys.length := by rw [← List.length_map (f := (·.1)) (as := zs), q3, List.length_map]
  have hl : ys.length ≤ 1000000 := Nat.le_trans q2 hw.1
  show Rt _ (if small zs.length then Res.ok ((PyData.list (zs.map (·.1)), minAll (zs.map dep) + 1), restore [] s1 s2) else .bad) _
  rw [if_pos (show small zs.length = true by rw [el]; exact decide_eq_true hl), restore_nil]
  refine Rt.ok ⟨⟨⟨hl, q1⟩, ?_, ?_⟩, rfl⟩
  · show PyData.list _ = PyData.list _
    rw [q3]
  · exact Nat.succ_le_succ (le_minAll (dpt9 ..) fun n hn => by
      obtain ⟨y, hy, rfl⟩ := List.mem_map.mp hn
      exact q4 y hy)
/-! what is left alone, what was changed -/
def Mx (ch : List Nat) (f : σ → σ → σ) : Prop := ∀ v w, (wfE v → wfE w → wfE (f v w)) ∧ ∀ i, (encE (f v w))[i]? = if i ∈ ch then (encE w)[i]? else (encE v)[i]?
@[simp] def mxNil : σ → σ → σ := fun v _ => v
@[simp] def mxCons (x : Sl σ α i) (f : σ → σ → σ) : σ → σ → σ := fun v w => x.set (f v w) (x.get w)
theorem mx_nil : Mx (σ := σ) [] mxNil := fun v w => ⟨fun h _ => h, fun i => by simp⟩
theorem mx_cons {ch : List Nat} {f : σ → σ → σ} (x : Sl σ α i) (h : Mx ch f) (hx : ∀ v, (encE v)[i]? = some ((x.get v).map enc) := by intro v; rfl) : Mx (i :: ch) (mxCons x f) := fun v w => ⟨fun h1 h2 => x.set_wf _ _ ((h v w).1 h1 h2) fun y e => x.get_wf w y h2 e, fun j => by
  show (encE (x.set (f v w) (x.get w)))[j]? = _
  rw [x.set_enc]
  by_cases hj : i = j
  · subst hj
    rw [if_pos (List.mem_cons_self ..), hx, List.getElem?_set_self']
    have : (encE (f v w))[i]? = some ((x.get (f v w)).map enc) := hx _
    rw [this]
    rfl
  · rw [List.getElem?_set_ne hj, (h v w).2 j]
    have : j ∈ i :: ch ↔ j ∈ ch := ⟨fun z => (List.mem_cons.mp z).elim (fun e => absurd e.symm hj) id, fun z => List.mem_cons_of_mem _ z⟩
    simp only [this]⟩
def mixD (ch a b : List Nat) : List Nat := (List.range (max a.length b.length)).map fun i => if ch.contains i then b.getD i 0 else a.getD i 0
theorem mixD_at (ch a b : List Nat) (i : Nat) : (mixD ch a b).getD i 0 ≤ if i ∈ ch then b.getD i 0 else a.getD i 0 := by
  unfold mixD
  rw [List.getD_eq_getElem?_getD, List.getElem?_map]
  by_cases hi : i < max a.length b.length
  · rw [List.getElem?_range hi]
    show (if ch.contains i then b.getD i 0 else a.getD i 0) ≤ _
    by_cases h : i ∈ ch
    · rw [if_pos h, if_pos (List.contains_iff_mem.mpr h)]
      exact Nat.le_refl _
    · rw [if_neg h, if_neg fun z => h (List.contains_iff_mem.mp z)]
      exact Nat.le_refl _
  · rw [List.getElem?_eq_none (by rw [List.length_range]; omega)]
    exact Nat.zero_le _
/-- of the changed slots all is one's own -/
def fullAt (ch hs δ : List Nat) : Bool := ch.all fun i => decide (hs.getD i 0 ≤ δ.getD i 0)
theorem rel.restore {ch : List Nat} {f : σ → σ → σ} {s1 s2 : SD} {V : Nat → Prop} (h : Mx ch f) (r1 : Sq.rel δ1 v s1) (r2 : relO V δ2 w s2) (hV : ∀ i ∈ ch, ¬ V i) (hf : fullAt ch (hms σ) δ2 = true) : Sq.rel (mixD ch δ1 δ2) (f v w) (Sq.restore ch s1 s2) := by
  refine ⟨?_, (h v w).1 r1.2.1 r2.2.1, fun i d e => ?_⟩
  · unfold Sq.restore
    rw [List.length_mapIdx, r1.1]
    show (EnvE.encE v).length = (EnvE.encE (f v w)).length
    rw [EnvE.len, EnvE.len]
  · rw [(h v w).2 i] at e
    have hd := mixD_at ch δ1 δ2 i
    unfold Sq.restore
    rw [List.getElem?_mapIdx]
    have hl : s1.length = s2.length := by
      rw [r1.1, r2.1]
      show (EnvE.encE v).length = (EnvE.encE w).length
      rw [EnvE.len, EnvE.len]
    by_cases hi : i ∈ ch
    · rw [if_pos hi] at e hd
      obtain ⟨k, e1, e2⟩ := r2.2.2 i d (hV i hi) e
      have h1 : i < s1.length := by
        rw [hl]
        exact (List.getElem?_eq_some_iff.mp e1).1
      refine ⟨k, ?_, Nat.le_trans hd e2⟩
      rw [List.getElem?_eq_getElem h1]
      show some (if i ∈ ch then keepFull ((s2[i]?).getD none) else _) = _
      rw [if_pos hi, e1]
      show some (if full (d, k) then some (d, k) else none) = _
      rw [if_pos]
      refine decide_eq_true (Nat.le_trans (EnvE.hgt_e w i d e) (Nat.le_trans ?_ e2))
      exact of_decide_eq_true (List.all_eq_true.mp hf i hi)
    · rw [if_neg hi] at e hd
      obtain ⟨k, e1, e2⟩ := r1.2.2 i d e
      refine ⟨k, ?_, Nat.le_trans hd e2⟩
      rw [e1]
      show some (if i ∈ ch then _ else some (d, k)) = _
      rw [if_neg hi]
def tCompE (tb : α → σ → Res σ) (c : σ → Res (Bool × σ)) (e : σ → Res (β × σ)) : List α → σ → Res (List β × σ)
  | [], v => .ok ([], v)
  | x :: xs, v => tb x v >>= fun w => c w >>= fun t => if t.1 then e t.2 >>= fun y => tCompE tb c e xs y.2 >>= fun ys => .ok (y.1 :: ys.1, ys.2) else tCompE tb c e xs t.2
theorem relO.of {vs : List Nat} (r : Sq.rel δb v s) (h : leO vs δ δb = true) : relO (· ∈ vs) δ v s := ⟨r.1, r.2.1, fun i d n e => by
  obtain ⟨k, e1, e2⟩ := r.2.2 i d e
  exact ⟨k, e1, Nat.le_trans (leO_at h n) e2⟩⟩
theorem compE_ok {vs : List Nat} {tb : α → σ → Res σ} {b : Bd} {tc : σ → Res (Bool × σ)} {c : Tst} {te : σ → Res (β × σ)} (hb : LB 0 vs δ δb tb b) (hc : LTE δb δc tc c) (he : LE δc δe m te a) (h1 : leO vs δ δc = true) (h2 : leO vs δ δe = true) :
    ∀ (xs : List α) (v : σ) (s : SD), (∀ x ∈ xs, wf x) → relO (· ∈ vs) δ v s → Rt (tCompE tb tc te xs v) (loopC vs b c a (xs.map enc) s) fun ys r => (∀ y ∈ ys.1, wf y) ∧ ys.1.length ≤ xs.length ∧ r.1.map (·.1) = ys.1.map enc ∧ (∀ d ∈ r.1, dpt (hm β) m ≤ dep d) ∧ relO (· ∈ vs) δ ys.2 r.2
  | [], v, s, _, r => Rt.ok ⟨(fun _ h => nomatch h), Nat.le_refl _, rfl, (fun _ h => nomatch h), r⟩
  | x :: xs, v, s, hw, r => by
    rw [List.map_cons, tCompE, loopC]
    refine (hb (· ∈ vs) x (enc x, 0) v (wipeD vs s) ⟨hw x (List.mem_cons_self ..), rfl, Nat.le_refl _⟩ r.wipe).bind fun w1 s1 p1 => ?_
    have r1 : Sq.rel δb w1 s1 := p1.1.rel fun i z => z.2 z.1
    have hw' := fun z hz => hw z (List.mem_cons_of_mem _ hz)
    refine (hc w1 s1 r1).bind fun t z q => ?_
    obtain ⟨t, w2⟩ := t
    obtain ⟨z, s2⟩ := z
    obtain ⟨q, r2⟩ := q
    have q : z = t := q
    subst q
    cases z with
    | false => exact (compE_ok hb hc he h1 h2 xs w2 s2 hw' (relO.of r2 h1)).mono fun ys r p => ⟨p.1, Nat.le_succ_of_le p.2.1, p.2.2⟩
    | true =>
      refine (he w2 s2 r2).bind fun y z p => ?_
      refine (compE_ok hb hc he h1 h2 xs y.2 z.2 hw' (relO.of p.2 h2)).bind fun ys zs q => ?_
      refine Rt.ok ⟨fun u hu => ?_, Nat.succ_le_succ q.2.1, ?_, fun d hd => ?_, q.2.2.2.2⟩
      · rcases List.mem_cons.mp hu with rfl | hu
        · exact p.1.1
        · exact q.1 u hu
      · rw [List.map_cons, List.map_cons, q.2.2.1]
        exact congrArg (· :: _) p.1.2.1
      · rcases List.mem_cons.mp hd with rfl | hd
        · exact dep_VR p.1
        · exact q.2.2.2.1 d hd
@[simp] def eLc (mx : σ → σ → σ) (ts : σ → Res (List α × σ)) (tb : α → σ → Res σ) (tc : σ → Res (Bool × σ)) (te : σ → Res (β × σ)) : σ → Res (List β × σ) := fun v => ts v >>= fun xs => tCompE tb tc te xs.1 xs.2 >>= fun ys => .ok (ys.1, mx xs.2 ys.2)
theorem le_lc {vs fv ch : List Nat} {mx : σ → σ → σ} {ts : σ → Res (List α × σ)} {it : Src} {tb : α → σ → Res σ} {b : Bd} {tc : σ → Res (Bool × σ)} {c : Tst} {te : σ → Res (β × σ)} (δL : List Nat) (hx : Mx ch mx) (hs : LIE δ δ1 ts it) (hb : LB 0 vs δL δb tb b) (hc : LTE δb δc tc c) (he : LE δc δe m te a) (h0 : leD δL (demD fv δ1) = true := by decide) (h1 : leO vs δL δc = true := by decide) (h2 : leO vs δL δe = true := by decide) (h3 : djn ch vs = true := by decide) (h4 : fullAt ch (hms σ) δL = true := by decide) : LE δ (mixD ch δ1 δL) (dpt (hm β) m + 1) (eLc mx ts tb tc te) (evLc vs fv ch b it c a) := fun v s r => (hs v s r).bind fun xs y p => by
  obtain ⟨ds, s1⟩ := y
  obtain ⟨hw, e, r1⟩ := p
  have e : ds = xs.1.map enc := e
  subst e
  have k := compE_ok hb hc he h1 h2 xs.1 xs.2 (demote fv s1) hw.2 (((r1.dem fv).mono h0).o _)
  refine k.bind fun ys z q => ?_
  obtain ⟨zs, s2⟩ := z
  obtain ⟨q1, q2, q3, q4, q5⟩ := q
  have el : zs.length = ys.1.length := by rw [← List.length_map (f := (·.1)) (as := zs), q3, List.length_map]
  have hl : ys.1.length ≤ 1000000 := Nat.le_trans q2 hw.1
  show Rt _ (if small zs.length then Res.ok ((PyData.list (zs.map (·.1)), minAll (zs.map dep) + 1), restore ch s1 s2) else .bad) _
  rw [if_pos (show small zs.length = true by rw [el]; exact decide_eq_true hl)]
  refine Rt.ok ⟨⟨⟨hl, q1⟩, ?_, ?_⟩, r1.restore hx q5 (fun i hi z => ?_) h4⟩
  · show PyData.list _ = PyData.list _
    rw [q3]
  · exact Nat.succ_le_succ (le_minAll (dpt9 ..) fun n hn => by
      obtain ⟨y, hy, rfl⟩ := List.mem_map.mp hn
      exact q4 y hy)
  · have := List.all_eq_true.mp h3 i hi
    rw [Bool.not_eq_true', ← Bool.not_eq_true, List.contains_iff_mem] at this
    exact this z
/-! calls -/
def leL : List Nat → List Nat → Bool
  | [], [] => true
  | m :: ms, k :: ks => decide (m ≤ k) && leL ms ks
  | _, _ => false
theorem leAll_mono : ∀ {ms ks js : List Nat}, leL ms ks = true → leAll ks js → leAll ms js
  | [], [], js, _, h => h
  | m :: ms, k :: ks, j :: js, h, h2 => by
    rw [leL, Bool.and_eq_true] at h
    exact ⟨Nat.le_trans (of_decide_eq_true h.1) h2.1, leAll_mono h.2 h2.2⟩
theorem AR.mono {ms ks : List Nat} {x : τ} {ys : List DV} (h : leL ms ks = true) (r : AR ks x ys) : AR ms x ys := ⟨r.1, r.2.1, leAll_mono h r.2.2⟩
structure LF (ms : List Nat) (m : Nat) (f : τ → Res ρ) (g : Fn) : Prop where
  run : ∀ x ys, AR ms x ys → Rt (f x) (g ys) fun r z => VR m r z.1
structure LF1 (ms : List Nat) (m j : Nat) (f : τ → Res (ρ × κ)) (g : Fn) : Prop where
  run : ∀ x ys, AR ms x ys → Rt (f x) (g ys) fun r z => VR m r.1 z.1 ∧ wf r.2 ∧ ∃ k, z.2[j]? = some (some (enc r.2, k)) ∧ hm κ ≤ k
theorem lp_call {ms ks : List Nat} {f : τ → Res ρ} {g : Fn} {ts : σ → Res τ} {as : Exs} (hf : LF ms m f g) (ha : LPs δ ks ts as) (h : leL ms ks = true := by decide) : LP δ m (pN f ts) (evCall g [] as) := fun v s r => (ha v s r).bind fun x y p => by
  obtain ⟨y, s1⟩ := y
  obtain ⟨p, rfl⟩ := p
  exact (hf.run x y (p.mono h)).bindr fun z w q => Rt.ok ⟨q, rfl⟩
theorem le_call {ms ks : List Nat} {f : τ → Res ρ} {g : Fn} {ts : σ → Res (τ × σ)} {as : Exs} (hf : LF ms m f g) (ha : LEs δ δ1 ks ts as) (h : leL ms ks = true := by decide) : LE δ δ1 m (eN f ts) (evCall g [] as) := fun v s r => (ha v s r).bind fun x y p => (hf.run x.1 y.1 (p.1.mono h)).bind fun z w q => Rt.ok ⟨q, p.2⟩
@[simp] def eCall1 (x : Sl σ κ i) (f : τ → Res (ρ × κ)) (t : σ → Res (τ × σ)) : σ → Res (ρ × σ) := fun v => t v >>= fun a => f a.1 >>= fun z => .ok (z.1, x.set a.2 (some z.2))
theorem le_call1 {ms ks : List Nat} {j : Nat} {f : τ → Res (ρ × κ)} {g : Fn} {ts : σ → Res (τ × σ)} {as : Exs} (x : Sl σ κ i) (hf : LF1 ms m j f g) (ha : LEs δ δ1 ks ts as) (h : leL ms ks = true := by decide) : LE δ (δ1.set i (hm κ)) m (eCall1 x f ts) (evCall g [(j, i)] as) := fun v s r => (ha v s r).bind fun a y p => (hf.run a.1 y.1 (p.1.mono h)).bind fun z w q => by
  obtain ⟨q1, q2, k, q3, q4⟩ := q
  refine ⟨(w.1, y.2.set i (some (enc z.2, k))), ?_, q1, p.2.set x q2 q4⟩
  show Res.ok (w.1, y.2.set i (keepFull ((w.2[j]?).getD none))) = _
  rw [q3]
  show Res.ok (w.1, y.2.set i (if full (enc z.2, k) then _ else _)) = _
  rw [if_pos (full_enc z.2 q4)]
end
end Sq
end

section
namespace Sq
open PySem PySem.Spec L2
open Enc (enc hm wf hgt_le)
open EnvE (encE wfE hms)
open ArgE (encA wfA)
/-! ### typed statements -/
inductive TF (ρ : Type) where
  | next
  | ret (x : ρ)
  | brk
section
variable {σ : Type} [EnvE σ] {α β γ ρ κ : Type} [Enc α] [Enc β] [Enc γ] [Enc ρ] [Enc κ] {i : Nat} {δ δ' δ1 δ2 δ3 δb δc δe δL δn δr δk : List Nat} {m ma mb mr : Nat} {a b : Ex} {v w : σ} {s : SD}
def FR (δn δr δk : List Nat) (mr : Nat) : TF ρ → Fl → σ → SD → Prop
  | .next, .next, v, s => rel δn v s
  | .ret r, .ret d, v, s => VR mr r d ∧ rel δr v s
  | .brk, .brk, v, s => rel δk v s
  | _, _, _, _ => False
structure LS (δ δn δr δk : List Nat) (mr : Nat) (t : σ → Res (TF ρ × σ)) (p : Sx) : Prop where
  run : ∀ v s, rel δ v s → Rt (t v) (p s) fun x y => FR δn δr δk mr x.1 y.1 x.2 y.2
instance {δ δn δr δk : List Nat} {mr : Nat} {t : σ → Res (TF ρ × σ)} {p : Sx} : CoeFun (LS δ δn δr δk mr t p) (fun _ => ∀ v s, rel δ v s → Rt (t v) (p s) fun x y => FR δn δr δk mr x.1 y.1 x.2 y.2) := ⟨LS.run⟩
variable {t : σ → Res α} {te : σ → Res (α × σ)} {st su : σ → Res (TF ρ × σ)} {p q : Sx}
theorem LS.mono (h : LS δ δn δr δk mr st p) (hn : leD δ' δn = true := by decide) : LS δ δ' δr δk mr st p := LS.mk fun v s r => (h v s r).mono fun x y z => by
  obtain ⟨x, v'⟩ := x
  obtain ⟨y, s'⟩ := y
  cases x <;> cases y <;> first | exact z | exact rel.mono z hn
theorem LS.pre (h : LS δ δn δr δk mr st p) (hn : leD δ δ' = true := by decide) : LS δ' δn δr δk mr st p := LS.mk fun v s r => h v s (r.mono hn)
@[simp] def sNop : σ → Res (TF ρ × σ) := fun v => .ok (.next, v)
theorem ls_skip : LS (ρ := ρ) (σ := σ) δ δ δr δk mr sNop sSkip := LS.mk fun v s r => Rt.ok r
theorem ls_bad : LS (ρ := ρ) (σ := σ) δ δn δr δk mr (fun _ => .bad) sBad := LS.mk fun v s r => trivial
@[simp] def sBk : σ → Res (TF ρ × σ) := fun v => .ok (.brk, v)
theorem ls_brk (h : leD δk δ = true := by decide) : LS (ρ := ρ) (σ := σ) δ δn δr δk mr sBk sBrk := LS.mk fun v s r => Rt.ok (r.mono h)
@[simp] def sLet (x : Sl σ α i) (t : σ → Res α) : σ → Res (TF ρ × σ) := fun v => t v >>= fun a => .ok (.next, x.set v (some a))
@[simp] def sLetE (x : Sl σ α i) (t : σ → Res (α × σ)) : σ → Res (TF ρ × σ) := fun v => t v >>= fun a => .ok (.next, x.set a.2 (some a.1))
theorem ls_let {fv : List Nat} (x : Sl σ α i) (h : LP δ m t a) : LS (ρ := ρ) δ ((setD (hm α) m fv δ).set i m) δr δk mr (sLet x t) (sAsg i fv a) := LS.mk fun v s r => (h v s r).bind fun z y p => by
  obtain ⟨y, s1⟩ := y
  obtain ⟨p, rfl⟩ := p
  have e : y = (enc z, y.2) := p.eq
  have l : m ≤ y.2 := p.2.2
  rw [e]
  exact Rt.ok ((r.settle (a := z) l).set x p.1 l)
theorem ls_letE {fv : List Nat} (x : Sl σ α i) (h : LE δ δ1 m te a) : LS (ρ := ρ) δ ((setD (hm α) m fv δ1).set i m) δr δk mr (sLetE x te) (sAsg i fv a) := LS.mk fun v s r => (h v s r).bind fun z y p => by
  obtain ⟨y, s1⟩ := y
  obtain ⟨p, r1⟩ := p
  have e : y = (enc z.1, y.2) := p.eq
  have l : m ≤ y.2 := p.2.2
  rw [e]
  exact Rt.ok ((r1.settle (a := z.1) l).set x p.1 l)
@[simp] def sBind (tb : α → σ → Res σ) (t : σ → Res α) : σ → Res (TF ρ × σ) := fun v => t v >>= fun a => tb a v >>= fun v => .ok (.next, v)
@[simp] def sBindE (tb : α → σ → Res σ) (t : σ → Res (α × σ)) : σ → Res (TF ρ × σ) := fun v => t v >>= fun a => tb a.1 a.2 >>= fun v => .ok (.next, v)
theorem ls_bind {fv vs : List Nat} {tb : α → σ → Res σ} {b : Bd} (h : LP δ m t a) (hb : LB m vs (setD (hm α) m fv δ) δ1 tb b) : LS (ρ := ρ) δ δ1 δr δk mr (sBind tb t) (sAsgT b fv a) := LS.mk fun v s r => (h v s r).bind fun z y p => by
  obtain ⟨y, s1⟩ := y
  obtain ⟨p, rfl⟩ := p
  have e : y = (enc z, y.2) := p.eq
  have l : m ≤ y.2 := p.2.2
  refine (hb (fun _ => False) z y v (settle fv y s1) p ?_).bind fun v1 s2 p1 => Rt.ok (p1.1.rel fun i z => z.1)
  rw [e]
  exact (r.settle (a := z) l).o _
theorem ls_bindE {fv vs : List Nat} {tb : α → σ → Res σ} {b : Bd} (h : LE δ δ1 m te a) (hb : LB m vs (setD (hm α) m fv δ1) δ2 tb b) : LS (ρ := ρ) δ δ2 δr δk mr (sBindE tb te) (sAsgT b fv a) := LS.mk fun v s r => (h v s r).bind fun z y p => by
  obtain ⟨y, s1⟩ := y
  obtain ⟨p, r1⟩ := p
  have e : y = (enc z.1, y.2) := p.eq
  have l : m ≤ y.2 := p.2.2
  refine (hb (fun _ => False) z.1 y z.2 (settle fv y s1) p ?_).bind fun v1 s2 p1 => Rt.ok (p1.1.rel fun i z => z.1)
  rw [e]
  exact (r1.settle (a := z.1) l).o _
@[simp] def sDo (t : σ → Res α) : σ → Res (TF ρ × σ) := fun v => t v >>= fun _ => .ok (.next, v)
@[simp] def sDoE (t : σ → Res (α × σ)) : σ → Res (TF ρ × σ) := fun v => t v >>= fun a => .ok (.next, a.2)
theorem ls_do (h : LP δ m t a) : LS (ρ := ρ) δ δ δr δk mr (sDo t) (sExpr a) := LS.mk fun v s r => (h v s r).bind fun z y p => Rt.ok (p.2 ▸ r)
theorem ls_doE (h : LE δ δ1 m te a) : LS (ρ := ρ) δ δ1 δr δk mr (sDoE te) (sExpr a) := LS.mk fun v s r => (h v s r).bind fun z y p => Rt.ok p.2
@[simp] def sRe (t : σ → Res ρ) : σ → Res (TF ρ × σ) := fun v => t v >>= fun a => .ok (.ret a, v)
@[simp] def sReE (t : σ → Res (ρ × σ)) : σ → Res (TF ρ × σ) := fun v => t v >>= fun a => .ok (.ret a.1, a.2)
theorem ls_ret {fv : List Nat} {t : σ → Res ρ} (h : LP δ m t a) (h1 : mr ≤ m := by decide) (h2 : leD δr (setD (hm ρ) m fv δ) = true := by decide) : LS δ δn δr δk mr (sRe t) (sRet fv a) := LS.mk fun v s r => (h v s r).bind fun z y p => by
  obtain ⟨y, s1⟩ := y
  obtain ⟨p, rfl⟩ := p
  have e : y = (enc z, y.2) := p.eq
  have l : m ≤ y.2 := p.2.2
  have w : wf z := p.1
  rw [e]
  exact ⟨_, rfl, ⟨w, rfl, Nat.le_trans h1 l⟩, (r.settle (a := z) l).mono h2⟩
theorem ls_retE {fv : List Nat} {t : σ → Res (ρ × σ)} (h : LE δ δ1 m t a) (h1 : mr ≤ m := by decide) (h2 : leD δr (setD (hm ρ) m fv δ1) = true := by decide) : LS δ δn δr δk mr (sReE t) (sRet fv a) := LS.mk fun v s r => (h v s r).bind fun z y p => by
  obtain ⟨y, s1⟩ := y
  obtain ⟨p, r1⟩ := p
  have e : y = (enc z.1, y.2) := p.eq
  have l : m ≤ y.2 := p.2.2
  have w : wf z.1 := p.1
  rw [e]
  exact ⟨_, rfl, ⟨w, rfl, Nat.le_trans h1 l⟩, (r1.settle (a := z.1) l).mono h2⟩
def sThen (t u : σ → Res (TF ρ × σ)) : σ → Res (TF ρ × σ) := fun v => t v >>= fun x => match x.1 with
  | .next => u x.2
  | fl => .ok (fl, x.2)
theorem ls_seq (h1 : LS δ δ1 δr δk mr st p) (h2 : LS δ1 δ2 δr δk mr su q) : LS δ δ2 δr δk mr (sThen st su) (sSeq p q) := LS.mk fun v s r => (h1 v s r).bind fun x y z => by
  obtain ⟨x, v'⟩ := x
  obtain ⟨y, s'⟩ := y
  cases x <;> cases y <;> first | exact False.elim z | exact h2 v' s' z | exact Rt.ok z
@[simp] def sCond (c : σ → Res Bool) (t u : σ → Res (TF ρ × σ)) : σ → Res (TF ρ × σ) := fun v => c v >>= fun x => if x then t v else u v
@[simp] def sCondE (c : σ → Res (Bool × σ)) (t u : σ → Res (TF ρ × σ)) : σ → Res (TF ρ × σ) := fun v => c v >>= fun x => if x.1 then t x.2 else u x.2
theorem ls_if {tc : σ → Res Bool} {c : Tst} (hc : LT δ tc c) (h1 : LS δ δn δr δk mr st p) (h2 : LS δ δn δr δk mr su q) : LS δ δn δr δk mr (sCond tc st su) (sIf c p q) := LS.mk fun v s r => (hc v s r).bind fun x y z => by
  cases z
  cases x with
  | true => exact h1 v s r
  | false => exact h2 v s r
theorem ls_ifE {tc : σ → Res (Bool × σ)} {c : Tst} (hc : LTE δ δ1 tc c) (h1 : LS δ1 δn δr δk mr st p) (h2 : LS δ1 δn δr δk mr su q) : LS δ δn δr δk mr (sCondE tc st su) (sIf c p q) := LS.mk fun v s r => (hc v s r).bind fun x y z => by
  obtain ⟨x, v'⟩ := x
  obtain ⟨y, s'⟩ := y
  obtain ⟨e, r1⟩ := z
  have e : y = x := e
  subst e
  cases y with
  | true => exact h1 v' s' r1
  | false => exact h2 v' s' r1
/-! loops -/
def tLoop (tb : α → σ → Res σ) (body : σ → Res (TF ρ × σ)) : List α → σ → Res (TF ρ × σ)
  | [], v => .ok (.next, v)
  | x :: xs, v => tb x v >>= fun v => body v >>= fun y => match y.1 with
    | .next => tLoop tb body xs y.2
    | .brk => .ok (.next, y.2)
    | .ret r => .ok (.ret r, y.2)
theorem tloop_ok {vs : List Nat} {tb : α → σ → Res σ} {b : Bd} {tbody : σ → Res (TF ρ × σ)} {body : Sx} (hb : LB 0 vs δL δb tb b) (hs : LS δb δn δr δk mr tbody body) (h1 : leD δL δn = true) (h2 : leD δL δk = true) {δ0 : List Nat} :
    ∀ (xs : List α) (v : σ) (s : SD), (∀ x ∈ xs, wf x) → rel δL v s → Rt (tLoop tb tbody xs v) (loopF b body (xs.map enc) s) fun x y => FR δL δr δ0 mr x.1 y.1 x.2 y.2
  | [], v, s, _, r => Rt.ok r
  | x :: xs, v, s, hw, r => by
    rw [List.map_cons, tLoop, loopF]
    refine (hb (fun _ => False) x (enc x, 0) v s ⟨hw x (List.mem_cons_self ..), rfl, Nat.le_refl _⟩ (r.o _)).bind fun w1 s1 p1 => ?_
    refine (hs w1 s1 (p1.1.rel fun i z => z.1)).bind fun y z q => ?_
    obtain ⟨y, v'⟩ := y
    obtain ⟨z, s'⟩ := z
    cases y <;> cases z <;> first
      | exact False.elim q
      | exact tloop_ok hb hs h1 h2 xs v' s' (fun z hz => hw z (List.mem_cons_of_mem _ hz)) (rel.mono q h1)
      | exact Rt.ok (rel.mono q h2)
      | exact Rt.ok q
@[simp] def sLoop (ts : σ → Res (List α)) (tb : α → σ → Res σ) (body : σ → Res (TF ρ × σ)) : σ → Res (TF ρ × σ) := fun v => ts v >>= fun xs => tLoop tb body xs v
@[simp] def sLoopE (ts : σ → Res (List α × σ)) (tb : α → σ → Res σ) (body : σ → Res (TF ρ × σ)) : σ → Res (TF ρ × σ) := fun v => ts v >>= fun xs => tLoop tb body xs.1 xs.2
theorem ls_for {vs fv : List Nat} {ts : σ → Res (List α)} {it : Src} {tb : α → σ → Res σ} {b : Bd} {tbody : σ → Res (TF ρ × σ)} {body : Sx} (δL : List Nat) (hi : LI δ ts it) (hb : LB 0 vs δL δb tb b) (hs : LS δb δn δr δL mr tbody body) (h0 : leD δL (demD fv δ) = true := by decide) (h1 : leD δL δn = true := by decide) : LS δ δL δr δk mr (sLoop ts tb tbody) (sFor b fv it body) := LS.mk fun v s r => (hi v s r).bind fun xs y p => by
  obtain ⟨ds, s1⟩ := y
  obtain ⟨hw, e, rfl⟩ := p
  have e : ds = xs.map enc := e
  subst e
  exact tloop_ok hb hs h1 (by unfold leD; simp) xs v (demote fv s1) hw.2 ((r.dem fv).mono h0)
theorem ls_forE {vs fv : List Nat} {ts : σ → Res (List α × σ)} {it : Src} {tb : α → σ → Res σ} {b : Bd} {tbody : σ → Res (TF ρ × σ)} {body : Sx} (δL : List Nat) (hi : LIE δ δ1 ts it) (hb : LB 0 vs δL δb tb b) (hs : LS δb δn δr δL mr tbody body) (h0 : leD δL (demD fv δ1) = true := by decide) (h1 : leD δL δn = true := by decide) : LS δ δL δr δk mr (sLoopE ts tb tbody) (sFor b fv it body) := LS.mk fun v s r => (hi v s r).bind fun xs y p => by
  obtain ⟨ds, s1⟩ := y
  obtain ⟨hw, e, r1⟩ := p
  have e : ds = xs.1.map enc := e
  subst e
  exact tloop_ok hb hs h1 (by unfold leD; simp) xs.1 xs.2 (demote fv s1) hw.2 ((r1.dem fv).mono h0)
@[simp] def sLoopR (mx : σ → σ → σ) (ts : σ → Res (List α)) (tb : α → σ → Res σ) (body : σ → Res (TF ρ × σ)) : σ → Res (TF ρ × σ) := fun v => ts v >>= fun xs => tLoop tb body xs v >>= fun y => match y.1 with
  | .next => .ok (.next, mx v y.2)
  | fl => .ok (fl, y.2)
theorem ls_forR {vs fv ch : List Nat} {mx : σ → σ → σ} {ts : σ → Res (List α)} {it : Src} {tb : α → σ → Res σ} {b : Bd} {tbody : σ → Res (TF ρ × σ)} {body : Sx} (δL : List Nat) (hx : Mx ch mx) (hi : LI δ ts it) (hb : LB 0 vs δL δb tb b) (hs : LS δb δn δr δL mr tbody body) (h0 : leD δL (demD fv δ) = true := by decide) (h1 : leD δL δn = true := by decide) (h4 : fullAt ch (hms σ) δL = true := by decide) : LS δ (mixD ch δ δL) δr δk mr (sLoopR mx ts tb tbody) (sForR b fv ch it body) := LS.mk fun v s r => (hi v s r).bind fun xs y p => by
  obtain ⟨ds, s1⟩ := y
  obtain ⟨hw, e, rfl⟩ := p
  have e : ds = xs.map enc := e
  subst e
  refine (tloop_ok (δ0 := δk) hb hs h1 (by unfold leD; simp) xs v (demote fv s1) hw.2 ((r.dem fv).mono h0)).bind fun x y z => ?_
  obtain ⟨x, v'⟩ := x
  obtain ⟨y, s'⟩ := y
  cases x <;> cases y <;> first
    | exact False.elim z
    | exact Rt.ok (rel.restore hx r (rel.o z fun _ => False) (fun _ _ z => z) h4)
    | exact Rt.ok z
@[simp] def sLoopRE (mx : σ → σ → σ) (ts : σ → Res (List α × σ)) (tb : α → σ → Res σ) (body : σ → Res (TF ρ × σ)) : σ → Res (TF ρ × σ) := fun v => ts v >>= fun xs => tLoop tb body xs.1 xs.2 >>= fun y => match y.1 with
  | .next => .ok (.next, mx xs.2 y.2)
  | fl => .ok (fl, y.2)
theorem ls_forRE {vs fv ch : List Nat} {mx : σ → σ → σ} {ts : σ → Res (List α × σ)} {it : Src} {tb : α → σ → Res σ} {b : Bd} {tbody : σ → Res (TF ρ × σ)} {body : Sx} (δL : List Nat) (hx : Mx ch mx) (hi : LIE δ δ1 ts it) (hb : LB 0 vs δL δb tb b) (hs : LS δb δn δr δL mr tbody body) (h0 : leD δL (demD fv δ1) = true := by decide) (h1 : leD δL δn = true := by decide) (h4 : fullAt ch (hms σ) δL = true := by decide) : LS δ (mixD ch δ1 δL) δr δk mr (sLoopRE mx ts tb tbody) (sForR b fv ch it body) := LS.mk fun v s r => (hi v s r).bind fun xs y p => by
  obtain ⟨ds, s1⟩ := y
  obtain ⟨hw, e, r1⟩ := p
  have e : ds = xs.1.map enc := e
  subst e
  refine (tloop_ok (δ0 := δk) hb hs h1 (by unfold leD; simp) xs.1 xs.2 (demote fv s1) hw.2 ((r1.dem fv).mono h0)).bind fun x y z => ?_
  obtain ⟨x, v'⟩ := x
  obtain ⟨y, s'⟩ := y
  cases x <;> cases y <;> first
    | exact False.elim z
    | exact Rt.ok (rel.restore hx r1 (rel.o z fun _ => False) (fun _ _ z => z) h4)
    | exact Rt.ok z
def tWhile (c : σ → Res (Bool × σ)) (body : σ → Res (TF ρ × σ)) : Nat → σ → Res (TF ρ × σ)
  | 0, _ => .bad
  | n + 1, v => c v >>= fun t => if t.1 then body t.2 >>= fun y => match y.1 with
    | .next => tWhile c body n y.2
    | .brk => .ok (.next, y.2)
    | .ret r => .ok (.ret r, y.2) else .ok (.next, t.2)
theorem while_ok {tc : σ → Res (Bool × σ)} {c : Tst} {tbody : σ → Res (TF ρ × σ)} {body : Sx} (hc : LTE δL δ1 tc c) (hs : LS δ1 δn δr δ1 mr tbody body) (h1 : leD δL δn = true) {δ0 : List Nat} :
    ∀ (n : Nat) (v : σ) (s : SD), rel δL v s → Rt (tWhile tc tbody n v) (loopW c body n s) fun x y => FR δ1 δr δ0 mr x.1 y.1 x.2 y.2
  | 0, v, s, r => trivial
  | n + 1, v, s, r => by
    rw [tWhile, loopW]
    refine (hc v s r).bind fun t z q => ?_
    obtain ⟨t, v1⟩ := t
    obtain ⟨z, s1⟩ := z
    obtain ⟨e, r1⟩ := q
    have e : z = t := e
    subst e
    cases z with
    | false => exact Rt.ok r1
    | true =>
      refine (hs v1 s1 r1).bind fun y z q => ?_
      obtain ⟨y, v'⟩ := y
      obtain ⟨z, s'⟩ := z
      cases y <;> cases z <;> first
        | exact False.elim q
        | exact while_ok hc hs h1 n v' s' (rel.mono q h1)
        | exact Rt.ok q
@[simp] def sWhl (n : Nat) (c : σ → Res (Bool × σ)) (body : σ → Res (TF ρ × σ)) : σ → Res (TF ρ × σ) := fun v => tWhile c body n v
theorem ls_while {n : Nat} {tc : σ → Res (Bool × σ)} {c : Tst} {tbody : σ → Res (TF ρ × σ)} {body : Sx} (δL : List Nat) (hc : LTE δL δ1 tc c) (hs : LS δ1 δn δr δ1 mr tbody body) (h0 : leD δL δ = true := by decide) (h1 : leD δL δn = true := by decide) : LS δ δ1 δr δk mr (sWhl n tc tbody) (sWhile n c body) := LS.mk fun v s r => while_ok hc hs h1 n v s (r.mono h0)
/-! a loop that changes the items of an own list -/
def tLoopM {x : Nat} (sx : Sl σ α x) (body : σ → Res (TF ρ × σ)) : List α → σ → Res (List α × σ)
  | [], v => .ok ([], v)
  | d :: ds, v => body (sx.set v (some d)) >>= fun y => match y.1 with
    | .next => ofO (sx.get y.2) >>= fun d' => tLoopM sx body ds (sx.set y.2 none) >>= fun r => .ok (d' :: r.1, r.2)
    | _ => .bad
theorem loopM_ok {x k : Nat} (sx : Sl σ α x) {tbody : σ → Res (TF ρ × σ)} {body : Sx} (hs : LS (δL.set x k) δn δr δk mr tbody body) (h1 : leD δL δn = true) :
    ∀ (xs : List α) (v : σ) (s : SD) (l : Nat), k ≤ l → (∀ z ∈ xs, wf z) → rel δL v s → Rt (tLoopM sx tbody xs v) (loopM x body l (xs.map enc) s) fun r y => (∀ z ∈ r.1, wf z) ∧ r.1.length = xs.length ∧ y.1.map (·.1) = r.1.map enc ∧ (∀ d ∈ y.1, dpt (hm α) (δn.getD x 0) ≤ dep d) ∧ rel δL r.2 y.2
  | [], v, s, l, _, _, r => Rt.ok ⟨(fun _ h => nomatch h), rfl, rfl, (fun _ h => nomatch h), r⟩
  | d :: ds, v, s, l, hl, hw, r => by
    rw [List.map_cons, tLoopM, loopM]
    refine (hs (sx.set v (some d)) (s.set x (some (enc d, l))) (r.set sx (hw d (List.mem_cons_self ..)) hl)).bind fun y z q => ?_
    obtain ⟨y, v'⟩ := y
    obtain ⟨z, s'⟩ := z
    cases y with
    | ret r => exact trivial
    | brk => exact trivial
    | next =>
      cases z with
      | ret r => exact False.elim q
      | brk => exact False.elim q
      | cont => exact False.elim q
      | next =>
        have q : rel δn v' s' := q
        show Rt (ofO (sx.get v') >>= _) (slot s' x >>= _) _
        cases e : sx.get v' with
        | none => exact trivial
        | some d' =>
          obtain ⟨wd, k', e1, e2⟩ := q.get sx e
          rw [e1]
          refine (loopM_ok sx hs h1 ds (sx.set v' none) (s'.set x none) l hl (fun z hz => hw z (List.mem_cons_of_mem _ hz)) ((q.mono h1).wipe sx none)).bind fun r y p => ?_
          refine Rt.ok ⟨fun u hu => ?_, congrArg (· + 1) p.2.1, ?_, fun u hu => ?_, p.2.2.2.2⟩
          · rcases List.mem_cons.mp hu with rfl | hu
            · exact wd
            · exact p.1 u hu
          · rw [List.map_cons, List.map_cons, p.2.2.1]
          · rcases List.mem_cons.mp hu with rfl | hu
            · exact dep_enc d' e2
            · exact p.2.2.2.1 u hu
@[simp] def sLoopM {x y : Nat} (sx : Sl σ α x) (sy : Sl σ (List α) y) (body : σ → Res (TF ρ × σ)) : σ → Res (TF ρ × σ) := fun v => ofO (sy.get v) >>= fun l => tLoopM sx body l (sy.set v none) >>= fun r => .ok (.next, sy.set r.2 (some r.1))
theorem ls_forM {x y : Nat} (sx : Sl σ α x) (sy : Sl σ (List α) y) {tbody : σ → Res (TF ρ × σ)} {body : Sx} (δL : List Nat) (hs : LS (δL.set x (δ.getD y 0 - 1)) δn δr δk mr tbody body) (h0 : leD δL δ = true := by decide) (h1 : leD δL δn = true := by decide) (h2 : 0 < δ.getD y 0 := by decide) : LS δ (δL.set y (dpt (hm α) (δn.getD x 0) + 1)) δr δk mr (sLoopM sx sy tbody) (sForM x y body) := LS.mk fun v s r => by
  unfold sLoopM sForM ofO
  cases e : sy.get v with
  | none => exact trivial
  | some l =>
    obtain ⟨wl, k, e1, e2⟩ := r.get sy e
    rw [e1]
    show Rt _ (if 0 < k then loopM x body (k - 1) (l.map enc) (s.set y none) >>= _ else _) _
    rw [if_pos (Nat.lt_of_lt_of_le h2 e2)]
    refine (loopM_ok sx hs h1 l (sy.set v none) (s.set y none) (k - 1) (Nat.sub_le_sub_right e2 1) wl.2 ((r.mono h0).wipe sy none)).bind fun r' z p => ?_
    obtain ⟨p1, p2, p3, p4, p5⟩ := p
    have := p5.set sy (a := r'.1) ⟨by rw [p2]; exact wl.1, p1⟩ (m := dpt (hm α) (δn.getD x 0) + 1) (k := minAll (z.1.map dep) + 1) (Nat.succ_le_succ (le_minAll (dpt9 ..) fun n hn => by
      obtain ⟨y, hy, rfl⟩ := List.mem_map.mp hn
      exact p4 y hy))
    have e3 : enc r'.1 = PyData.list (z.1.map (·.1)) := by rw [p3]; rfl
    rw [e3] at this
    exact Rt.ok this
/-! things changed at a place -/
structure Pl (τ : Type) [Enc τ] (α : Type) [Enc α] (n : Nat) where
  at_ : List Nat → τ → Option (List α)
  mod : List Nat → List α → τ → τ
  at_ok : ∀ js t, js.length = n → dAt js (enc t) = (at_ js t).map fun l => l.map enc
  mod_ok : ∀ js t l l', js.length = n → at_ js t = some l → modAt js (l'.map enc) (enc t) = enc (mod js l' t)
  wf_ok : ∀ js t l l', js.length = n → wf t → at_ js t = some l → wf l ∧ (wf l' → wf (mod js l' t))
  deep : hm τ = hm α + n + 1
theorem len0 {js : List Nat} (h : js.length = 0) : js = [] := List.length_eq_zero_iff.mp h
def Pl.ze : Pl (List α) α 0 where
  at_ := fun _ t => some t
  mod := fun _ l _ => l
  at_ok := fun js t h => by rw [len0 h]; rfl
  mod_ok := fun js t l l' h _ => by rw [len0 h]; rfl
  wf_ok := fun js t l l' h w e => by cases e; exact ⟨w, fun w' => w'⟩
  deep := rfl
theorem lenS {js : List Nat} {n : Nat} (h : js.length = n + 1) : ∃ j ks, js = j :: ks ∧ ks.length = n := by
  cases js with
  | nil => cases h
  | cons j js => exact ⟨j, js, rfl, Nat.succ.inj h⟩
def Pl.up {τ : Type} [Enc τ] {n : Nat} (P : Pl τ α n) : Pl (List τ) α (n + 1) where
  at_ := fun js t => match js with
    | j :: js => t[j]?.bind fun d => P.at_ js d
    | [] => none
  mod := fun js l t => match js with
    | j :: js => match t[j]? with
      | some d => t.set j (P.mod js l d)
      | none => t
    | [] => t
  at_ok := fun js t h => by
    obtain ⟨j, js, rfl, h'⟩ := lenS h
    show (match (t.map enc)[j]? with | some d => dAt js d | none => none) = _
    rw [List.getElem?_map]
    cases e : t[j]? with
    | none => simp [e]
    | some d =>
      simp only [e, Option.map_some, Option.bind_some]
      exact P.at_ok js d h'
  mod_ok := fun js t l l' h e => by
    obtain ⟨j, js, rfl, h'⟩ := lenS h
    show (match (t.map enc)[j]? with | some d => PyData.list ((t.map enc).set j (modAt js (l'.map enc) d)) | none => _) = _
    rw [List.getElem?_map]
    cases ej : t[j]? with
    | none => simp [ej] at e
    | some d =>
      simp only [ej, Option.map_some, Option.bind_some] at e ⊢
      rw [P.mod_ok js d l l' h' e]
      show PyData.list _ = PyData.list _
      rw [List.map_set]
  wf_ok := fun js t l l' h w e => by
    obtain ⟨j, js, rfl, h'⟩ := lenS h
    cases ej : t[j]? with
    | none => simp [ej] at e
    | some d =>
      simp only [ej, Option.bind_some] at e ⊢
      obtain ⟨q1, q2⟩ := P.wf_ok js d l l' h' (w.2 d (List.mem_of_getElem? ej)) e
      refine ⟨q1, fun w' => ⟨by rw [List.length_set]; exact w.1, fun z hz => ?_⟩⟩
      rcases List.mem_or_eq_of_mem_set hz with hz | rfl
      · exact w.2 z hz
      · exact q2 w'
  deep := by
    show hm τ + 1 = hm α + (n + 1) + 1
    rw [P.deep]
    rfl
@[simp] theorem Pl.ze_at (js : List Nat) (t : List α) : (Pl.ze : Pl (List α) α 0).at_ js t = some t := rfl
@[simp] theorem Pl.ze_mod (js : List Nat) (l t : List α) : (Pl.ze : Pl (List α) α 0).mod js l t = l := rfl
@[simp] theorem Pl.up_at {τ : Type} [Enc τ] {n : Nat} (P : Pl τ α n) (j : Nat) (js : List Nat) (t : List τ) : (Pl.up P).at_ (j :: js) t = t[j]?.bind fun d => P.at_ js d := rfl
theorem Pl.up_mod {τ : Type} [Enc τ] {n : Nat} (P : Pl τ α n) (j : Nat) (js : List Nat) (l : List α) (t : List τ) : (Pl.up P).mod (j :: js) l t = match t[j]? with
    | some d => t.set j (P.mod js l d)
    | none => t := rfl
/-- a path to a list within the slot i -/
def LPa (i n : Nat) (δ δ' : List Nat) (t : σ → Res (List Nat × σ)) (p : Pth) : Prop := ∀ v s, rel δ v s → Rt (t v) (p s) fun js y => js.1.length = n ∧ y.1 = js.1 ∧ rel δ' js.2 y.2
@[simp] def paZ (x : Sl σ (List α) i) : σ → Res (List Nat × σ) := fun v => ofO (x.get v) >>= fun _ => .ok ([], v)
theorem lpa_z (x : Sl σ (List α) i) (h : 0 < δ.getD i 0 := by decide) : LPa i 0 δ δ (paZ x) (pSlot i) := fun v s r => by
  unfold paZ ofO pSlot
  cases e : x.get v with
  | none => exact trivial
  | some l =>
    obtain ⟨wl, k, e1, e2⟩ := r.get x e
    rw [e1]
    show Rt _ (if 0 < k then Res.ok ([], s) else .bad) _
    rw [if_pos (Nat.lt_of_lt_of_le h e2)]
    exact Rt.ok ⟨rfl, rfl, r⟩
/-- one place deeper -/
@[simp] def paI {τ : Type} [Enc τ] {n : Nat} (x : Sl σ τ i) (P : Pl τ (List α) n) (t : σ → Res (List Nat × σ)) (u : σ → Res (Int × σ)) : σ → Res (List Nat × σ) := fun v => t v >>= fun js => u js.2 >>= fun j => ofO (x.get j.2) >>= fun z => ofO (P.at_ js.1 z) >>= fun l => ofO (ixN l.length j.1) >>= fun k => .ok (js.1 ++ [k], j.2)
theorem dAt_snoc : ∀ (js : List Nat) (j : Nat) (d : PyData) (ds es : List PyData), dAt js d = some ds → ds[j]? = some (.list es) → dAt (js ++ [j]) d = some es
  | [], j, d, ds, es, h, e => by
    cases d with
    | list xs =>
      cases h
      show (match ds[j]? with | some d => dAt [] d | none => none) = _
      rw [e]
      rfl
    | _ => cases h
  | k :: js, j, d, ds, es, h, e => by
    cases d with
    | list xs =>
      show (match xs[k]? with | some d => dAt (js ++ [j]) d | none => none) = _
      have h : (match xs[k]? with | some d => dAt js d | none => none) = some ds := h
      cases ek : xs[k]? with
      | none => rw [ek] at h; cases h
      | some y =>
        rw [ek] at h
        exact dAt_snoc js j y ds es h e
    | _ => cases h
theorem ixN_lt {n : Nat} {i : Int} {j : Nat} (h : ixN n i = some j) : j < n := (ixN_seq h).2.1
theorem lpa_i {τ : Type} [Enc τ] {n : Nat} (x : Sl σ τ i) (P : Pl τ (List α) n) {t : σ → Res (List Nat × σ)} {u : σ → Res (Int × σ)} {p : Pth} {e : Ex} (hp : LPa i n δ δ1 t p) (he : LE δ1 δ2 m u e) (h : n + 1 < δ2.getD i 0 := by decide) : LPa i (n + 1) δ δ2 (paI x P t u) (pIdx i p e) := fun v s r => (hp v s r).bind fun js y q => (he js.2 y.2 q.2.2).bind fun j z w => by
  obtain ⟨js, v1⟩ := js
  obtain ⟨y, s1⟩ := y
  obtain ⟨q1, q2, q3⟩ := q
  have q2 : y = js := q2
  subst q2
  obtain ⟨j, v2⟩ := j
  obtain ⟨z, s2⟩ := z
  obtain ⟨w1, w2⟩ := w
  have ez : z = (.int j, z.2) := w1.eq
  show Rt (ofO (x.get v2) >>= _) (slot s2 i >>= _) _
  cases eg : x.get v2 with
  | none => exact trivial
  | some a =>
    obtain ⟨wa, k, e1, e2⟩ := rel.get w2 x eg
    rw [e1]
    show Rt (ofO (P.at_ y a) >>= _) (match dAt y (enc a), z.1 with | some ds, .int n => (match ixN ds.length n with | some j => (match dAt (y ++ [j]) (enc a) with | some _ => if y.length + 1 < k then Res.ok (y ++ [j], s2) else .bad | none => .bad) | none => .bad) | _, _ => .bad) _
    rw [P.at_ok y a q1, ez]
    cases ea : P.at_ y a with
    | none => exact trivial
    | some l =>
      show Rt (ofO (ixN l.length j) >>= _) (match ixN (l.map enc).length j with | some j => (match dAt (y ++ [j]) (enc a) with | some _ => if y.length + 1 < k then Res.ok (y ++ [j], s2) else .bad | none => .bad) | none => .bad) _
      rw [List.length_map]
      cases ei : ixN l.length j with
      | none => exact trivial
      | some c =>
        have hc := ixN_lt ei
        have e3 : dAt (y ++ [c]) (enc a) = some (l[c].map enc) := dAt_snoc y c (enc a) (l.map enc) _ (by rw [P.at_ok y a q1, ea]; rfl) (by rw [List.getElem?_map, List.getElem?_eq_getElem hc]; rfl)
        show Rt (Res.ok (y ++ [c], v2)) (match dAt (y ++ [c]) (enc a) with | some _ => if y.length + 1 < k then Res.ok (y ++ [c], s2) else .bad | none => .bad) _
        rw [e3]
        show Rt _ (if y.length + 1 < k then Res.ok (y ++ [c], s2) else .bad) _
        have q1' : y.length = n := q1
        rw [if_pos (by rw [q1']; exact Nat.lt_of_lt_of_le h e2)]
        exact Rt.ok ⟨by rw [List.length_append, List.length_singleton]; exact congrArg (· + 1) q1', rfl, w2⟩
/-- the list at the path becomes what op makes of it -/
@[simp] def tChg {τ : Type} [Enc τ] {n : Nat} (x : Sl σ τ i) (P : Pl τ α n) (js : List Nat) (f : List α → Res (List α)) (v : σ) : Res σ := ofO (x.get v) >>= fun z => ofO (P.at_ js z) >>= fun l => f l >>= fun l' => .ok (x.set v (some (P.mod js l' z)))
theorem chg_tok {τ : Type} [Enc τ] {n : Nat} (x : Sl σ τ i) (P : Pl τ α n) {js : List Nat} {f : List α → Res (List α)} {op : List PyData → Res (List PyData)} {m0 k0 : Nat} (hk0 : k0 ≤ m0) (hj : js.length = n) (r : rel δ v s) (h : n < δ.getD i 0) (ho : ∀ l, wf l → Rt (f l) (op (l.map enc)) fun l' y => wf l' ∧ y = l'.map enc) : Rt (tChg x P js f v) (chg i js m0 op s) fun v' s' => rel (δ.set i (min (δ.getD i 0) (n + 1 + k0))) v' s' := by
  unfold tChg chg ofO
  cases eg : x.get v with
  | none => exact trivial
  | some a =>
    obtain ⟨wa, k, e1, e2⟩ := rel.get r x eg
    rw [e1]
    show Rt (ofO (P.at_ js a) >>= _) (match dAt js (enc a) with | some ds => op ds >>= fun ds' => if js.length < k then Res.ok (s.set i (some (modAt js ds' (enc a), min k (js.length + 1 + m0)))) else .bad | none => .bad) _
    rw [P.at_ok js a hj]
    cases ea : P.at_ js a with
    | none => exact trivial
    | some l =>
      refine (ho l (P.wf_ok js a l l hj wa ea).1).bind fun l' y q => ?_
      obtain ⟨q, rfl⟩ := q
      rw [if_pos (by rw [hj]; exact Nat.lt_of_lt_of_le h e2), P.mod_ok js a l l' hj ea]
      exact Rt.ok (r.set x ((P.wf_ok js a l l' hj wa ea).2 q) (by rw [hj]; omega))
@[simp] def sApd {τ : Type} [Enc τ] {n : Nat} (x : Sl σ τ i) (P : Pl τ α n) (tp : σ → Res (List Nat × σ)) (t : σ → Res (α × σ)) : σ → Res (TF ρ × σ) := fun v => tp v >>= fun js => t js.2 >>= fun a => tChg x P js.1 (fun l => sml (l ++ [a.1])) a.2 >>= fun v => .ok (.next, v)
theorem ls_app {τ : Type} [Enc τ] {n : Nat} {fv : List Nat} (x : Sl σ τ i) (P : Pl τ α n) {tp : σ → Res (List Nat × σ)} {p : Pth} (hp : LPa i n δ δ1 tp p) (he : LE δ1 δ2 m te a) (h : n < (setD (hm α) m fv δ2).getD i 0 := by decide) : LS (ρ := ρ) δ ((setD (hm α) m fv δ2).set i (min ((setD (hm α) m fv δ2).getD i 0) (n + 1 + dpt (hm α) m))) δr δk mr (sApd x P tp te) (sApp i p fv a) := LS.mk fun v s r => (hp v s r).bind fun js y q => (he js.2 y.2 q.2.2).bind fun z u w => by
  obtain ⟨js, v1⟩ := js
  obtain ⟨y, s1⟩ := y
  obtain ⟨q1, q2, q3⟩ := q
  have q2 : y = js := q2
  subst q2
  have ez : u.1 = (enc z.1, u.1.2) := w.1.eq
  have l : m ≤ u.1.2 := w.1.2.2
  have r2 : rel (setD (hm α) m fv δ2) z.2 (settle fv u.1 u.2) := by rw [ez]; exact w.2.settle (a := z.1) l
  refine (chg_tok x P (op := opApp u.1.1) (m0 := dep u.1) (dep_VR w.1) q1 r2 h fun l hl => ?_).bind fun v' s' h => Rt.ok h
  unfold sml opApp
  rw [List.length_map, List.length_append, List.length_singleton]
  split
  · rename_i hs
    refine Rt.ok ⟨⟨by rw [List.length_append, List.length_singleton]; exact of_decide_eq_true hs, fun b hb => ?_⟩, ?_⟩
    · rcases List.mem_append.mp hb with hb | hb
      · exact hl.2 b hb
      · rw [List.mem_singleton.mp hb]; exact w.1.1
    · rw [List.map_append, w.1.2.1]
      rfl
  · exact trivial
@[simp] def sExd {τ : Type} [Enc τ] {n : Nat} (x : Sl σ τ i) (P : Pl τ α n) (tp : σ → Res (List Nat × σ)) (t : σ → Res (List α × σ)) : σ → Res (TF ρ × σ) := fun v => tp v >>= fun js => t js.2 >>= fun a => tChg x P js.1 (fun l => sml (l ++ a.1)) a.2 >>= fun v => .ok (.next, v)
theorem ls_ext {τ : Type} [Enc τ] {n : Nat} {fv : List Nat} (x : Sl σ τ i) (P : Pl τ α n) {tp : σ → Res (List Nat × σ)} {p : Pth} {te : σ → Res (List α × σ)} (hp : LPa i n δ δ1 tp p) (he : LE δ1 δ2 m te a) (h : n < (setD (hm (List α)) m fv δ2).getD i 0 := by decide) : LS (ρ := ρ) δ ((setD (hm (List α)) m fv δ2).set i (min ((setD (hm (List α)) m fv δ2).getD i 0) (n + 1 + dpi (hm α) m))) δr δk mr (sExd x P tp te) (sExt i p fv a) := LS.mk fun v s r => (hp v s r).bind fun js y q => (he js.2 y.2 q.2.2).bind fun z u w => by
  obtain ⟨js, v1⟩ := js
  obtain ⟨y, s1⟩ := y
  obtain ⟨q1, q2, q3⟩ := q
  have q2 : y = js := q2
  subst q2
  obtain ⟨u, s2⟩ := u
  have ez : u = (enc z.1, u.2) := w.1.eq
  have l : m ≤ u.2 := w.1.2.2
  have r2 : rel (setD (hm (List α)) m fv δ2) z.2 (settle fv u s2) := by rw [ez]; exact w.2.settle (a := z.1) l
  have hd : dpi (hm α) m ≤ depI u := by rw [ez]; exact depI_enc z.1 l
  show Rt _ (match u.1 with | .list xs => chg i y (depI u) (opExt xs) (settle fv u s2) >>= fun s => Res.ok (Fl.next, s) | _ => .bad) _
  rw [show u.1 = .list (z.1.map enc) from w.1.2.1]
  refine (chg_tok x P (op := opExt (z.1.map enc)) (m0 := depI u) hd q1 r2 h fun l hl => ?_).bind fun v' s' h => Rt.ok h
  unfold sml opExt
  rw [List.length_map, List.length_map, List.length_append]
  split
  · rename_i hs
    refine Rt.ok ⟨⟨by rw [List.length_append]; exact of_decide_eq_true hs, fun b hb => ?_⟩, ?_⟩
    · rcases List.mem_append.mp hb with hb | hb
      · exact hl.2 b hb
      · exact w.1.1.2 b hb
    · rw [List.map_append]
  · exact trivial
@[simp] def sPut {τ : Type} [Enc τ] {n : Nat} (x : Sl σ τ i) (P : Pl τ α n) (t : σ → Res (α × σ)) (tp : σ → Res (List Nat × σ)) (u : σ → Res (Int × σ)) : σ → Res (TF ρ × σ) := fun v => t v >>= fun a => tp a.2 >>= fun js => u js.2 >>= fun j => tChg x P js.1 (fun l => ofO (ixN l.length j.1) >>= fun k => .ok (l.set k a.1)) j.2 >>= fun v => .ok (.next, v)
theorem ls_put {τ : Type} [Enc τ] {n : Nat} {fv : List Nat} (x : Sl σ τ i) (P : Pl τ α n) {tp : σ → Res (List Nat × σ)} {p : Pth} {u : σ → Res (Int × σ)} {e : Ex} (he : LE δ δ1 m te a) (hp : LPa i n δ1 δ2 tp p) (hi : LE δ2 δ3 ma u e) (h : n < (setD (hm α) m fv δ3).getD i 0 := by decide) : LS (ρ := ρ) δ ((setD (hm α) m fv δ3).set i (min ((setD (hm α) m fv δ3).getD i 0) (n + 1 + dpt (hm α) m))) δr δk mr (sPut x P te tp u) (sSet i fv a p e) := LS.mk fun v s r => (he v s r).bind fun z y q => (hp z.2 y.2 q.2).bind fun js y2 q2 => (hi js.2 y2.2 q2.2.2).bind fun j y3 q3 => by
  obtain ⟨js, v1⟩ := js
  obtain ⟨y2, s2⟩ := y2
  obtain ⟨h1, h2, h3⟩ := q2
  have h2 : y2 = js := h2
  subst h2
  obtain ⟨y, s1⟩ := y
  obtain ⟨y3, s3⟩ := y3
  have ez : y = (enc z.1, y.2) := q.1.eq
  have l : m ≤ y.2 := q.1.2.2
  have r2 : rel (setD (hm α) m fv δ3) j.2 (settle fv y s3) := by rw [ez]; exact q3.2.settle (a := z.1) l
  show Rt _ (match y3.1 with | .int n => chg i y2 (dep y) (opSet n y.1) (settle fv y s3) >>= fun s => Res.ok (Fl.next, s) | _ => .bad) _
  rw [show y3.1 = .int j.1 from q3.1.2.1]
  refine (chg_tok x P (op := opSet j.1 y.1) (m0 := dep y) (dep_VR q.1) h1 r2 h fun l hl => ?_).bind fun v' s' h => Rt.ok h
  unfold opSet
  rw [List.length_map]
  cases ei : ixN l.length j.1 with
  | none => exact trivial
  | some c =>
    refine ⟨_, rfl, ⟨by rw [List.length_set]; exact hl.1, fun b hb => ?_⟩, ?_⟩
    · rcases List.mem_or_eq_of_mem_set hb with hb | rfl
      · exact hl.2 b hb
      · exact q.1.1
    · rw [List.map_set, show y.1 = enc z.1 from q.1.2.1]
@[simp] def sRvs {τ : Type} [Enc τ] {n : Nat} (x : Sl σ τ i) (P : Pl τ α n) (tp : σ → Res (List Nat × σ)) : σ → Res (TF ρ × σ) := fun v => tp v >>= fun js => tChg x P js.1 (fun l => .ok l.reverse) js.2 >>= fun v => .ok (.next, v)
theorem ls_rev {τ : Type} [Enc τ] {n : Nat} (x : Sl σ τ i) (P : Pl τ α n) {tp : σ → Res (List Nat × σ)} {p : Pth} (hp : LPa i n δ δ1 tp p) (h : n < δ1.getD i 0 := by decide) : LS (ρ := ρ) δ (δ1.set i (min (δ1.getD i 0) (n + 1 + δ1.getD i 0))) δr δk mr (sRvs x P tp) (sRev i p) := LS.mk fun v s r => (hp v s r).bind fun js y q => by
  obtain ⟨js, v1⟩ := js
  obtain ⟨y, s1⟩ := y
  obtain ⟨q1, q2, q3⟩ := q
  have q2 : y = js := q2
  subst q2
  show Rt _ (slot s1 i >>= fun x => chg i y x.2 (fun ds => .ok ds.reverse) s1 >>= fun s => Res.ok (Fl.next, s)) _
  cases eg : x.get v1 with
  | none => simp only [tChg, eg, ofO, Res.bind_bad]; exact trivial
  | some a =>
    obtain ⟨wa, k, e1, e2⟩ := rel.get q3 x eg
    rw [e1]
    refine (chg_tok x P (op := fun ds => .ok ds.reverse) (m0 := k) e2 q1 q3 h fun l hl => ?_).bind fun v' s' h => Rt.ok h
    exact Rt.ok ⟨⟨by rw [List.length_reverse]; exact hl.1, fun b hb => hl.2 b (List.mem_reverse.mp hb)⟩, (List.map_reverse ..).symm⟩
@[simp] def sClear {τ : Type} [Enc τ] {n : Nat} (x : Sl σ τ i) (P : Pl τ α n) (tp : σ → Res (List Nat × σ)) : σ → Res (TF ρ × σ) := fun v => tp v >>= fun js => tChg x P js.1 (fun _ => .ok []) js.2 >>= fun v => .ok (.next, v)
theorem ls_clr {τ : Type} [Enc τ] {n : Nat} (x : Sl σ τ i) (P : Pl τ α n) {tp : σ → Res (List Nat × σ)} {p : Pth} (hp : LPa i n δ δ1 tp p) (h : n < δ1.getD i 0 := by decide) : LS (ρ := ρ) δ (δ1.set i (min (δ1.getD i 0) (n + 1 + δ1.getD i 0))) δr δk mr (sClear x P tp) (sClr i p) := LS.mk fun v s r => (hp v s r).bind fun js y q => by
  obtain ⟨js, v1⟩ := js
  obtain ⟨y, s1⟩ := y
  obtain ⟨q1, q2, q3⟩ := q
  have q2 : y = js := q2
  subst q2
  show Rt _ (slot s1 i >>= fun x => chg i y x.2 (fun ds => .ok []) s1 >>= fun s => Res.ok (Fl.next, s)) _
  cases eg : x.get v1 with
  | none => simp only [tChg, eg, ofO, Res.bind_bad]; exact trivial
  | some a =>
    obtain ⟨wa, k, e1, e2⟩ := rel.get q3 x eg
    rw [e1]
    refine (chg_tok x P (op := fun ds => .ok []) (m0 := k) e2 q1 q3 h fun l hl => ?_).bind fun v' s' h => Rt.ok h
    exact Rt.ok ⟨⟨Nat.zero_le _, fun b hb => nomatch hb⟩, rfl⟩
/-! pop -/
@[simp] def ePop {τ : Type} [Enc τ] {n : Nat} (x : Sl σ τ i) (P : Pl τ α n) (tp : σ → Res (List Nat × σ)) : σ → Res (α × σ) := fun v => tp v >>= fun js => ofO (x.get js.2) >>= fun z => ofO (P.at_ js.1 z) >>= fun l => ofO (l[l.length - 1]?) >>= fun a => .ok (a, x.set js.2 (some (P.mod js.1 (l.eraseIdx (l.length - 1)) z)))
@[simp] def ePopAt {τ : Type} [Enc τ] {n : Nat} (x : Sl σ τ i) (P : Pl τ α n) (tp : σ → Res (List Nat × σ)) (u : σ → Res (Int × σ)) : σ → Res (α × σ) := fun v => tp v >>= fun js => u js.2 >>= fun j => ofO (x.get j.2) >>= fun z => ofO (P.at_ js.1 z) >>= fun l => ofO (ixN l.length j.1) >>= fun c => ofO (l[c]?) >>= fun a => .ok (a, x.set j.2 (some (P.mod js.1 (l.eraseIdx c) z)))
theorem tpopD_ok {τ : Type} [Enc τ] {n : Nat} (x : Sl σ τ i) (P : Pl τ α n) (h0 : hm α = 0) {js : List Nat} (hj : js.length = n) (r : rel δ v s) (h : n < δ.getD i 0) {z : τ} {l : List α} (eg : x.get v = some z) (ea : P.at_ js z = some l) (c : Nat) : Rt (ofO (l[c]?) >>= fun a => Res.ok (a, x.set v (some (P.mod js (l.eraseIdx c) z)))) (popD c i js s) fun y w => VR 0 y.1 w.1 ∧ rel (δ.set i (min (δ.getD i 0) (n + 1 + δ.getD i 0))) y.2 w.2 := by
  obtain ⟨wa, k, e1, e2⟩ := rel.get r x eg
  have wl := (P.wf_ok js z l l hj wa ea).1
  unfold popD
  rw [e1]
  show Rt _ (match dAt js (enc z) with | some ds => (match ds[c]? with | some d => if hgt d = 0 then (chg i js k (fun ds => .ok (ds.eraseIdx c)) s >>= fun s => Res.ok ((d, 0), s)) else .bad | none => .bad) | none => .bad) _
  rw [P.at_ok js z hj, ea]
  show Rt _ (match (l.map enc)[c]? with | some d => if hgt d = 0 then (chg i js k (fun ds => .ok (ds.eraseIdx c)) s >>= fun s => Res.ok ((d, 0), s)) else .bad | none => .bad) _
  rw [List.getElem?_map]
  cases ec : l[c]? with
  | none => exact trivial
  | some a =>
    show Rt _ (if hgt (enc a) = 0 then _ else _) _
    rw [if_pos (by have := hgt_le a; omega)]
    have k1 := chg_tok x P (f := fun l => .ok (l.eraseIdx c)) (op := fun ds => .ok (ds.eraseIdx c)) (m0 := k) e2 hj r h fun l hl => Rt.ok ⟨⟨Nat.le_trans (List.length_eraseIdx_le ..) hl.1, fun b hb => hl.2 b (List.mem_of_mem_eraseIdx hb)⟩, by
      apply List.ext_getElem?
      intro q
      simp only [List.getElem?_eraseIdx, List.getElem?_map]
      split <;> rfl⟩
    simp only [tChg, eg, ea, ofO, Res.bind_ok] at k1 ⊢
    obtain ⟨s', e5, r5⟩ := k1
    rw [e5]
    exact Rt.ok ⟨⟨wl.2 a (List.mem_of_getElem? ec), rfl, Nat.le_refl _⟩, r5⟩
theorem le_pop {τ : Type} [Enc τ] {n : Nat} (x : Sl σ τ i) (P : Pl τ α n) {tp : σ → Res (List Nat × σ)} {p : Pth} (hp : LPa i n δ δ1 tp p) (h0 : hm α = 0 := by rfl) (h : n < δ1.getD i 0 := by decide) : LE δ (δ1.set i (min (δ1.getD i 0) (n + 1 + δ1.getD i 0))) 0 (ePop x P tp) (evPop i p) := fun v s r => (hp v s r).bind fun js y q => by
  obtain ⟨js, v1⟩ := js
  obtain ⟨y, s1⟩ := y
  obtain ⟨q1, q2, q3⟩ := q
  have q2 : y = js := q2
  subst q2
  cases eg : x.get v1 with
  | none => simp only [eg, ofO, Res.bind_bad]; exact trivial
  | some z =>
    obtain ⟨wa, k, e1, e2⟩ := rel.get q3 x eg
    show Rt _ (slot s1 i >>= _) _
    rw [e1]
    show Rt _ (match dAt y (enc z) with | some ds => popD (ds.length - 1) i y s1 | none => .bad) _
    rw [P.at_ok y z q1]
    cases ea : P.at_ y z with
    | none => simp only [eg, ea, ofO, Res.bind_bad, Res.bind_ok]; exact trivial
    | some l =>
      show Rt _ (popD ((l.map enc).length - 1) i y s1) _
      rw [List.length_map]
      have := tpopD_ok x P h0 q1 q3 h eg ea (l.length - 1)
      simp only [eg, ea, ofO, Res.bind_ok] at this ⊢
      exact this
theorem le_popAt {τ : Type} [Enc τ] {n : Nat} (x : Sl σ τ i) (P : Pl τ α n) {tp : σ → Res (List Nat × σ)} {p : Pth} {u : σ → Res (Int × σ)} {e : Ex} (hp : LPa i n δ δ1 tp p) (hi : LE δ1 δ2 m u e) (h0 : hm α = 0 := by rfl) (h : n < δ2.getD i 0 := by decide) : LE δ (δ2.set i (min (δ2.getD i 0) (n + 1 + δ2.getD i 0))) 0 (ePopAt x P tp u) (evPopAt i p e) := fun v s r => (hp v s r).bind fun js y q => (hi js.2 y.2 q.2.2).bind fun j y3 q3 => by
  obtain ⟨js, v1⟩ := js
  obtain ⟨y, s1⟩ := y
  obtain ⟨q1, q2, _⟩ := q
  have q2 : y = js := q2
  subst q2
  obtain ⟨j, v2⟩ := j
  obtain ⟨y3, s3⟩ := y3
  have ey : y3.1 = .int j := q3.1.2.1
  cases eg : x.get v2 with
  | none => simp only [eg, ofO, Res.bind_bad]; exact trivial
  | some z =>
    obtain ⟨wa, k, e1, e2⟩ := rel.get q3.2 x eg
    show Rt _ (slot s3 i >>= _) _
    rw [e1]
    show Rt _ (match dAt y (enc z), y3.1 with | some ds, .int n => (match ixS ds.length n with | some j => popD j i y s3 | none => .bad) | _, _ => .bad) _
    rw [P.at_ok y z q1, ey]
    cases ea : P.at_ y z with
    | none => simp only [eg, ea, ofO, Res.bind_bad, Res.bind_ok]; exact trivial
    | some l =>
      show Rt _ (match ixS (l.map enc).length j with | some j => popD j i y s3 | none => .bad) _
      have wl := (P.wf_ok y z l l q1 wa ea).1
      rw [List.length_map]
      unfold ixS
      rw [if_pos (show small l.length = true from decide_eq_true wl.1)]
      cases ec : ixN l.length j with
      | none => simp only [eg, ea, ec, ofO, Res.bind_bad, Res.bind_ok]; exact trivial
      | some c =>
        have := tpopD_ok x P h0 q1 q3.2 h eg ea c
        simp only [eg, ea, ec, ofO, Res.bind_ok] at this ⊢
        exact this
/-! x += n -/
@[simp] def sInc (x : Sl σ Int i) (f : Int → Int → Res Int) (t : σ → Res Int) : σ → Res (TF ρ × σ) := fun v => ofO (x.get v) >>= fun a => t v >>= fun b => f a b >>= fun c => .ok (.next, x.set v (some c))
theorem ls_inc {f : Int → Int → Res Int} {g : DV → DV → Res DV} {t : σ → Res Int} (x : Sl σ Int i) (o : Op2 0 m 0 f g) (h : LP δ m t a) : LS (ρ := ρ) δ (δ.set i 0) δr δk mr (sInc x f t) (sAug i g a) := LS.mk fun v s r => by
  unfold sInc sAug ofO
  cases eg : x.get v with
  | none => exact trivial
  | some z =>
    obtain ⟨wa, k, e1, e2⟩ := rel.get r x eg
    rw [e1]
    refine (h v s r).bind fun b y q => ?_
    obtain ⟨y, s1⟩ := y
    obtain ⟨q, rfl⟩ := q
    refine (o z (enc z, 0) b y ⟨wa, rfl, Nat.le_refl _⟩ q).bind fun c w q => ?_
    rw [q.eq]
    exact Rt.ok (r.set x (a := c) trivial (Nat.zero_le _))
/-! defs -/
class Ini (τ σ : Type) [ArgE τ] [EnvE σ] where
  ini : τ → σ
  enc_ini : ∀ a, encE (ini a) = (encA a).map some ++ List.replicate ((hms σ).length - (encA a).length) none
  wf_ini : ∀ a, wfA a → wfE (ini a)
  len_le : ∀ a : τ, (encA a).length ≤ (hms σ).length
instance instIni0 : Ini Unit σ := ⟨fun _ => EnvE.none_, fun _ => EnvE.enc_none, fun _ _ => EnvE.wf_none, fun _ => Nat.zero_le _⟩
instance instIniS {τ : Type} [ArgE τ] [I : Ini τ σ] : Ini (α × τ) (Option α × σ) := ⟨fun a => (some a.1, I.ini a.2), fun a => by
  show some (enc a.1) :: encE (I.ini a.2) = _
  rw [I.enc_ini]
  show _ = some (enc a.1) :: ((encA a.2).map some ++ List.replicate ((hms σ).length + 1 - ((encA a.2).length + 1)) none)
  rw [Nat.add_sub_add_right], fun a h => ⟨fun x e => by cases e; exact h.1, I.wf_ini a.2 h.2⟩, fun a => Nat.succ_le_succ (I.len_le a.2)⟩
@[simp] theorem ini_nil : (Ini.ini (τ := Unit) (σ := σ)) () = EnvE.none_ := rfl
@[simp] theorem ini_cons {τ : Type} [ArgE τ] [I : Ini τ σ] (a : α) (r : τ) : (Ini.ini (τ := α × τ) (σ := Option α × σ)) (a, r) = (some a, Ini.ini r) := rfl
@[simp] theorem none_cons : (EnvE.none_ : Option α × σ) = (none, EnvE.none_) := rfl
@[simp] theorem none_unit : (EnvE.none_ : Unit) = () := rfl
theorem leAll_len : ∀ {ms ks : List Nat}, leAll ms ks → ms.length = ks.length
  | [], [], _ => rfl
  | _ :: _, _ :: _, h => congrArg (· + 1) (leAll_len h.2)
theorem leAll_at : ∀ {ms ks : List Nat} (i : Nat) (k : Nat), leAll ms ks → ks[i]? = some k → ms.getD i 0 ≤ k
  | [], [], i, j, h, e => by simp at e
  | m :: ms, k :: ks, 0, j, h, e => by cases e; exact h.1
  | m :: ms, k :: ks, i + 1, j, h, e => by
    rw [List.getD_cons_succ]
    exact leAll_at i j h.2 (by simpa using e)
theorem start_rel {τ : Type} [ArgE τ] [I : Ini τ σ] {ms : List Nat} {x : τ} {ys : List DV} {n : Nat} (h : AR ms x ys) (hn : n = (hms σ).length) : rel (σ := σ) ms (I.ini x) (start1 n ys) := by
  obtain ⟨w, e, l⟩ := h
  have el : ys.length = (encA x).length := by rw [← e, List.length_map]
  refine ⟨?_, I.wf_ini x w, fun i d hd => ?_⟩
  · rw [I.enc_ini]
    unfold start1
    rw [List.length_append, List.length_append, List.length_map, List.length_map, List.length_replicate, List.length_replicate, el, hn]
  · rw [I.enc_ini] at hd
    by_cases hi : i < (encA x).length
    · rw [List.getElem?_append_left (by rw [List.length_map]; exact hi), List.getElem?_map, ← e, List.getElem?_map] at hd
      have hy : i < ys.length := by rw [el]; exact hi
      rw [List.getElem?_eq_getElem hy] at hd
      have hd : ys[i].1 = d := by simpa using hd
      refine ⟨ys[i].2, ?_, ?_⟩
      · unfold start1
        rw [List.getElem?_append_left (by rw [List.length_map]; exact hy), List.getElem?_map, List.getElem?_eq_getElem hy, ← hd]
        rfl
      · exact leAll_at i _ l (by rw [List.getElem?_map, List.getElem?_eq_getElem hy]; rfl)
    · rw [List.getElem?_append_right (by rw [List.length_map]; omega), List.getElem?_replicate] at hd
      split at hd <;> cases hd
variable {τ : Type} [ArgE τ] [I : Ini τ σ]
/-- a def: z is what it tells where it comes to its end (None), if it may -/
def tDef (σ : Type) [EnvE σ] [I : Ini τ σ] (z : Res ρ) (body : σ → Res (TF ρ × σ)) : τ → Res ρ := fun x => body (I.ini x) >>= fun y => match y.1 with
  | .ret r => .ok r
  | .next => z
  | .brk => .bad
def isNoneR (z : Res ρ) : Prop := match z with
  | .ok r => enc r = .none ∧ wf r
  | .exc _ _ => False
  | .bad => True
theorem lf_of {ms asg : List Nat} {n np : Nat} {z : Res ρ} {tbody : σ → Res (TF ρ × σ)} {body : Sx} (hz : isNoneR z) (hm0 : mr = 0 ∨ z = .bad) (h : LS ms δn δr δk mr tbody body) (hn : n = (hms σ).length) (hp : ms.length = np) : LF ms mr (tDef (τ := τ) σ z tbody) (defn n np asg body) := ⟨fun x ys p => by
  have hy : ys.length = np := by
    have := leAll_len p.2.2
    rw [List.length_map] at this
    omega
  unfold tDef defn
  rw [if_pos hy]
  refine (h (I.ini x) (start1 n ys) (start_rel p hn)).bind fun y w q => ?_
  obtain ⟨y, v⟩ := y
  obtain ⟨w, s⟩ := w
  cases y with
  | ret r => cases w <;> first | exact False.elim q | exact ⟨_, rfl, q.1⟩
  | brk => cases w <;> first | exact False.elim q | exact trivial
  | next =>
    cases w <;> first | exact False.elim q | skip
    cases z with
    | ok r =>
      rcases hm0 with rfl | hm0
      · exact ⟨_, rfl, hz.2, hz.1.symm, Nat.zero_le _⟩
      · cases hm0
    | exc c p => exact False.elim hz
    | bad => exact trivial⟩
def tDef1 (σ : Type) [EnvE σ] [I : Ini τ σ] (x : Sl σ κ i) (z : Res ρ) (body : σ → Res (TF ρ × σ)) : τ → Res (ρ × κ) := fun a => body (I.ini a) >>= fun y => match y.1 with
  | .ret r => ofO (x.get y.2) >>= fun k => .ok (r, k)
  | .next => z >>= fun r => ofO (x.get y.2) >>= fun k => .ok (r, k)
  | .brk => .bad
theorem tfinP_at {np : Nat} {asg : List Nat} {s : SD} {j : Nat} (h : j < np) (ha : j ∉ asg) : (finP np asg s)[j]? = some ((s[j]?).getD none) := by
  unfold finP
  rw [List.getElem?_map, List.getElem?_range h]
  show some (if j ∈ asg then none else _) = _
  rw [if_neg ha]
theorem lf1_of {ms asg : List Nat} {n np : Nat} {z : Res ρ} {tbody : σ → Res (TF ρ × σ)} {body : Sx} (x : Sl σ κ i) (hz : isNoneR z) (hm0 : mr = 0 ∨ z = .bad) (h : LS ms δn δr δk mr tbody body) (hn : n = (hms σ).length) (hp : ms.length = np) (hi : i < np) (ha : i ∉ asg) (h1 : hm κ ≤ δr.getD i 0) (h2 : z = .bad ∨ hm κ ≤ δn.getD i 0) : LF1 ms mr i (tDef1 (τ := τ) σ x z tbody) (defn n np asg body) := ⟨fun a ys p => by
  have hy : ys.length = np := by
    have := leAll_len p.2.2
    rw [List.length_map] at this
    omega
  unfold tDef1 defn
  rw [if_pos hy]
  refine (h (I.ini a) (start1 n ys) (start_rel p hn)).bind fun y w q => ?_
  obtain ⟨y, v⟩ := y
  obtain ⟨w, s⟩ := w
  have fin : ∀ {δ' : List Nat}, rel δ' v s → hm κ ≤ δ'.getD i 0 → ∀ k, x.get v = some k → wf k ∧ ∃ l, (finP np asg s)[i]? = some (some (enc k, l)) ∧ hm κ ≤ l := fun {δ'} r hd k e => by
    obtain ⟨wk, l, e1, e2⟩ := rel.get r x e
    refine ⟨wk, l, ?_, Nat.le_trans hd e2⟩
    rw [tfinP_at hi ha]
    unfold slot at e1
    split at e1
    · rename_i hx
      cases e1
      rw [hx]
      rfl
    · cases e1
  cases y with
  | ret r =>
    cases w <;> first | exact False.elim q | skip
    obtain ⟨q1, q2⟩ := q
    show Rt (ofO (x.get v) >>= _) _ _
    cases e : x.get v with
    | none => exact trivial
    | some k => exact ⟨_, rfl, q1, fin q2 h1 k e⟩
  | brk => cases w <;> first | exact False.elim q | exact trivial
  | next =>
    cases w <;> first | exact False.elim q | skip
    cases z with
    | ok r =>
      rcases hm0 with rfl | hm0
      · rcases h2 with h2 | h2
        · cases h2
        show Rt (ofO (x.get v) >>= _) _ _
        cases e : x.get v with
        | none => exact trivial
        | some k => exact ⟨_, rfl, ⟨hz.2, hz.1.symm, Nat.zero_le _⟩, fin q h2 k e⟩
      · cases hm0
    | exc c p => exact False.elim hz
    | bad => exact trivial⟩
end
end Sq
end

section
namespace Sq
open PySem PySem.Spec L2
open Enc (enc hm wf hgt_le)
open EnvE (encE wfE hms)
open ArgE (encA wfA)
section
variable {σ : Type} [EnvE σ] {α β γ ρ κ : Type} [Enc α] [Enc β] [Enc γ] [Enc ρ] [Enc κ] {i : Nat} {δ δ' δ1 δ2 δ3 δb δc δe δL δn δr δk : List Nat} {m ma mb mc mr : Nat} {a b c : Ex} {v w : σ} {s : SD}
theorem ls_dead {p : Sx} : LS (ρ := ρ) (σ := σ) δ δn δr δk mr (fun _ => .bad) p := LS.mk fun v s r => trivial
theorem lp_dead : LP (σ := σ) (α := α) δ m (fun _ => .bad) a := fun v s r => trivial
theorem lp_ch {f h : Int → Int → Res Bool} {g g' : DV → DV → Res DV} {ta tb tc : σ → Res Int} (o : Op2 ma mb 0 f g) (o' : Op2 0 mc 0 h g') (ha : LP δ ma ta a) (hb : LP δ mb tb b) (hc : LP δ mc tc c) : LP δ 0 (pCh f h ta tb tc) (evCh g g' a b c) := fun v s r => (ha v s r).bind fun x y p => by
  obtain ⟨y, s1⟩ := y
  obtain ⟨p, rfl⟩ := p
  refine (hb v s1 r).bind fun x2 y2 p2 => ?_
  obtain ⟨y2, s2⟩ := y2
  obtain ⟨p2, rfl⟩ := p2
  refine (o x y x2 y2 p p2).bind fun z w q => ?_
  rw [show w.1 = .bool z from q.2.1]
  cases z with
  | false => exact Rt.ok ⟨⟨trivial, rfl, Nat.zero_le _⟩, rfl⟩
  | true =>
    refine (hc v s2 r).bind fun x3 y3 p3 => ?_
    obtain ⟨y3, s3⟩ := y3
    obtain ⟨p3, rfl⟩ := p3
    exact (o' x2 (y2.1, 0) x3 y3 ⟨p2.1, p2.2.1, Nat.le_refl _⟩ p3).bindr fun z w q => Rt.ok ⟨q, rfl⟩
/-! xs[::e] -/
def oStepL (a : List α) (st : Int) : Res (List α) := if decide (st = 1) || decide (st = -1) then .ok (stepL st a) else .bad
theorem o_stepL : Op2 ma mb (if hm α = 0 then 10 else 1) (oStepL (α := α)) gStepL := fun x y z w p q => by
  rw [p.eq, q.eq]
  show Rt _ (if decide (z = 1) || decide (z = -1) then Res.ok (PyData.list (stepL z (x.map enc)), (if hgtAll (x.map enc) = 0 then 9 else 0) + 1) else .bad) _
  have e : stepL z (x.map enc) = (stepL z x).map (enc (α := α)) := by
    unfold stepL
    split
    · rfl
    · rw [List.map_reverse]
  have hl : (stepL z x).length = x.length := by
    unfold stepL
    split
    · rfl
    · rw [List.length_reverse]
  have hmem : ∀ u, u ∈ stepL z x → u ∈ x := fun u hu => by
    unfold stepL at hu
    split at hu
    · exact hu
    · exact List.mem_reverse.mp hu
  rw [e]
  unfold oStepL
  split
  · refine Rt.ok ⟨⟨by rw [hl]; exact p.1.1, fun u hu => p.1.2 u (hmem u hu)⟩, rfl, ?_⟩
    have h := hgtAll_map x
    show _ ≤ (if hgtAll (x.map enc) = 0 then 9 else 0) + 1
    by_cases h0 : hm α = 0
    · rw [if_pos h0, if_pos (by omega)]
      exact Nat.le_refl _
    · rw [if_neg h0]
      omega
  · exact trivial
/-! str(..) -/
class Shw (α : Type) [Enc α] where
  ok : ∀ (x : α) (k : Nat), gStr [(enc x, k)] = if okS (enc x) then .ok (.str (enc x).shown, 0) else .bad
instance : Shw (List α) := ⟨fun _ _ => rfl⟩
instance : Shw (α × β) := ⟨fun _ _ => rfl⟩
instance : Shw (P3 α β γ) := ⟨fun _ _ => rfl⟩
instance : Shw (P4 α β γ ρ) := ⟨fun _ _ => rfl⟩
def oStr : α × Unit → Res Str := fun p => if okS (enc p.1) then .ok (enc p.1).shown else .bad
theorem o_str [S : Shw α] : OpN [ma] 0 (oStr (α := α)) gStr := fun x ys h => by
  obtain ⟨y, rfl, p⟩ := AR.one h
  rw [p.eq, S.ok]
  unfold oStr
  split
  · rename_i hs
    exact Rt.ok ⟨shown_strOk hs, rfl, Nat.zero_le _⟩
  · exact trivial
def oStrI : Int × Unit → Res Str := fun p => if p.1.natAbs.log2 < 1920 then .ok (Str.ofString (toString p.1)) else .bad
theorem o_strI : OpN [ma] 0 oStrI gStr := fun x ys h => by
  obtain ⟨y, rfl, p⟩ := AR.one h
  rw [p.eq]
  show Rt _ (if x.1.natAbs.log2 < 1920 then Res.ok (PyData.str (toString x.1), 0) else .bad) _
  unfold oStrI
  split
  · rename_i hs
    obtain ⟨h1, h2⟩ := int_bd x.1
    refine Rt.ok ⟨⟨?_, by omega⟩, rfl, Nat.zero_le _⟩
    rw [PyData.canLay0]
    unfold PySem.PyData.strOk
    rw [Array.all_eq_true]
    intro i hi
    have := h2 _ (Array.getElem_mem hi)
    exact decide_eq_true (by omega)
  · exact trivial
theorem LF1.lf {τ : Type} [ArgE τ] {ms : List Nat} {j : Nat} {f : τ → Res (ρ × κ)} {g : Fn} (h : LF1 ms m j f g) : LF ms m (fun a => f a >>= fun r => .ok r.1) g := ⟨fun x ys p => by
  have k := h.run x ys p
  show Rt (f x >>= fun r => .ok r.1) _ _
  revert k
  cases f x with
  | ok r =>
    rintro ⟨y, e, q⟩
    exact ⟨y, e, q.1⟩
  | exc c p => exact id
  | bad => exact id⟩
/-- the law: a plain reckoning that tells True -/
theorem law_of {f : List Int × Unit → Res Bool} {g : Fn} (h : LF [0] 0 f g) {ns : List Int} (hl : ns.length ≤ 63) (e : f (ns, ()) = .ok true) : ∃ kk fin, g [(.list (ns.map .int), 0)] = .ok ((.bool true, kk), fin) := by
  have k := h.run (ns, ()) [(.list (ns.map .int), 0)] ⟨⟨⟨(show ns.length ≤ 1000000 by omega), fun _ _ => trivial⟩, trivial⟩, rfl, Nat.le_refl _, trivial⟩
  rw [e] at k
  obtain ⟨⟨y, fin⟩, e1, q⟩ := k
  have e2 : y = (.bool true, y.2) := q.eq
  exact ⟨y.2, fin, by rw [e1, ← e2]⟩
end
end Sq
end

section
namespace Sq
open PySem PySem.Spec L2
open Enc (enc hm wf hgt_le)
open EnvE (encE wfE hms)
open ArgE (encA wfA)
/-! ### the law's look whether a thing is made of whole numbers and texts alone -/
mutual
def plainD : PyData → Bool
  | .int _ => true
  | .str _ => true
  | .list ds => plainAllD ds
  | .tuple ds => plainAllD ds
  | _ => false
def plainAllD : List PyData → Bool
  | [] => true
  | d :: ds => plainD d && plainAllD ds
end
def plainBody (m : Fn) : Fn := defn 2 1 [] (sSeq (sIf (tst (ev1 (gIsA [.list, .tuple]) (eVar 0)))
  (sRet [0, 1] (ev2 gEq (evLc [1] [0] [] (bName 1) (iL (eVar 0)) (tNot2 (tst (evCall m [] (eCons (eVar 1) eNil)))) (eVar 1)) (evN gList eNil)))
  sSkip)
  (sRet [0] (evAnd (ev1 (gIsA [.int, .str]) (eVar 0)) (ev1 gNot (ev1 (gIsA [.bool]) (eVar 0))))))
theorem depth_mem : ∀ {ds : List PyData} {d : PyData}, d ∈ ds → d.depth ≤ PyData.depthAll ds
  | e :: ds, d, h => by
    rw [PyData.depthAll]
    rcases List.mem_cons.mp h with rfl | h
    · exact Nat.le_max_left _ _
    · exact Nat.le_trans (depth_mem h) (Nat.le_max_right _ _)
theorem plain_mem : ∀ {ds : List PyData} {d : PyData}, plainAllD ds = true → d ∈ ds → plainD d = true
  | e :: ds, d, hp, h => by
    rw [plainAllD, Bool.and_eq_true] at hp
    rcases List.mem_cons.mp h with rfl | h
    · exact hp.1
    · exact plain_mem hp.2 h
theorem loopC_plain {m : Fn} {x : Option DV} : ∀ (ds : List PyData) (o : Option DV), (∀ d ∈ ds, ∃ fin, m [(d, 0)] = .ok ((.bool true, 0), fin)) → ∃ o', loopC [1] (bName 1) (tNot2 (tst (evCall m [] (eCons (eVar 1) eNil)))) (eVar 1) ds [x, o] = .ok ([], [x, o'])
  | [], o, _ => ⟨o, rfl⟩
  | d :: ds, o, h => by
    obtain ⟨fin, e⟩ := h d (List.mem_cons_self ..)
    obtain ⟨o', e2⟩ := loopC_plain ds (some (d, 0)) fun d hd => h d (List.mem_cons_of_mem _ hd)
    refine ⟨o', ?_⟩
    rw [loopC]
    have e3 : tNot2 (tst (evCall m [] (eCons (eVar 1) eNil))) [x, some (d, 0)] = .ok (false, [x, some (d, 0)]) := by
      simp [e, putBack0]
    show (Res.ok [x, some (d, 0)] >>= _) = _
    rw [Res.bind_ok, e3, Res.bind_ok]
    exact e2
theorem plain_any {m : Nat → Fn} (hm : ∀ k, m (k + 1) = plainBody (m k)) : ∀ (k : Nat) (d : PyData) (j : Nat), plainD d = true → d.depth < k → ∃ fin, m k [(d, j)] = .ok ((.bool true, 0), fin)
  | 0, d, j, _, h => by omega
  | k + 1, d, j, hp, h => by
    have ih := plain_any hm k
    rw [hm]
    have lst : ∀ ds : List PyData, plainAllD ds = true → PyData.depthAll ds < k → ∃ s', evLc [1] [0] [] (bName 1) (iL (eVar 0)) (tNot2 (tst (evCall (m k) [] (eCons (eVar 1) eNil)))) (eVar 1) [some (d, j), none] = .ok ((.list [], 10), s') ∨ d ≠ .list ds ∧ d ≠ .tuple ds := fun ds h1 h2 => by
      by_cases e : d = .list ds ∨ d = .tuple ds
      · obtain ⟨o', e2⟩ := loopC_plain (m := m k) (x := some (d, 0)) ds none fun d' hd => ih d' 0 (plain_mem h1 hd) (Nat.lt_of_le_of_lt (depth_mem hd) h2)
        refine ⟨[some (d, j), none], .inl ?_⟩
        have e3 : iL (eVar 0) [some (d, j), none] = .ok (ds, [some (d, j), none]) := by
          rcases e with rfl | rfl <;> rfl
        unfold evLc
        rw [e3, Res.bind_ok]
        show (loopC [1] (bName 1) _ (eVar 1) ds [some (d, 0), none] >>= _) = _
        rw [e2]
        rfl
      · exact ⟨[], .inr (not_or.mp e)⟩
    have fin : ∀ {s'}, evLc [1] [0] [] (bName 1) (iL (eVar 0)) (tNot2 (tst (evCall (m k) [] (eCons (eVar 1) eNil)))) (eVar 1) [some (d, j), none] = .ok ((.list [], 10), s') → gIsA [.list, .tuple] (d, 0) = .ok (.bool true, 0) → ∃ fin, plainBody (m k) [(d, j)] = .ok ((.bool true, 0), fin) := fun {s'} e1 e2 => by
      refine ⟨_, defn_ret (s0 := [some (d, j), none]) (s' := s') rfl (seq_ret ?_)⟩
      rw [qIf, qTst, q1, qVar]
      simp only [slot0, Res.bind_ok, e2, if_true]
      rw [qRet, q2, e1]
      rfl
    cases d with
    | int i => exact ⟨_, rfl⟩
    | str z => exact ⟨_, rfl⟩
    | list ds =>
      rw [plainD] at hp
      rw [PyData.depth] at h
      obtain ⟨s', e | e⟩ := lst ds hp (by omega)
      · exact fin e rfl
      · exact absurd rfl e.1
    | tuple ds =>
      rw [plainD] at hp
      rw [PyData.depth] at h
      obtain ⟨s', e | e⟩ := lst ds hp (by omega)
      · exact fin e rfl
      · exact absurd rfl e.2
    | none => simp [plainD] at hp
    | bool b => simp [plainD] at hp
    | dict kv => simp [plainD] at hp
class Pln (α : Type) [Enc α] where
  p : ∀ x : α, plainD (enc x) = true
  dp : Nat
  depth_le : ∀ x : α, (enc x).depth ≤ dp
theorem plainAll_of {ds : List PyData} (h : ∀ d ∈ ds, plainD d = true) : plainAllD ds = true := by
  induction ds with
  | nil => simp [plainAllD]
  | cons d ds ih => rw [plainAllD, h d (List.mem_cons_self ..), ih fun e he => h e (List.mem_cons_of_mem _ he)]; rfl
section
variable {α β γ δ : Type} [Enc α] [Enc β] [Enc γ] [Enc δ]
instance : Pln Int := ⟨fun _ => by simp [enc, plainD], 0, fun _ => by simp [enc, PyData.depth]⟩
instance : Pln Str := ⟨fun _ => by simp [enc, plainD], 0, fun _ => by simp [enc, PyData.depth]⟩
instance [P : Pln α] : Pln (List α) := ⟨fun xs => by
  show plainD (.list _) = _
  rw [plainD]
  exact plainAll_of fun d hd => by
    obtain ⟨x, _, rfl⟩ := List.mem_map.mp hd
    exact P.p x, P.dp + 1, fun xs => by
  show (PyData.list _).depth ≤ _
  rw [PyData.depth]
  exact Nat.succ_le_succ (depthAll_le fun d hd => by
    obtain ⟨x, _, rfl⟩ := List.mem_map.mp hd
    exact P.depth_le x)⟩
instance [P : Pln α] [Q : Pln β] : Pln (α × β) := ⟨fun x => by
  show plainD (.tuple [enc x.1, enc x.2]) = _
  simp [plainD, plainAllD, P.p, Q.p], max P.dp Q.dp + 1, fun x => by
  have a := P.depth_le x.1
  have b := Q.depth_le x.2
  show (PyData.tuple [enc x.1, enc x.2]).depth ≤ _
  simp [PyData.depth, PyData.depthAll]
  omega⟩
instance [P : Pln α] [Q : Pln β] [R : Pln γ] : Pln (P3 α β γ) := ⟨fun x => by
  show plainD (.tuple [enc x.a, enc x.b, enc x.c]) = _
  simp [plainD, plainAllD, P.p, Q.p, R.p], max P.dp (max Q.dp R.dp) + 1, fun x => by
  have a := P.depth_le x.a
  have b := Q.depth_le x.b
  have c := R.depth_le x.c
  show (PyData.tuple [enc x.a, enc x.b, enc x.c]).depth ≤ _
  simp [PyData.depth, PyData.depthAll]
  omega⟩
instance [P : Pln α] [Q : Pln β] [R : Pln γ] [S : Pln δ] : Pln (P4 α β γ δ) := ⟨fun x => by
  show plainD (.tuple [enc x.a, enc x.b, enc x.c, enc x.d]) = _
  simp [plainD, plainAllD, P.p, Q.p, R.p, S.p], max (max P.dp Q.dp) (max R.dp S.dp) + 1, fun x => by
  have a := P.depth_le x.a
  have b := Q.depth_le x.b
  have c := R.depth_le x.c
  have d := S.depth_le x.d
  show (PyData.tuple [enc x.a, enc x.b, enc x.c, enc x.d]).depth ≤ _
  simp [PyData.depth, PyData.depthAll]
  omega⟩
def plT (α : Type) [Enc α] [P : Pln α] (k : Nat) : α × Unit → Res Bool := fun _ => if P.dp < k then .ok true else .bad
theorem plT_lf [P : Pln α] {m : Nat → Fn} (hm : ∀ k, m (k + 1) = plainBody (m k)) (k : Nat) : LF [0] 0 (plT α k) (m k) := ⟨fun x ys h => by
  obtain ⟨x, u⟩ := x
  obtain ⟨y, rfl, p⟩ := AR.one h
  unfold plT
  split
  · rename_i hk
    obtain ⟨fin, e⟩ := plain_any hm k (enc x) y.2 (P.p x) (Nat.lt_of_le_of_lt (P.depth_le x) hk)
    rw [p.eq, e]
    exact Rt.ok ⟨trivial, rfl, Nat.zero_le _⟩
  · exact trivial⟩
end
end Sq
end

section
namespace Sq
open PySem PySem.Spec L2
open Enc (enc hm wf hgt_le)
open EnvE (encE wfE hms)
open ArgE (encA wfA)
/-! ### defs that change two of their parameters -/
section
variable {σ : Type} [EnvE σ] {ρ κ κ' : Type} [Enc ρ] [Enc κ] [Enc κ'] {i i' : Nat} {δ δ1 δn δr δk : List Nat} {m mr : Nat} {τ : Type} [ArgE τ]
structure LF2 (ms : List Nat) (m j j' : Nat) (f : τ → Res (ρ × κ × κ')) (g : Fn) : Prop where
  run : ∀ x ys, AR ms x ys → Rt (f x) (g ys) fun r z => VR m r.1 z.1 ∧ (wf r.2.1 ∧ ∃ k, z.2[j]? = some (some (enc r.2.1, k)) ∧ hm κ ≤ k) ∧ wf r.2.2 ∧ ∃ k, z.2[j']? = some (some (enc r.2.2, k)) ∧ hm κ' ≤ k
@[simp] def eCall2 (x : Sl σ κ i) (y : Sl σ κ' i') (f : τ → Res (ρ × κ × κ')) (t : σ → Res (τ × σ)) : σ → Res (ρ × σ) := fun v => t v >>= fun a => f a.1 >>= fun z => .ok (z.1, y.set (x.set a.2 (some z.2.1)) (some z.2.2))
theorem le_call2 {ms ks : List Nat} {j j' : Nat} {f : τ → Res (ρ × κ × κ')} {g : Fn} {ts : σ → Res (τ × σ)} {as : Exs} (x : Sl σ κ i) (y : Sl σ κ' i') (hf : LF2 ms m j j' f g) (ha : LEs δ δ1 ks ts as) (h : leL ms ks = true := by decide) : LE δ ((δ1.set i (hm κ)).set i' (hm κ')) m (eCall2 x y f ts) (evCall g [(j, i), (j', i')] as) := fun v s r => (ha v s r).bind fun a b p => (hf.run a.1 b.1 (p.1.mono h)).bind fun z w q => by
  obtain ⟨q1, ⟨q2, k, q3, q4⟩, q5, k', q6, q7⟩ := q
  refine ⟨(w.1, (b.2.set i (some (enc z.2.1, k))).set i' (some (enc z.2.2, k'))), ?_, q1, (p.2.set x q2 q4).set y q5 q7⟩
  show Res.ok (w.1, (b.2.set i (keepFull ((w.2[j]?).getD none))).set i' (keepFull ((w.2[j']?).getD none))) = _
  rw [q3, q6]
  show Res.ok (w.1, (b.2.set i (if full (enc z.2.1, k) then _ else _)).set i' (if full (enc z.2.2, k') then _ else _)) = _
  rw [if_pos (full_enc z.2.1 q4), if_pos (full_enc z.2.2 q7)]
variable [I : Ini τ σ]
def tDef2 (σ : Type) [EnvE σ] [I : Ini τ σ] (x : Sl σ κ i) (y : Sl σ κ' i') (z : Res ρ) (body : σ → Res (TF ρ × σ)) : τ → Res (ρ × κ × κ') := fun a => body (I.ini a) >>= fun w => match w.1 with
  | .ret r => ofO (x.get w.2) >>= fun k => ofO (y.get w.2) >>= fun k' => .ok (r, k, k')
  | .next => z >>= fun r => ofO (x.get w.2) >>= fun k => ofO (y.get w.2) >>= fun k' => .ok (r, k, k')
  | .brk => .bad
theorem lf2_of {ms asg : List Nat} {n np : Nat} {z : Res ρ} {tbody : σ → Res (TF ρ × σ)} {body : Sx} (x : Sl σ κ i) (y : Sl σ κ' i') (hz : isNoneR z) (hm0 : mr = 0 ∨ z = .bad) (h : LS ms δn δr δk mr tbody body) (hn : n = (hms σ).length) (hp : ms.length = np) (hi : i < np) (ha : i ∉ asg) (hi' : i' < np) (ha' : i' ∉ asg) (h1 : hm κ ≤ δr.getD i 0) (h1' : hm κ' ≤ δr.getD i' 0) (h2 : z = .bad ∨ (hm κ ≤ δn.getD i 0 ∧ hm κ' ≤ δn.getD i' 0)) : LF2 ms mr i i' (tDef2 (τ := τ) σ x y z tbody) (defn n np asg body) := ⟨fun a ys p => by
  have hy : ys.length = np := by
    have := leAll_len p.2.2
    rw [List.length_map] at this
    omega
  unfold tDef2 defn
  rw [if_pos hy]
  refine (h (I.ini a) (start1 n ys) (start_rel p hn)).bind fun w u q => ?_
  obtain ⟨w, v⟩ := w
  obtain ⟨u, s⟩ := u
  have fin : ∀ {θ : Type} [Enc θ] {j : Nat} (x : Sl σ θ j) {δ' : List Nat}, j < np → j ∉ asg → rel δ' v s → hm θ ≤ δ'.getD j 0 → ∀ k, x.get v = some k → wf k ∧ ∃ l, (finP np asg s)[j]? = some (some (enc k, l)) ∧ hm θ ≤ l := fun {θ} _ {j} x {δ'} hi ha r hd k e => by
    obtain ⟨wk, l, e1, e2⟩ := rel.get r x e
    refine ⟨wk, l, ?_, Nat.le_trans hd e2⟩
    rw [tfinP_at hi ha]
    unfold slot at e1
    split at e1
    · rename_i hx
      cases e1
      rw [hx]
      rfl
    · cases e1
  cases w with
  | ret r =>
    cases u <;> first | exact False.elim q | skip
    obtain ⟨q1, q2⟩ := q
    show Rt (ofO (x.get v) >>= _) _ _
    cases e : x.get v with
    | none => exact trivial
    | some k =>
      show Rt (ofO (y.get v) >>= _) _ _
      cases e' : y.get v with
      | none => exact trivial
      | some k' => exact ⟨_, rfl, q1, fin x hi ha q2 h1 k e, fin y hi' ha' q2 h1' k' e'⟩
  | brk => cases u <;> first | exact False.elim q | exact trivial
  | next =>
    cases u <;> first | exact False.elim q | skip
    cases z with
    | ok r =>
      rcases hm0 with rfl | hm0
      · rcases h2 with h2 | ⟨h2, h2'⟩
        · cases h2
        show Rt (ofO (x.get v) >>= _) _ _
        cases e : x.get v with
        | none => exact trivial
        | some k =>
          show Rt (ofO (y.get v) >>= _) _ _
          cases e' : y.get v with
          | none => exact trivial
          | some k' => exact ⟨_, rfl, ⟨hz.2, hz.1.symm, Nat.zero_le _⟩, fin x hi ha q h2 k e, fin y hi' ha' q h2' k' e'⟩
      · cases hm0
    | exc c p => exact False.elim hz
    | bad => exact trivial⟩
end
/-! ### [a, b] of two types, for str -/
structure H2 (α β : Type) where
  a : α
  b : β
deriving DecidableEq
section
variable {α β : Type} [Enc α] [Enc β]
instance instEncH2 : Enc (H2 α β) := ⟨fun p => .list [enc p.a, enc p.b], max (hm α) (hm β) + 1, fun p => wf p.a ∧ wf p.b, fun p => by
  have a := hgt_le p.a
  have b := hgt_le p.b
  simp [hgt, hgtAll]
  omega⟩
instance : Shw (H2 α β) := ⟨fun _ _ => rfl⟩
@[simp] def oH2 : α × β × Unit → Res (H2 α β) := fun p => .ok ⟨p.1, p.2.1⟩
theorem op_h2 {j k : Nat} : OpN [j, k] (min (dpt (hm α) j) (dpt (hm β) k) + 1) (oH2 (α := α) (β := β)) gList := fun x ys h => by
  obtain ⟨x, z, u⟩ := x
  obtain ⟨⟨w1, w2, _⟩, e, l⟩ := h
  match ys, e, l with
  | [y, w], e, l =>
    have hy : VR j x y := ⟨w1, (List.cons.inj e).1, l.1⟩
    have hw : VR k z w := ⟨w2, (List.cons.inj (List.cons.inj e).2).1, l.2.1⟩
    refine ⟨_, if_pos (show small 2 = true from rfl), ⟨w1, w2⟩, ?_, ?_⟩
    · show PyData.list [y.1, w.1] = PyData.list [enc x, enc z]
      rw [hy.2.1, hw.2.1]
    · show _ ≤ min (dep y) (min (dep w) 9) + 1
      have a := dep_VR hy
      have b := dep_VR hw
      have c := dpt9 (hm α) j
      have d := dpt9 (hm β) k
      omega
end
end Sq
end

section
namespace Sq
open PySem PySem.Spec L2
open Enc (enc hm wf)
section
variable {σ α : Type} [EnvE σ] [Enc α] {δ δ1 δ2 : List Nat} {i m : Nat} {v : σ} {s : SD}
/-! pop of a list of lists: the item goes out with what it owns -/
theorem tpopR_ok (x : Sl σ (List α) i) (r : rel δ v s) (h : 0 < δ.getD i 0) {l : List α} (eg : x.get v = some l) (c : Nat) : Rt (ofO (l[c]?) >>= fun a => Res.ok (a, x.set v (some (l.eraseIdx c)))) (popR c i [] s) fun y w => VR (δ.getD i 0 - 1) y.1 w.1 ∧ rel (δ.set i (δ.getD i 0)) y.2 w.2 := by
  obtain ⟨wl, k, e1, e2⟩ := rel.get r x eg
  unfold popR
  rw [e1]
  obtain ⟨k, rfl⟩ : ∃ k', k = k' + 1 := ⟨k - 1, by omega⟩
  show Rt _ (match (l.map enc)[c]? with | some d => Res.ok ((d, k), s.set i (some (.list ((l.map enc).eraseIdx c), k + 1))) | none => .bad) _
  rw [List.getElem?_map]
  cases ec : l[c]? with
  | none => exact trivial
  | some a =>
    have e3 : (l.map enc).eraseIdx c = (l.eraseIdx c).map enc := by
      apply List.ext_getElem?
      intro q
      simp only [List.getElem?_eraseIdx, List.getElem?_map]
      split <;> rfl
    show Rt (Res.ok (a, x.set v (some (l.eraseIdx c)))) (Res.ok ((enc a, k), s.set i (some (.list ((l.map enc).eraseIdx c), k + 1)))) _
    rw [e3]
    have w2 : wf (l.eraseIdx c) := ⟨Nat.le_trans (List.length_eraseIdx_le ..) wl.1, fun b hb => wl.2 b (List.mem_of_mem_eraseIdx hb)⟩
    exact Rt.ok ⟨⟨wl.2 a (List.mem_of_getElem? ec), rfl, by show _ ≤ k; omega⟩, r.set x w2 e2⟩
theorem le_popR (x : Sl σ (List α) i) {tp : σ → Res (List Nat × σ)} {p : Pth} (hp : LPa i 0 δ δ1 tp p) (h : 0 < δ1.getD i 0 := by decide) : LE δ (δ1.set i (δ1.getD i 0)) (δ1.getD i 0 - 1) (ePop x Pl.ze tp) (evPopR i p) := fun v s r => (hp v s r).bind fun js y q => by
  obtain ⟨js, v1⟩ := js
  obtain ⟨y, s1⟩ := y
  obtain ⟨q1, q2, q3⟩ := q
  have q2 : y = js := q2
  subst q2
  have q1 : y = [] := List.length_eq_zero_iff.mp q1
  subst q1
  cases eg : x.get v1 with
  | none => simp only [eg, ofO, Res.bind_bad]; exact trivial
  | some z =>
    obtain ⟨wa, k, e1, e2⟩ := rel.get q3 x eg
    show Rt _ (slot s1 i >>= _) _
    rw [e1]
    show Rt _ (popR ((z.map enc).length - 1) i [] s1) _
    rw [List.length_map]
    have := tpopR_ok x q3 h eg (z.length - 1)
    simp only [eg, ofO, Res.bind_ok] at this ⊢
    exact this
theorem le_popRAt (x : Sl σ (List α) i) {tp : σ → Res (List Nat × σ)} {p : Pth} {u : σ → Res (Int × σ)} {e : Ex} (hp : LPa i 0 δ δ1 tp p) (hi : LE δ1 δ2 m u e) (h : 0 < δ2.getD i 0 := by decide) : LE δ (δ2.set i (δ2.getD i 0)) (δ2.getD i 0 - 1) (ePopAt x Pl.ze tp u) (evPopRAt i p e) := fun v s r => (hp v s r).bind fun js y q => (hi js.2 y.2 q.2.2).bind fun j y3 q3 => by
  obtain ⟨js, v1⟩ := js
  obtain ⟨y, s1⟩ := y
  obtain ⟨q1, q2, _⟩ := q
  have q2 : y = js := q2
  subst q2
  have q1 : y = [] := List.length_eq_zero_iff.mp q1
  subst q1
  obtain ⟨j, v2⟩ := j
  obtain ⟨y3, s3⟩ := y3
  have ey : y3.1 = .int j := q3.1.2.1
  cases eg : x.get v2 with
  | none => simp only [eg, ofO, Res.bind_bad]; exact trivial
  | some z =>
    obtain ⟨wa, k, e1, e2⟩ := rel.get q3.2 x eg
    show Rt _ (slot s3 i >>= _) _
    rw [e1]
    show Rt _ (match some (z.map enc), y3.1 with | some ds, .int n => (match ixS ds.length n with | some j => popR j i [] s3 | none => .bad) | _, _ => .bad) _
    rw [ey]
    show Rt _ (match ixS (z.map enc).length j with | some j => popR j i [] s3 | none => .bad) _
    rw [List.length_map]
    unfold ixS
    rw [if_pos (show small z.length = true from decide_eq_true wa.1)]
    have at0 : (Pl.ze (α := α)).at_ [] z = some z := rfl
    cases ec : ixN z.length j with
    | none => simp only [eg, at0, ec, ofO, Res.bind_bad, Res.bind_ok]; exact trivial
    | some c =>
      have := tpopR_ok x q3.2 h eg c
      simp only [eg, at0, ec, ofO, Res.bind_ok] at this ⊢
      exact this
end
end Sq
end

section
namespace Sq
open PySem PySem.Spec L2
open Enc (enc hm wf)
open EnvE (encE wfE hms)
section
variable {σ ρ : Type} [EnvE σ] [Enc ρ] {δ δ1 δ2 δ3 δr δk : List Nat} {i m ma mr : Nat} {v : σ} {s : SD}
/-! xs[i] += c -/
@[simp] def sIncA {τ : Type} [Enc τ] {n : Nat} (x : Sl σ τ i) (P : Pl τ Int n) (tp : σ → Res (List Nat × σ)) (u : σ → Res (Int × σ)) (c : Int) : σ → Res (TF ρ × σ) := fun v => tp v >>= fun js => u js.2 >>= fun j => tChg x P js.1 (fun l => ofO (ixN l.length j.1) >>= fun k => ofO (l[k]?) >>= fun a => .ok (l.set k (a + c))) j.2 >>= fun v => .ok (.next, v)
theorem ls_incA {τ : Type} [Enc τ] {n : Nat} (x : Sl σ τ i) (P : Pl τ Int n) {tp : σ → Res (List Nat × σ)} {p : Pth} {u : σ → Res (Int × σ)} {e : Ex} {c : Int} (hp : LPa i n δ δ2 tp p) (hi : LE δ2 δ3 ma u e) (h : n < δ3.getD i 0 := by decide) : LS (ρ := ρ) δ (δ3.set i (min (δ3.getD i 0) (n + 1 + 9))) δr δk mr (sIncA x P tp u c) (sIncAt i p e c) := LS.mk fun v s r => (hp v s r).bind fun js y2 q2 => (hi js.2 y2.2 q2.2.2).bind fun j y3 q3 => by
  obtain ⟨js, v1⟩ := js
  obtain ⟨y2, s2⟩ := y2
  obtain ⟨h1, h2, h3⟩ := q2
  have h2 : y2 = js := h2
  subst h2
  obtain ⟨y3, s3⟩ := y3
  show Rt _ (match y3.1 with | .int n => chg i y2 9 (opInc n c) s3 >>= fun s => Res.ok (Fl.next, s) | _ => .bad) _
  rw [show y3.1 = .int j.1 from q3.1.2.1]
  refine (chg_tok x P (op := opInc j.1 c) (m0 := 9) (Nat.le_refl _) h1 q3.2 h fun l hl => ?_).bind fun v' s' h => Rt.ok h
  unfold opInc
  rw [List.length_map]
  cases ei : ixN l.length j.1 with
  | none => exact trivial
  | some k =>
    show Rt (ofO (l[k]?) >>= _) (match (l.map enc)[k]? with | some (.int x) => Res.ok ((l.map enc).set k (.int (x + c))) | _ => .bad) _
    rw [List.getElem?_map]
    cases el : l[k]? with
    | none => exact trivial
    | some a =>
      refine ⟨_, rfl, ⟨by rw [List.length_set]; exact hl.1, fun b hb => trivial⟩, ?_⟩
      rw [List.map_set]
      rfl
end
section
variable {σ α β ρ : Type} [EnvE σ] [Enc α] [Enc β] [Enc ρ] {δ δ1 δn δb δL δF δr δk : List Nat} {i mr : Nat} {v : σ} {s : SD}
/-! loops behind which some names are forgotten -/
def Fg (δ δ' : List Nat) (f : σ → σ) : Prop := ∀ v s, rel δ v s → rel δ' (f v) s
@[simp] def fgNil : σ → σ := fun v => v
@[simp] def fgCons (x : Sl σ α i) (f : σ → σ) : σ → σ := fun v => x.set (f v) none
theorem fg_nil : Fg (σ := σ) δ δ fgNil := fun _ _ r => r
theorem fg_cons (x : Sl σ α i) {f : σ → σ} (h : Fg δ δ1 f) : Fg δ (δ1.set i 9) (fgCons x f) := fun v s r => by
  have q := (h v s r).forget x
  refine ⟨q.1, q.2.1, fun j d e => ?_⟩
  obtain ⟨k, e1, e2⟩ := q.2.2 j d e
  by_cases hj : i = j
  · subst hj
    have e' := e
    rw [show fgCons x f v = x.set (f v) none from rfl, x.set_enc, List.getElem?_set_self'] at e'
    cases h : (encE (f v))[i]? with
    | none => rw [h] at e'; cases e'
    | some y => rw [h] at e'; cases e'
  · refine ⟨k, e1, ?_⟩
    rw [List.getD_eq_getElem?_getD, List.getElem?_set_ne hj, ← List.getD_eq_getElem?_getD]
    exact e2
@[simp] def sLoopRF (mx : σ → σ → σ) (fg : σ → σ) (ts : σ → Res (List α)) (tb : α → σ → Res σ) (body : σ → Res (TF ρ × σ)) : σ → Res (TF ρ × σ) := fun v => ts v >>= fun xs => tLoop tb body xs v >>= fun y => match y.1 with
  | .next => .ok (.next, mx v (fg y.2))
  | fl => .ok (fl, y.2)
theorem ls_forRF {vs fv ch : List Nat} {mx : σ → σ → σ} {fg : σ → σ} {ts : σ → Res (List α)} {it : Src} {tb : α → σ → Res σ} {b : Bd} {tbody : σ → Res (TF ρ × σ)} {body : Sx} (δL : List Nat) (hx : Mx ch mx) (hf : Fg δL δF fg) (hi : LI δ ts it) (hb : LB 0 vs δL δb tb b) (hs : LS δb δn δr δL mr tbody body) (h0 : leD δL (demD fv δ) = true := by decide) (h1 : leD δL δn = true := by decide) (h4 : fullAt ch (hms σ) δF = true := by decide) : LS δ (mixD ch δ δF) δr δk mr (sLoopRF mx fg ts tb tbody) (sForR b fv ch it body) := LS.mk fun v s r => (hi v s r).bind fun xs y p => by
  obtain ⟨ds, s1⟩ := y
  obtain ⟨hw, e, rfl⟩ := p
  have e : ds = xs.map enc := e
  subst e
  refine (tloop_ok (δ0 := δk) hb hs h1 (by unfold leD; simp) xs v (demote fv s1) hw.2 ((r.dem fv).mono h0)).bind fun x y z => ?_
  obtain ⟨x, v'⟩ := x
  obtain ⟨y, s'⟩ := y
  cases x <;> cases y <;> first
    | exact False.elim z
    | exact Rt.ok (rel.restore hx r (rel.o (hf _ _ z) fun _ => False) (fun _ _ z => z) h4)
    | exact Rt.ok z
end
section
variable {α : Type} [Enc α]
/-- a slot that holds None or a thing, seen where it holds a thing -/
def Sl.o {σ : Type} [EnvE σ] {i : Nat} (x : Sl σ (Option α) i) : Sl σ α i where
  get := fun v => match x.get v with
    | some (some a) => some a
    | _ => none
  set := fun v o => x.set v (o.map some)
  get_enc := fun v a e => by
    split at e
    · rename_i h; cases e; exact x.get_enc v _ h
    · cases e
  in_ := x.in_
  get_wf := fun v a h e => by
    split at e
    · rename_i h2; cases e; exact x.get_wf v _ h h2 a rfl
    · cases e
  set_enc := fun v o => by rw [x.set_enc]; cases o <;> rfl
  set_wf := fun v o h e => x.set_wf v _ h fun y hy => by
    cases o with
    | none => cases hy
    | some a => cases hy; exact fun b hb => by cases hb; exact e a rfl
@[simp] theorem Sl.o_get {σ : Type} [EnvE σ] {i : Nat} (x : Sl σ (Option α) i) (v : σ) : (Sl.o x).get v = match x.get v with
    | some (some a) => some a
    | _ => none := rfl
@[simp] theorem Sl.o_set {σ : Type} [EnvE σ] {i : Nat} (x : Sl σ (Option α) i) (v : σ) (o : Option α) : (Sl.o x).set v o = x.set v (o.map some) := rfl
theorem okS_none : okS PyData.none = true := by decide +kernel
instance [S : Shw α] : Shw (Option α) := ⟨fun x k => match x with
  | none => by
    show gStr [(PyData.none, k)] = if okS PyData.none then Res.ok (PyData.str PyData.none.shown, 0) else .bad
    rw [if_pos okS_none]
    rfl
  | some a => S.ok a k⟩
end
theorem lp_nonO9 {σ α : Type} [EnvE σ] [Enc α] {δ : List Nat} : LP (σ := σ) δ 9 (pC (none : Option α)) (eC9 .none) := fun v s r => Rt.ok ⟨⟨(fun _ h => nomatch h), rfl, Nat.le_refl _⟩, rfl⟩
/-! texts joined -/
def oCatS (a b : Str) : Res Str := if small (a.length + b.length) then .ok (a ++ b) else .bad
theorem strOk_app {a b : Str} (ha : PyData.canLay0 (.str a) = true) (hb : PyData.canLay0 (.str b) = true) : PyData.canLay0 (.str (a ++ b)) = true := by
  rw [PyData.canLay0] at ha hb ⊢
  unfold PySem.PyData.strOk at ha hb ⊢
  rw [Array.all_eq_true] at ha hb ⊢
  have h : ∀ c ∈ (a ++ b).cps, c ∈ a.cps ∨ c ∈ b.cps := fun c hc => Array.mem_append.mp (show c ∈ a.cps ++ b.cps from hc)
  intro i hi
  rcases h _ (Array.getElem_mem hi) with hm | hm
  · obtain ⟨j, hj, e⟩ := Array.mem_iff_getElem.mp hm
    rw [← e]
    exact ha j hj
  · obtain ⟨j, hj, e⟩ := Array.mem_iff_getElem.mp hm
    rw [← e]
    exact hb j hj
theorem o_catS {ma mb : Nat} : Op2 ma mb 0 oCatS gAdd := fun x y z w p q => by
  rw [p.eq, q.eq]
  show Rt _ (if small (x.length + z.length) then Res.ok (PyData.str (x ++ z), 0) else .bad) _
  unfold oCatS
  split
  · rename_i h
    refine Rt.ok ⟨⟨strOk_app p.1.1 q.1.1, ?_⟩, rfl, Nat.zero_le _⟩
    have : (x ++ z).length = x.length + z.length := by
      show (x.cps ++ z.cps).size = _
      rw [Array.size_append]
      rfl
    rw [this]
    exact of_decide_eq_true h
  · exact trivial
/-! list(zip(a, b)) -/
@[simp] def oZipL : List Int × List Int × Unit → Res (List (Int × Int)) := fun p => .ok (p.1.zip p.2.1)
theorem o_zipL {ma mb : Nat} : OpN [ma, mb] 10 oZipL gZipL := fun x ys h => by
  obtain ⟨x, z, u⟩ := x
  obtain ⟨⟨w1, w2, _⟩, e, l⟩ := h
  match ys, e, l with
  | [y, w], e, l =>
    have hy : VR ma x y := ⟨w1, (List.cons.inj e).1, l.1⟩
    have hw : VR mb z w := ⟨w2, (List.cons.inj (List.cons.inj e).2).1, l.2.1⟩
    rw [hy.eq, hw.eq]
    show Rt _ (match intsD (x.map enc), intsD (z.map enc) with | some ns, some ms => Res.ok (PyData.list ((ns.zip ms).map fun p => .tuple [.int p.1, .int p.2]), 10) | _, _ => .bad) _
    rw [ints_enc, ints_enc]
    refine Rt.ok ⟨⟨?_, fun _ _ => ⟨trivial, trivial⟩⟩, rfl, Nat.le_refl _⟩
    have := w1.1
    rw [List.length_zip]
    omega
section
variable {σ α : Type} [EnvE σ] [Enc α] {δ δ1 : List Nat} {i ma : Nat}
/-! an item taken out of a list that is not needed any more -/
@[simp] def eIxO (x : Sl σ (List α) i) (u : σ → Res (Int × σ)) : σ → Res (α × σ) := fun v => ofO (x.get v) >>= fun _ => u v >>= fun j => ofO (x.get j.2) >>= fun l => ofO (ixN l.length j.1) >>= fun c => ofO (l[c]?) >>= fun a => .ok (a, x.set j.2 none)
theorem le_ixM (x : Sl σ (List α) i) {u : σ → Res (Int × σ)} {e : Ex} (hi : LE δ δ1 ma u e) : LE δ δ1 (δ1.getD i 0 - 1) (eIxO x u) (eIxM i e) := fun v s r => by
  unfold eIxO eIxM ofO
  cases eg : x.get v with
  | none => exact trivial
  | some l0 =>
    obtain ⟨_, k0, e0, _⟩ := rel.get r x eg
    rw [e0]
    show Rt (u v >>= _) (e s >>= _) _
    refine (hi v s r).bind fun j y q => ?_
    obtain ⟨y, s1⟩ := y
    have q1 : y.1 = .int j.1 := q.1.2.1
    cases eg2 : x.get j.2 with
    | none => exact trivial
    | some l =>
      obtain ⟨wl, k, e1, e2⟩ := rel.get q.2 x eg2
      show Rt (ofO (ixN l.length j.1) >>= _) (slot s1 i >>= _) _
      rw [e1]
      show Rt _ (match PyData.list (l.map enc), y.1 with | .list ds, .int n => (match ixN ds.length n with | some j => (match ds[j]? with | some d => Res.ok ((d, k - 1), s1.set i none) | none => .bad) | none => .bad) | _, _ => .bad) _
      rw [q1]
      show Rt _ (match ixN (l.map enc).length j.1 with | some j => (match (l.map enc)[j]? with | some d => Res.ok ((d, k - 1), s1.set i none) | none => .bad) | none => .bad) _
      rw [List.length_map]
      unfold ofO
      cases ei : ixN l.length j.1 with
      | none => exact trivial
      | some c =>
        show Rt (ofO (l[c]?) >>= _) (match (l.map enc)[c]? with | some d => Res.ok ((d, k - 1), s1.set i none) | none => .bad) _
        rw [List.getElem?_map]
        unfold ofO
        cases el : l[c]? with
        | none => exact trivial
        | some a => exact Rt.ok ⟨⟨wl.2 a (List.mem_of_getElem? el), rfl, Nat.sub_le_sub_right e2 1⟩, q.2.wipe x none⟩
end
end Sq
end

section
namespace Sq
open PySem PySem.Spec L2
open Enc (enc hm wf hgt_le)
open EnvE (encE wfE hms)
open ArgE (encA wfA)
/-! sorted -/
theorem o_sortA {ma : Nat} : OpN [ma] 10 oSort gSortA := fun x ys h => by
  obtain ⟨y, rfl, p⟩ := AR.one h
  rw [p.eq]
  show Rt _ (match intsD (x.1.map enc) with | some ns => Res.ok (PyData.list ((sortI ns).map .int), 10) | none => if srtOk (x.1.map enc) then .ok (.list (sortD (x.1.map enc)), depI (.list (x.1.map enc), y.2) + 1) else .bad) _
  rw [ints_enc]
  exact Rt.ok ⟨⟨by rw [sortI_len]; exact p.1.1, fun _ _ => trivial⟩, rfl, Nat.le_refl _⟩
def srtL (L : List (List Int)) : List (List Int) := L.mergeSort fun a b => decide (a ≤ b)
@[simp] def oSortL : List (List Int) × Unit → Res (List (List Int)) := fun p => .ok (srtL p.1)
theorem enc_row (r : List Int) : (enc r : PyData) = .list (r.map .int) := rfl
theorem ndc_rows : ∀ L : List (List Int), ndcAll (L.map enc) = true
  | [] => rfl
  | r :: L => by rw [List.map_cons, ndcAll, ndc_rows L, enc_row, ndc, ndc_ints]; rfl
theorem srtOk_rows (L : List (List Int)) : srtOk (L.map enc) = true := by
  unfold srtOk
  rw [Bool.and_eq_true, Bool.and_eq_true, Bool.or_eq_true]
  refine ⟨⟨List.all_eq_true.mpr fun d hd => List.all_eq_true.mpr fun d' hd' => ?_, .inr (List.all_eq_true.mpr fun d hd => ?_)⟩, (Bool.and_eq_true ..).mpr ⟨ndc_rows L, List.all_eq_true.mpr fun d hd => decide_eq_true ?_⟩⟩
  · obtain ⟨r, _, rfl⟩ := List.mem_map.mp hd
    obtain ⟨r', _, rfl⟩ := List.mem_map.mp hd'
    rw [enc_row, enc_row, PySem.W.alike]
    exact PySem.W.alike_ints r r'
  · obtain ⟨r, _, rfl⟩ := List.mem_map.mp hd
    rfl
  · obtain ⟨r, _, rfl⟩ := List.mem_map.mp hd
    rw [enc_row, PyData.depth, PySem.W.depth_ints]
    decide
theorem sortD_rows (L : List (List Int)) : sortD (L.map enc) = (srtL L).map enc := by
  unfold sortD srtL
  have e := PySem.W.dataLe_rows (β := List Int) (fun r => r)
  rw [List.map_mergeSort (r := fun a b : List Int => decide (a ≤ b)) (s := PySem.W.dataLe false id) (f := enc) (fun a _ b _ => ?_)]
  exact (congrFun (congrFun e a) b).symm
theorem srtL_len (L : List (List Int)) : (srtL L).length = L.length := List.length_mergeSort ..
theorem srtL_perm (L : List (List Int)) : (srtL L).Perm L := List.mergeSort_perm ..
theorem o_sortL {ma : Nat} : OpN [ma] (dpi (hm (List Int)) ma + 1) oSortL gSortA := fun x ys h => by
  obtain ⟨y, rfl, p⟩ := AR.one h
  have l := p.2.2
  rw [p.eq]
  show Rt _ (match intsD (x.1.map enc) with | some ns => Res.ok (PyData.list ((sortI ns).map .int), 10) | none => if srtOk (x.1.map enc) then .ok (.list (sortD (x.1.map enc)), depI (.list (x.1.map enc), y.2) + 1) else .bad) _
  obtain ⟨L, u⟩ := x
  cases L with
  | nil =>
    refine Rt.ok ⟨⟨by rw [srtL_len]; exact Nat.zero_le _, fun r hr => absurd ((srtL_perm []).mem_iff.mp hr) (by simp)⟩, by
      have e0 : srtL ([] : List (List Int)) = [] := List.mergeSort_nil ..
      show _ = enc (srtL [])
      rw [e0]; rfl, ?_⟩
    unfold dpi
    split
    · decide
    · split
      · decide
      · omega
  | cons r L =>
    have e : intsD ((r :: L).map enc) = none := rfl
    simp only [e, srtOk_rows, if_true, sortD_rows]
    refine Rt.ok ⟨⟨by rw [srtL_len]; exact p.1.1, fun r' hr => p.1.2 r' ((srtL_perm (r :: L)).mem_iff.mp hr)⟩, rfl, ?_⟩
    exact Nat.succ_le_succ (depI_enc (r :: L) l)
end Sq
end

section
namespace Sq
open PySem PySem.Spec L2
open Enc (enc hm wf hgt_le)
open EnvE (encE wfE hms)
open ArgE (encA wfA)
section
variable {σ ρ : Type} [EnvE σ] [Enc ρ] {δ δ1 δ2 δ3 δr δk : List Nat} {m mr : Nat}
/-! two places set at once -/
@[simp] def sPut2 (t : σ → Res ((Int × Int) × σ)) (st su : Int → σ → Res (TF ρ × σ)) : σ → Res (TF ρ × σ) := fun v => t v >>= fun p => sThen (st p.1.1) (su p.1.2) p.2
theorem ls_put2 {t : σ → Res ((Int × Int) × σ)} {st su : Int → σ → Res (TF ρ × σ)} {f : Ex} {i1 i2 : Nat} {p1 p2 : Pth} {x1 x2 : Ex} (he : LE δ δ1 m t f) (h1 : ∀ a : Int, LS δ1 δ2 δr δk mr (st a) (sSet i1 [] (eC (.int a)) p1 x1)) (h2 : ∀ a : Int, LS δ2 δ3 δr δk mr (su a) (sSet i2 [] (eC (.int a)) p2 x2)) : LS δ δ3 δr δk mr (sPut2 t st su) (sSet2 f i1 p1 x1 i2 p2 x2) := LS.mk fun v s r => (he v s r).bind fun z y q => by
  obtain ⟨y, s1⟩ := y
  have ez : y.1 = .tuple [.int z.1.1, .int z.1.2] := q.1.2.1
  show Rt _ (match y.1 with | .tuple [.int a, .int b] => sSeq (sSet i1 [] (eC (.int a)) p1 x1) (sSet i2 [] (eC (.int b)) p2 x2) s1 | _ => .bad) _
  rw [ez]
  exact ls_seq (h1 z.1.1) (h2 z.1.2) z.2 s1 q.2
end
section
variable {ma mb : Nat}
@[simp] def oInT2 (a : Int) (b : Int × Int) : Res Bool := .ok (decide (a = b.1 ∨ a = b.2))
theorem o_inT2 : Op2 ma mb 0 oInT2 gInT := fun x y z w p q => by
  rw [p.eq, q.eq]
  have e : gInT (enc x, y.2) (enc z, w.2) = .ok (.bool (decide (x ∈ [z.1, z.2])), 0) := rfl
  rw [e]
  have e2 : decide (x ∈ [z.1, z.2]) = decide (x = z.1 ∨ x = z.2) := by rw [decide_eq_decide]; simp
  rw [e2]
  exact Rt.ok (VR.mk0 (x := decide (x = z.1 ∨ x = z.2)) trivial)
@[simp] def oInT3 (a : Int) (b : P3 Int Int Int) : Res Bool := .ok (decide (a = b.a ∨ a = b.b ∨ a = b.c))
theorem o_inT3 : Op2 ma mb 0 oInT3 gInT := fun x y z w p q => by
  rw [p.eq, q.eq]
  have e : gInT (enc x, y.2) (enc z, w.2) = .ok (.bool (decide (x ∈ [z.a, z.b, z.c])), 0) := rfl
  rw [e]
  have e2 : decide (x ∈ [z.a, z.b, z.c]) = decide (x = z.a ∨ x = z.b ∨ x = z.c) := by rw [decide_eq_decide]; simp
  rw [e2]
  exact Rt.ok (VR.mk0 (x := decide (x = z.a ∨ x = z.b ∨ x = z.c)) trivial)
@[simp] def oCatT (a b : Int × Int) : Res (P4 Int Int Int Int) := .ok ⟨a.1, a.2, b.1, b.2⟩
theorem o_catT : Op2 ma mb 10 oCatT gCatT := fun x y z w p q => by
  rw [p.eq, q.eq]
  have e : gCatT (enc x, y.2) (enc z, w.2) = .ok (.tuple [.int x.1, .int x.2, .int z.1, .int z.2], 10) := rfl
  rw [e]
  exact Rt.ok ⟨⟨trivial, trivial, trivial, trivial⟩, rfl, Nat.le_refl _⟩
@[simp] def oLtL (a b : List Int) : Res Bool := .ok (decide (a < b))
theorem o_ltL : Op2 ma mb 0 oLtL gLtL := fun x y z w p q => by
  rw [p.eq, q.eq]
  show Rt _ (match intsD (x.map enc), intsD (z.map enc) with | some ns, some ms => Res.ok (PyData.bool (decide (ns < ms)), 0) | _, _ => .bad) _
  rw [ints_enc, ints_enc]
  exact Rt.ok (VR.mk0 (x := decide (x < z)) trivial)
end
section
variable {σ α : Type} [EnvE σ] [Enc α] {δ δ1 δ2 : List Nat} {m ma : Nat} {a b : Ex}
/-! a part of a list, its end reckoned by what changes -/
@[simp] def eSlH (t : σ → Res (List α × σ)) (u : σ → Res (Int × σ)) : σ → Res (List α × σ) := fun v => t v >>= fun x => u x.2 >>= fun h => .ok (cutD x.1 none (some h.1), h.2)
theorem le_slH {t : σ → Res (List α × σ)} {u : σ → Res (Int × σ)} (ha : LE δ δ1 m t a) (hb : LE δ1 δ2 ma u b) : LE δ δ2 (dpi (hm α) m + 1) (eSlH t u) (evSl a oNone (oSome b)) := fun v s r => (ha v s r).bind fun x y p => by
  have k := hb x.2 y.2 p.2
  show Rt (u x.2 >>= _) (oSome b y.2 >>= _) _
  unfold oSome
  revert k
  cases u x.2 with
  | bad => intro _; exact trivial
  | exc c q =>
    intro k
    have k : b y.2 = .exc c q := k
    rw [k]
    exact rfl
  | ok h =>
    intro k
    obtain ⟨w, ew, k1, k2⟩ := k
    obtain ⟨w, s2⟩ := w
    have e1 : w = (.int h.1, w.2) := k1.eq
    rw [ew, e1]
    have l1 := depI_enc x.1 p.1.2.2
    have e := p.1.eq
    rw [e]
    refine ⟨_, rfl, ⟨⟨Nat.le_trans (cutD_len ..) p.1.1.1, fun u hu => p.1.1.2 u (cutD_mem hu)⟩, ?_, Nat.succ_le_succ l1⟩, k2⟩
    show PyData.list (cutD (x.1.map enc) none (some h.1)) = PyData.list _
    rw [cutD_map]
end
end Sq
end

section
namespace Sq
open PySem PySem.Spec L2
/-! ### methods of texts with one argument -/
section
variable {X : Cx} {o e : Expr} {apos cpos : Pos} {fva fvb mva mvb : List Nat} {fa fb : Ex}
theorem re_sm1 {id : String} {name : Str} {r : V → List V → Hp → VK → Prop} {g : DV → DV → Res DV} (slot : Slot "str" name id) (hty : typeOf (.builtin id) = pure (.type "method_descriptor")) (hm : MtR X id r) (ok : OpOk X.K (fun x y => r x [y]) g) (hstr : ∀ x y z, g x y = .ok z → ∃ a, x.1 = .str a)
    (ho : PE X o (tE X.K fva mva fa)) (he : PE X e (tE X.K fvb mvb fb)) (d : djn fva mvb = true := by rfl) (hbase : attributeBase o name X.env (eval o X.env) = eval o X.env := by rfl)
    (hfew : ((backTo cpos (starEach [e] X.env)).all (fun x => !x.1) && (backToKw cpos (keywordEach [] X.env)).all (fun x => x.1.isSome) && decide ([e].length + ([] : List Keyword).length + (if ([] : List Keyword).isEmpty then 0 else 1) < 30)) = true := by rfl)
    (hline : (apos.endLine == cpos.line) = true := by rfl) (hst : starEach [e] X.env = (false, eval e X.env) :: starEach [] X.env := by rfl) (hplain : (backTo cpos (starEach [] X.env)).any (·.1) = false := by rfl) :
    PE X (.Call (.Attribute o name apos) [e] [] cpos) (tE X.K (fva ++ fvb) (mva ++ mvb) (ev2 g fa fb)) := by
  refine PE.of (pe_bm PySem.F.plainAttrs_str slot hty hm ho (pa_cons he pa_nil hst) hbase hfew hline hst hplain) fun σ H Q h => ?_
  obtain ⟨Z, s, Fs, z, s', gd, e, q⟩ := h
  unfold ev2 at e
  obtain ⟨⟨x, s1⟩, ea, e⟩ := Res.bind_eq_ok.mp e
  obtain ⟨⟨y, s2⟩, eb, e⟩ := Res.bind_eq_ok.mp e
  obtain ⟨z', eg, e⟩ := Res.bind_eq_ok.mp e
  cases e
  refine ⟨Z, s, Fs, x, s1, gd, ea, fun u H1 Z1 Fs1 F p1 => ?_⟩
  obtain ⟨a, ex⟩ := hstr x y z eg
  have ow1 : Own X.K _ H1 x.2 u x.1 F := p1.held.pr
  rw [ex] at ow1
  have eu := own_str ow1
  subst eu
  refine ⟨rfl, Z1, s1, Fs1, y, _, p1.good, eb, fun v H2 Z2 Fs2 F2 p2 => ?_⟩
  have pp := p1.cons p2.one (djn_ok d)
  exact ok eg pp fun u2 H3 Z3 F3 p3 => q u2 H3 Z3 Fs2 F3 p3
end
def gFind (x y : DV) : Res DV := match x.1, y.1 with
  | .str a, .str b => .ok (.int (Txt.find a b), 0)
  | _, _ => .bad
/-- where a text stands first in another one -/
def gAtS (x y : DV) : Res DV := match x.1, y.1 with
  | .str a, .str b => match Builtin.Str.occurrences a b 0 a.length 1 with
    | i :: _ => .ok (.int (i : Nat), 0)
    | [] => .bad
  | _, _ => .bad
section
variable {K : PySem.W.Frag}
theorem ok_find : OpOk K (fun x y H Q => ∃ a b, x = .str a ∧ [y] = [V.str b] ∧ Q (.int (Txt.find a b)) H) gFind := by
  intro fv mv H Z Fs σ s' H1 Z1 Fs1 F v w x y z Q e p q
  obtain ⟨F1, F2, h1, h2, eF⟩ := two_own p.held.pr
  obtain ⟨xd, xk⟩ := x
  obtain ⟨yd, yk⟩ := y
  unfold gFind at e
  simp only at e
  split at e
  · next a b =>
    cases e
    exact ⟨a, b, own_str h1, by rw [own_str h2], q _ _ _ _ (p.sc int_own)⟩
  · cases e
theorem ok_atS : OpOk K (fun x y H Q => ∃ a b i rest, x = .str a ∧ [y] = [V.str b] ∧ Builtin.Str.occurrences a b 0 a.length 1 = i :: rest ∧ Q (.int (i : Nat)) H) gAtS := by
  intro fv mv H Z Fs σ s' H1 Z1 Fs1 F v w x y z Q e p q
  obtain ⟨F1, F2, h1, h2, eF⟩ := two_own p.held.pr
  obtain ⟨xd, xk⟩ := x
  obtain ⟨yd, yk⟩ := y
  unfold gAtS at e
  simp only at e
  split at e
  · next a b =>
    cases eo : Builtin.Str.occurrences a b 0 a.length 1 with
    | nil => rw [eo] at e; cases e
    | cons i rest =>
      rw [eo] at e
      cases e
      exact ⟨a, b, i, rest, own_str h1, by rw [own_str h2], eo, q _ _ _ _ (p.sc int_own)⟩
  · cases e
end
theorem str_find {x y z : DV} (h : gFind x y = .ok z) : ∃ a, x.1 = .str a := by
  unfold gFind at h
  split at h
  · next a b ex ey => exact ⟨a, ex⟩
  · cases h
theorem str_atS {x y z : DV} (h : gAtS x y = .ok z) : ∃ a, x.1 = .str a := by
  unfold gAtS at h
  split at h
  · next a b ex ey => exact ⟨a, ex⟩
  · cases h
section
variable {X : Cx} {o e : Expr} {apos cpos : Pos} {fva fvb mva mvb : List Nat} {fa fb : Ex}
theorem xfind (ho : PE X o (tE X.K fva mva fa)) (he : PE X e (tE X.K fvb mvb fb)) (d : djn fva mvb = true := by rfl) (hbase : attributeBase o "find" X.env (eval o X.env) = eval o X.env := by rfl)
    (hfew : ((backTo cpos (starEach [e] X.env)).all (fun x => !x.1) && (backToKw cpos (keywordEach [] X.env)).all (fun x => x.1.isSome) && decide ([e].length + ([] : List Keyword).length + (if ([] : List Keyword).isEmpty then 0 else 1) < 30)) = true := by rfl)
    (hline : (apos.endLine == cpos.line) = true := by rfl) (hst : starEach [e] X.env = (false, eval e X.env) :: starEach [] X.env := by rfl) (hplain : (backTo cpos (starEach [] X.env)).any (·.1) = false := by rfl) :
    PE X (.Call (.Attribute o "find" apos) [e] [] cpos) (tE X.K (fva ++ fvb) (mva ++ mvb) (ev2 gFind fa fb)) := re_sm1 PySem.F.slot_str_find PySem.F.type_str_find mt_find ok_find (fun _ _ _ => str_find) ho he d hbase hfew hline hst hplain
theorem xatS (ho : PE X o (tE X.K fva mva fa)) (he : PE X e (tE X.K fvb mvb fb)) (d : djn fva mvb = true := by rfl) (hbase : attributeBase o "index" X.env (eval o X.env) = eval o X.env := by rfl)
    (hfew : ((backTo cpos (starEach [e] X.env)).all (fun x => !x.1) && (backToKw cpos (keywordEach [] X.env)).all (fun x => x.1.isSome) && decide ([e].length + ([] : List Keyword).length + (if ([] : List Keyword).isEmpty then 0 else 1) < 30)) = true := by rfl)
    (hline : (apos.endLine == cpos.line) = true := by rfl) (hst : starEach [e] X.env = (false, eval e X.env) :: starEach [] X.env := by rfl) (hplain : (backTo cpos (starEach [] X.env)).any (·.1) = false := by rfl) :
    PE X (.Call (.Attribute o "index" apos) [e] [] cpos) (tE X.K (fva ++ fvb) (mva ++ mvb) (ev2 gAtS fa fb)) := re_sm1 PySem.F.slot_str_index PySem.F.type_str_index mt_sindex ok_atS (fun _ _ _ => str_atS) ho he d hbase hfew hline hst hplain
end
/-! ### sorted(text) -/
def sgn (c : Nat) : Str := ⟨#[c]⟩
def srtT (a : Str) : List Str := (sortI (a.cps.toList.map fun c : Nat => (c : Int))).map fun n => sgn n.toNat
theorem rising_codes : ∀ (cs : List Nat) (c : Nat), PyProof.Rows.risingS (sgn c) (cs.map sgn) = true → (c :: cs).Pairwise (· ≤ ·)
  | [], c, _ => List.pairwise_singleton _ _
  | d :: cs, c, h => by
    rw [List.map_cons, PyProof.Rows.risingS, Bool.and_eq_true] at h
    have h1 : c ≤ d := by
      have z := h.1
      have e : PySem.Spec.ltCps (sgn d).cps.toList (sgn c).cps.toList = decide (d < c) := by
        show PySem.Spec.ltCps [d] [c] = _
        by_cases q : d < c
        · simp [PySem.Spec.ltCps, q]
        · by_cases q2 : d = c
          · subst q2; simp [PySem.Spec.ltCps]
          · simp [PySem.Spec.ltCps, q, q2]
      rw [e] at z
      simpa using z
    have ih := rising_codes cs d h.2
    refine List.pairwise_cons.mpr ⟨fun x hx => ?_, ih⟩
    rcases List.mem_cons.mp hx with rfl | hx
    · exact h1
    · exact Nat.le_trans h1 ((List.pairwise_cons.mp ih).1 x hx)
theorem sgn_back (c : Nat) : (sgn c).cps.toList.headD 0 = c := rfl
theorem srtT_uniq {a : Str} {ys : List Str} (h : ys.Perm (a.cps.toList.map sgn)) (hs : PyProof.Rows.sortedS ys = true) : ys = srtT a := by
  have e1 : ys = (ys.map fun s => s.cps.toList.headD 0).map sgn := by
    rw [List.map_map]
    conv => lhs; rw [← List.map_id ys]
    refine List.map_congr_left fun y hy => ?_
    obtain ⟨c, _, rfl⟩ := List.mem_map.mp (h.mem_iff.mp hy)
    rfl
  have p1 : (ys.map fun s => s.cps.toList.headD 0).Perm a.cps.toList := by
    have := h.map fun s : Str => s.cps.toList.headD 0
    rw [List.map_map] at this
    have e : (a.cps.toList.map ((fun s : Str => s.cps.toList.headD 0) ∘ sgn)) = a.cps.toList := by
      conv => rhs; rw [← List.map_id a.cps.toList]
      exact List.map_congr_left fun c _ => rfl
    rwa [e] at this
  generalize ys.map (fun s => s.cps.toList.headD 0) = cs at e1 p1
  subst e1
  have sr : cs.Pairwise (· ≤ ·) := by
    cases cs with
    | nil => exact List.Pairwise.nil
    | cons c cs => exact rising_codes cs c hs
  have e2 : cs.map (fun c : Nat => (c : Int)) = sortI (a.cps.toList.map fun c : Nat => (c : Int)) := srt_uniq ((p1.map _).trans (sortI_perm _).symm) (List.pairwise_map.mpr (sr.imp fun h => by omega)) (sortI_srt _)
  unfold srtT
  rw [← e2, List.map_map]
  exact List.map_congr_left fun c _ => by simp
def rSortTx : List V → Hp → VK → Prop := fun vs H Q => ∃ a : Str, vs = [V.str a] ∧ a.cps.size < 64 ∧ ∀ p : Addr, H p = none → Q (.ref p) (upd H p (.lst ((srtT a).map V.str)))
section
variable {X : Cx}
theorem signs_are {x : Str} {acc : Array Value} (h : ItemsOf (SignAt x) acc x.cps.size) : PyProof.Rows.StrsAre acc.toList (x.cps.toList.map sgn) := by
  have gen : ∀ (vs : List Value) (cs : List Nat), vs.length = cs.length → (∀ (j : Nat) (v : Value) (c : Nat), vs[j]? = some v → cs[j]? = some c → ∃ u, v = Value.str (sgn c) u) → PyProof.Rows.StrsAre vs (cs.map sgn) := by
    intro vs
    induction vs with
    | nil =>
      intro cs hl _
      cases cs with
      | nil => exact .nil
      | cons _ _ => simp at hl
    | cons v vs ih =>
      intro cs hl hh
      cases cs with
      | nil => simp at hl
      | cons c cs =>
        obtain ⟨u, rfl⟩ := hh 0 v c rfl rfl
        exact .cons _ u (ih cs (by simpa using hl) fun j v' c' e1 e2 => hh (j + 1) v' c' (by simpa using e1) (by simpa using e2))
  refine gen acc.toList x.cps.toList (by rw [Array.length_toList, Array.length_toList]; exact h.1) fun j v c e1 e2 => ?_
  rw [Array.getElem?_toList] at e1 e2
  obtain ⟨c', u, ec, rfl⟩ := h.2 j v e1
  rw [e2] at ec
  cases ec
  exact ⟨u, rfl⟩
theorem cr_sortTx (hc : X.calm = true) : CallR X (.builtin "sorted") rSortTx := by
  intro pins s σ H vs us Q I r h
  obtain ⟨a, rfl, h64, q⟩ := h
  cases r with
  | cons r1 rs =>
    cases rs
    obtain ⟨t, rfl⟩ := r1
    refine Calls.call_function_entry PyProof.Rows.kind_sorted PyProof.Rows.plain_sorted PyProof.Rows.entry_sorted (PyProof.Rows.args_sorted1 _) ?_
    unfold Builtin.«sorted»
    refine wpAny_bind (m := checkCount "sorted" 1 1 _) (wpAny_pure ?_)
    refine wpAny_bind (wpAny_collect_str (A := X.A.in1) (I.ok.hd hc) a t (fun s1 acc k1 g1 d1 o1 hacc => ?_) (by rw [sizeLine_eq]; omega))
    have hS := signs_are hacc
    have hlen : acc.toList.length = a.cps.size := by rw [Array.length_toList]; exact hacc.1
    refine wpAny_bind (wpAny_newList ?_ (by rw [hlen, sizeLine_eq]; omega))
    have hoL : (s1.heap.push (PyProof.Rows.seqObj "list" acc.toList.toArray 0)).get? s1.heap.objs.size = some (PyProof.Rows.seqObj "list" acc.toList.toArray 0) := Heap.get?_push_size _ rfl
    refine wpAny_bind (wpAny_holding (wpAny_call_entry PyProof.Rows.slot_list_sort ⟨_, hoL, rfl⟩ PyProof.Rows.entry_list_sort (PyProof.Rows.list_sort_treeK PyProof.Rows.strKind_oneLt hoL hS.keysOf (fun v1 v2 rest e => PyProof.Rows.keyKind_strs (by rw [← e]; exact hS)) (by rw [hlen]; exact h64) fun st' a1 a2 => ⟨_, rfl, ?_⟩) (PyProof.Rows.args_list_sort _)))
    obtain ⟨ys, b1, b2, b3⟩ := PyProof.Rows.sorted_out_str hS a1 a2
    have ey := srtT_uniq b2 b3
    subst ey
    generalize (PyProof.Rows.arrOf st').map (·.2) = out at b1
    obtain ⟨c, hcc⟩ := PyProof.Rows.sortedHeap_at (vs := acc.toList) (out := out) hoL
    have es : s1 = { s with heap := s1.heap, toks := s1.toks } := by
      cases s1
      cases s
      simp only at g1 d1 o1
      subst g1 d1 o1
      rfl
    have I1 : Inv X pins σ H s1 := by rw [es]; exact I.kept k1
    have hl2 : ((srtT a).map V.str).length ≤ sizeLine := by
      rw [List.length_map, b2.length_eq, List.length_map, Array.length_toList, sizeLine_eq]
      omega
    refine wpAny_pure ⟨_, rfl, .ref s1.heap.objs.size, upd H s1.heap.objs.size (.lst ((srtT a).map V.str)), I1.laid (t' := s1.toks) (fun b u e => ?_) (Nat.le_refl _) ⟨hl2, out.toList, c, vals_of_strs b1, hcc⟩, rfl, q _ (I1.hok.fresh (Nat.le_refl _))⟩
    have hlt := Heap.lt_size e
    rw [PyProof.Rows.sortedHeap_old (Nat.ne_of_lt hlt) (by show b < (s1.heap.push _).objs.size; rw [Heap.size_push]; exact Nat.lt_succ_of_lt hlt)]
    exact Heap.get?_push_of_some _ e
end
def gSortTx (xs : List DV) : Res DV := match xs with
  | [(.str a, _)] => if a.cps.size < 64 then .ok (.list ((srtT a).map .str), 10) else .bad
  | _ => .bad
section
variable {K : PySem.W.Frag} {Z : Zs} {H : Hp} {k : Nat}
theorem own_strs : ∀ (ns : List Str), OwnAll K Z H k (ns.map V.str) (ns.map .str) []
  | [] => by unfold OwnAll; exact ⟨rfl, rfl⟩
  | n :: ns => by
    rw [List.map_cons, List.map_cons]
    unfold OwnAll
    exact ⟨.str n, _, [], [], rfl, str_own, own_strs ns, rfl⟩
theorem ok_sortTx : CallOk K rSortTx gSortTx := by
  intro fv mv H Z Fs σ s' H1 Z1 Fs1 F vs xs z Q e p q
  unfold gSortTx at e
  split at e
  · next a kk =>
    split at e
    · next h64 =>
      cases e
      obtain ⟨v, rfl, h1⟩ := one_own p.held.pr
      exact ⟨a, by rw [own_str h1], h64, fun pn hp => q _ _ _ _ (p.newL (stb_all K _ _) (F' := []) (k := 9) hp (List.nil_sublist _) fun Z2 mz m2 => own_strs _)⟩
    · cases e
  · cases e
end
section
variable {X : Cx} {e : Expr} {p pos : Pos} {fv mv : List Nat} {io : List (Nat × Nat)} {fs : Exs}
theorem xsortT (hm : X.mg "sorted" = none) (ha : PA X [e] (tA X.K fv mv io fs)) (hc : X.calm = true := by rfl) (hg : Gl X "sorted" := by rfl) (he : starEach [e] X.env = (false, eval e X.env) :: starEach [] X.env := by rfl) (hpl : (backTo pos (starEach [] X.env)).any (·.1) = false := by rfl) : PE X (.Call (.Name "sorted" p) [e] [] pos) (tE X.K fv mv (evN gSortTx fs)) := re_callB (cr_sortTx hc) ok_sortTx hg hm (by decide +kernel) ha (by decide) (by decide) he hpl
end
/-! ### len(set(numbers)) -/
def metI (ns : List Int) : List Int := PyProof.Rows.firstMet (fun i => ns.getD i 0) ns.length
def gLenSet (xs : List DV) : Res DV := match xs with
  | [(.list ds, _)] => match intsD ds with
    | some ns => if ns.length ≤ 4000 then .ok (.int ((metI ns).length : Nat), 0) else .bad
    | none => .bad
  | _ => .bad
section
variable {X : Cx}
theorem met_le (f : Nat → Int) : ∀ n, (PyProof.Rows.firstMet f n).length ≤ n
  | 0 => by simp [PyProof.Rows.firstMet]
  | n + 1 => by
    have ih := met_le f n
    rw [PyProof.Rows.firstMet_succ]
    unfold PyProof.Rows.step_dedup
    split
    · omega
    · rw [List.length_append]; simp; omega
def tLenS (K : PySem.W.Frag) (ta : TA) : TE := fun σ H Q => ta σ H fun vs H1 => ∃ (l : Addr) (ns : List Int), vs = [.ref l] ∧ SqL K H1 l (ns.map V.int) ∧ ns.length ≤ 4000 ∧ Q (.int ((metI ns).length : Nat)) H1
theorem pe_lenS {a : Expr} {ta : TA} {p p2 q pos : Pos} (hc : X.calm = true) (hg : Gl X "len") (hm : X.mg "len" = none) (hg2 : Gl X "set") (hm2 : X.mg "set" = none) (ha : PA X [a] ta)
    (na : starEach [a] X.env = (false, eval a X.env) :: starEach [] X.env) : PE X (.Call (.Name "len" p) [.Call (.Name "set" p2) [a] [] q] [] pos) (tLenS X.K ta) := by
  refine ⟨fun pins s σ H Q I h => ?_⟩
  refine PyProof.Rows.Call_ (ld_blt I hg hm PySem.boot_len (PyProof.Rows.callWith_builtin1 (PyProof.Rows.args_cons (PyProof.Rows.Call_ (ld_blt I hg2 hm2 PyProof.Rows.boot_set (PyProof.Rows.callWith_type1 ?_ na rfl))) rfl) rfl rfl))
  refine thn (ha.run q pins s σ H _ I h) fun us s1 ⟨vs, H1, I1, r1, q1⟩ => ?_
  obtain ⟨l, ns, rfl, hq, hl, q1⟩ := q1
  rw [Vals.ref1 r1]
  obtain ⟨its, r, pl, hz⟩ := I1.list hq
  have hsz : its.toArray.size = ns.length := by rw [List.size_toArray, ← r.length, List.length_map]
  refine PySem.call_set_list (I1.ok.hd hc) pl.isList (ns := ns) (by simpa using r.ints) (by unfold scanBound; omega) fun h' tk hS hk => PyProof.Rows.args_nil ?_
  rw [hsz] at hS
  obtain ⟨o, es, ep, t, ho, hex, hd, _, _, _, hf, hn⟩ := hS
  have I2 : Inv X pins σ H1 { s1 with heap := h', toks := tk } := I1.kept fun b o e => hk b o (Heap.lt_size e) e
  have hle := met_le (fun i => ns.getD i 0) ns.length
  exact call_len_set ho hex hd hf (by rw [hn] <;> omega) ⟨.int ((metI ns).length : Nat), H1, I2.tok _, ⟨_, by rw [hn]; rfl⟩, q1⟩
end
section
variable {K : PySem.W.Frag}
theorem ok_lenSet : CallOk K (fun vs H Q => ∃ (l : Addr) (ns : List Int), vs = [.ref l] ∧ SqL K H l (ns.map V.int) ∧ ns.length ≤ 4000 ∧ Q (.int ((metI ns).length : Nat)) H) gLenSet := by
  intro fv mv H Z Fs σ s' H1 Z1 Fs1 F vs xs z Q e p q
  unfold gLenSet at e
  split at e
  · next ds kk =>
    cases eb : intsD ds with
    | none => rw [eb] at e; cases e
    | some bs =>
      rw [eb] at e
      simp only at e
      split at e
      · next hl =>
        cases e
        obtain ⟨v, rfl, h1⟩ := one_own p.held.pr
        obtain ⟨l, ws, G, rfl, r1, o1, sb⟩ := h1.sub
        rw [intsD_own eb o1] at r1
        exact ⟨l, bs, rfl, .inl r1, hl, q _ _ _ _ (p.sc int_own)⟩
      · cases e
  · cases e
end
section
variable {X : Cx} {e : Expr} {p p2 q pos : Pos} {fv mv : List Nat} {io : List (Nat × Nat)} {fs : Exs}
theorem xlenSet (hm : X.mg "len" = none) (hm2 : X.mg "set" = none) (ha : PA X [e] (tA X.K fv mv io fs)) (hc : X.calm = true := by rfl) (hg : Gl X "len" := by rfl) (hg2 : Gl X "set" := by rfl) (na : starEach [e] X.env = (false, eval e X.env) :: starEach [] X.env := by rfl) : PE X (.Call (.Name "len" p) [.Call (.Name "set" p2) [e] [] q] [] pos) (tE X.K fv mv (evN gLenSet fs)) :=
  PE.of (pe_lenS hc hg hm hg2 hm2 ha na) fun σ H Q h => impN ok_lenSet h
end
end Sq
end

section
namespace Sq
open PySem PySem.Spec L2
/-! ### dicts of one's own, by numbers -/
def eDNew : Ex := fun s => .ok ((.dict [], 10), s)
def isKI (n : Int) (q : PyData × PyData) : Bool := match q.1 with
  | .int j => decide (j = n)
  | _ => false
def gDIn (x y : DV) : Res DV := match x.1, y.1 with
  | .int n, .dict kvs => .ok (.bool (kvs.any (isKI n)), 0)
  | _, _ => .bad
def gDNotIn (x y : DV) : Res DV := match x.1, y.1 with
  | .int n, .dict kvs => .ok (.bool (!kvs.any (isKI n)), 0)
  | _, _ => .bad
def putI (kvs : List (PyData × PyData)) (n : Int) (d : PyData) : List (PyData × PyData) := if kvs.any (isKI n) = true then kvs.map (fun q => if isKI n q then (q.1, d) else q) else kvs ++ [(.int n, d)]
/-- d[n] = True or False -/
def sDSet (i : Nat) (a ix : Ex) : Sx := fun s => do
  let (x, s) ← a s
  let _ ← slot s i
  let (y, s) ← ix s
  let z ← slot s i
  match x.1, y.1, z with
  | .bool b, .int n, (.dict kvs, k + 1) => if kvs.length < 1000000 then .ok (.next, s.set i (some (.dict (putI kvs n (.bool b)), k + 1))) else .bad
  | _, _, _ => .bad
theorem isKI_key {n : Int} {e : Key × V} {q : PyData × PyData} (h : kyD e.1 = q.1) : isKI n q = decide (e.1 = .inl n) := by
  unfold isKI
  rw [← h]
  cases hk : e.1 with
  | inl j =>
    show decide (j = n) = decide ((Sum.inl j : Key) = .inl n)
    by_cases h : j = n
    · subst h; simp
    · have : ¬ (Sum.inl j : Key) = .inl n := fun z => h (by injection z)
      simp [h, this]
  | inr x =>
    show false = decide ((Sum.inr x : Key) = .inl n)
    simp
theorem kvD_any {n : Int} : ∀ {es : List (Key × V)} {kvs : List (PyData × PyData)}, kvD es kvs → (es.any fun e => decide (e.1 = .inl n)) = kvs.any (isKI n)
  | _, _, .nil => rfl
  | _, _, .cons r rs => by
    rw [List.any_cons, List.any_cons, isKI_key r.1, kvD_any rs]
theorem kvD_len : ∀ {es : List (Key × V)} {kvs : List (PyData × PyData)}, kvD es kvs → es.length = kvs.length
  | _, _, .nil => rfl
  | _, _, .cons _ rs => by rw [List.length_cons, List.length_cons, kvD_len rs]
theorem kvD_map {n : Int} {w : V} {d : PyData} (hw : flV w = some d) : ∀ {es : List (Key × V)} {kvs : List (PyData × PyData)}, kvD es kvs → kvD (es.map fun e => if e.1 = .inl n then (e.1, w) else e) (kvs.map fun q => if isKI n q then (q.1, d) else q)
  | _, _, .nil => .nil
  | _, _, @Paired.cons _ _ _ e q _ _ r rs => by
    refine .cons ?_ (kvD_map hw rs)
    simp only
    rw [isKI_key (e := e) r.1]
    by_cases h : e.1 = .inl n
    · rw [if_pos h, if_pos (decide_eq_true h)]
      exact ⟨r.1, hw⟩
    · rw [if_neg h, if_neg (by simpa using h)]
      exact r
theorem kvD_snoc {n : Int} {w : V} {d : PyData} (hw : flV w = some d) : ∀ {es : List (Key × V)} {kvs : List (PyData × PyData)}, kvD es kvs → kvD (es ++ [(.inl n, w)]) (kvs ++ [(.int n, d)])
  | _, _, .nil => .cons ⟨rfl, hw⟩ .nil
  | _, _, .cons r rs => .cons r (kvD_snoc hw rs)
theorem kvD_put {n : Int} {w : V} {d : PyData} (hw : flV w = some d) {es : List (Key × V)} {kvs : List (PyData × PyData)} (h : kvD es kvs) : kvD (putK es (.inl n) w) (putI kvs n d) := by
  unfold putK putI
  rw [kvD_any h]
  split
  · exact kvD_map hw h
  · exact kvD_snoc hw h
section
variable {X : Cx} {pos : Pos}
theorem re_dnew : PE X (.Dict [] [] pos) (tE X.K [] [] eDNew) := by
  refine PE.of pe_dnewK fun σ H Q h => ?_
  obtain ⟨Z, s, Fs, x, s', gd, e, q⟩ := h
  cases e
  intro p hp
  have p0 := (Post.start gd).newO (o := .dK []) stb_none hp
  refine q _ _ Z Fs [p] ⟨p0.tr, p0.good, ⟨?_, by simp, fun a ha i z => ?_, fun a ha z => ?_⟩, fun a ha => .inl ?_⟩
  · show Own X.K _ _ 10 _ (.dict []) [p]
    unfold Own
    exact ⟨p, [], rfl, upd_same, .nil, rfl⟩
  · rw [List.mem_singleton.mp ha] at z
    obtain ⟨o, e, _⟩ := gd.isl i p z
    rw [hp] at e
    cases e
  · rw [List.mem_singleton.mp ha] at z
    obtain ⟨o, e⟩ := gd.zt p z
    rw [hp] at e
    cases e
  · rw [List.mem_singleton.mp ha]
    exact hp
def rDIn : R2 := fun x y H Q => ∃ a o, y = .ref a ∧ DGet H a x o ∧ Q (.bl o.isSome) H
def rDNotIn : R2 := fun x y H Q => ∃ a o, y = .ref a ∧ DGet H a x o ∧ Q (.bl (!o.isSome)) H
theorem op_dIn (hu : X.A.units + 1 < cLine) : OpR X (compareOp .In) rDIn := by
  intro pins s σ H x y v u Q I rx ry h
  obtain ⟨a, o, rfl, g, q⟩ := h
  cases ry
  exact d_in hu I g rx fun s' I' => ⟨.bl _, H, I', rfl, q⟩
theorem op_dNotIn (hu : X.A.units + 1 < cLine) : OpR X (compareOp .NotIn) rDNotIn := by
  intro pins s σ H x y v u Q I rx ry h
  obtain ⟨a, o, rfl, g, q⟩ := h
  cases ry
  exact d_notIn hu I g rx fun s' I' => ⟨.bl _, H, I', rfl, q⟩
end
section
variable {K : PySem.W.Frag}
theorem ok_dIn : OpOk K rDIn gDIn := by
  intro fv mv H Z Fs σ s' H1 Z1 Fs1 F v w x y z Q e p q
  obtain ⟨F1, F2, h1, h2, eF⟩ := two_own p.held.pr
  obtain ⟨xd, xk⟩ := x
  obtain ⟨yd, yk⟩ := y
  unfold gDIn at e
  simp only at e
  split at e
  · next n kvs =>
    cases e
    obtain ⟨a, es, rfl, r, hk, _⟩ := Own.dicR h2
    have ev := own_int h1
    subst ev
    refine ⟨a, _, rfl, DGet.k (k := .inl n) r, ?_⟩
    rw [← valV_any, kvD_any hk]
    exact q _ _ _ _ (p.sc bl_own)
  · cases e
theorem ok_dNotIn : OpOk K rDNotIn gDNotIn := by
  intro fv mv H Z Fs σ s' H1 Z1 Fs1 F v w x y z Q e p q
  obtain ⟨F1, F2, h1, h2, eF⟩ := two_own p.held.pr
  obtain ⟨xd, xk⟩ := x
  obtain ⟨yd, yk⟩ := y
  unfold gDNotIn at e
  simp only at e
  split at e
  · next n kvs =>
    cases e
    obtain ⟨a, es, rfl, r, hk, _⟩ := Own.dicR h2
    have ev := own_int h1
    subst ev
    refine ⟨a, _, rfl, DGet.k (k := .inl n) r, ?_⟩
    rw [← valV_any, kvD_any hk]
    exact q _ _ _ _ (p.sc bl_own)
  · cases e
end
theorem hu1 {X : Cx} {k : Nat} (hr : Room k X.A) : X.A.units + 1 < cLine := Nat.lt_of_le_of_lt (by omega) (hu65 hr)
section
variable {X : Cx} {a b : Expr} {pos : Pos} {fva fvb mva mvb : List Nat} {fa fb : Ex} {k : Nat}
theorem xdin (hr : Room k X.A) (ha : PE X a (tE X.K fva mva fa)) (hb : PE X b (tE X.K fvb mvb fb)) (d : djn fva mvb = true := by rfl) (hm : behindInMarks .In b = false := by rfl) : PE X (.Compare a [.In] [b] pos) (tE X.K (fva ++ fvb) (mva ++ mvb) (ev2 gDIn fa fb)) := re_cmp (op_dIn (hu1 hr)) ok_dIn ha hb d hm
theorem xdnotin (hr : Room k X.A) (ha : PE X a (tE X.K fva mva fa)) (hb : PE X b (tE X.K fvb mvb fb)) (d : djn fva mvb = true := by rfl) (hm : behindInMarks .NotIn b = false := by rfl) : PE X (.Compare a [.NotIn] [b] pos) (tE X.K (fva ++ fvb) (mva ++ mvb) (ev2 gDNotIn fa fb)) := re_cmp (op_dNotIn (hu1 hr)) ok_dNotIn ha hb d hm
theorem zdin (hr : Room k X.A) (ha : PE X a (tE X.K fva mva fa)) (hb : PE X b (tE X.K fvb mvb fb)) (d : djn fva mvb = true := by rfl) (hm : behindInMarks .In b = false := by rfl) : PT X (.Compare a [.In] [b] pos) (tT X.K (mva ++ mvb) (tst (ev2 gDIn fa fb))) := rt_cmp (op_dIn (hu1 hr)) ok_dIn ha hb d hm
theorem zdnotin (hr : Room k X.A) (ha : PE X a (tE X.K fva mva fa)) (hb : PE X b (tE X.K fvb mvb fb)) (d : djn fva mvb = true := by rfl) (hm : behindInMarks .NotIn b = false := by rfl) : PT X (.Compare a [.NotIn] [b] pos) (tT X.K (mva ++ mvb) (tst (ev2 gDNotIn fa fb))) := rt_cmp (op_dNotIn (hu1 hr)) ok_dNotIn ha hb d hm
end
/-- the dict of a slot, changed -/
theorem dict_put {K : PySem.W.Frag} {Z : Zs} {H : Hp} {σ : L2.St} {s : SD} {Fs : Fp} {i k : Nat} {kvs kvs' : List (PyData × PyData)} {p : Addr} {es es' : List (Key × V)} (gd : Good K Z H σ s Fs) (hs : s[i]? = some (some (.dict kvs, k + 1))) (hσ : σ[i]? = some (some (.ref p))) (hp : H p = some (.dK es)) (hF : Fs i = [p]) (hk : kvD es' kvs') : PostS K [] [i] σ H Z Fs σ (s.set i (some (.dict kvs', k + 1))) (upd H p (.dK es')) Z Fs := by
  have pi : p ∈ Fs i := by rw [hF]; exact List.mem_singleton.mpr rfl
  refine ⟨⟨fun a o e n => ?_, fun a e => ?_, fun _ z => z, fun _ z => .inl z, fun _ _ => rfl, fun j hj a ha => .inr ⟨j, hj, ha⟩⟩, ⟨by rw [List.length_set]; exact gd.len, fun j d m e => ?_, gd.nd, gd.dj, gd.nz, fun j a ha => ?_, fun a z => ?_⟩, fun _ _ => rfl, rfl⟩
  · have hn := n i (List.mem_singleton.mpr rfl)
    rw [upd_ne (fun z => hn (by rw [z]; exact pi))]
    exact e
  · by_cases q : a = p
    · subst q; rw [upd_same] at e; cases e
    · rwa [upd_ne q] at e
  · by_cases q : j = i
    · subst q
      have lt := (List.getElem?_eq_some_iff.mp hs).1
      rw [List.getElem?_set_self lt] at e
      cases e
      refine ⟨.ref p, hσ, ?_⟩
      rw [hF]
      unfold Own
      exact ⟨p, es', rfl, upd_same, hk, rfl⟩
    · rw [List.getElem?_set_ne (Ne.symm q)] at e
      obtain ⟨w, ew, o⟩ := gd.own j d m e
      refine ⟨w, ew, Own.keep _ o fun a ob ea z => ?_⟩
      rw [upd_ne fun z' => ?_]
      · exact ea
      · subst z'
        rcases z with (z | z) | z
        · exact gd.dj i j (Ne.symm q) a pi z
        · exact gd.nz i a pi z
        · rw [hp] at ea
          cases ea
          exact z trivial
  · by_cases q : a = p
    · subst q
      exact ⟨_, upd_same, trivial⟩
    · obtain ⟨o, e, c⟩ := gd.isl j a ha
      exact ⟨o, by rw [upd_ne q]; exact e, c⟩
  · obtain ⟨o, e⟩ := gd.zt a z
    by_cases q : a = p
    · subst q
      exact ⟨_, upd_same⟩
    · exact ⟨o, by rw [upd_ne q]; exact e⟩
section
variable {X : Cx} {val ix : Expr} {pos pos' pos2 : Pos} {fv mv fvx mvx : List Nat} {f fx : Ex} {k : Nat}
theorem rs_dset {i : Nat} {x : Str} (hr : Room k X.A) (hv : PE X val (tE X.K fv mv f)) (hi : PE X ix (tE X.K fvx mvx fx)) (hN : X.N[i]? = some x := by rfl) (hvis : Vis X.env.scope x := by first | exact Or.inl rfl | exact Or.inr (Or.inl rfl) | exact Or.inr (Or.inr rfl)) (hd : (x == ("__debug__" : Str)) = false := by decide) (hcd : (x == ("__classdict__" : Str)) = false := by decide)
    (d2 : djn [i] mvx = true := by rfl) (hs : swapsWith val (some (.Subscript (.Name x pos2) ix pos')) pos.line X.env = pure false := by rfl) :
    PS X (.Assign [.Subscript (.Name x pos2) ix pos'] val pos) (tS X.K [] ((mv ++ mvx) ++ [i]) (sDSet i f fx)) := by
  refine PS.of (ps_dput (hu1 hr) (pe_var hN hvis hd hcd) hi hv hs) fun D σ H h => ?_
  obtain ⟨Z, s, Fs, fl, s', gd, e, q⟩ := h
  unfold sDSet at e
  obtain ⟨⟨xv, s1⟩, ea, e⟩ := Res.bind_eq_ok.mp e
  obtain ⟨y0, ey0, e⟩ := Res.bind_eq_ok.mp e
  obtain ⟨⟨yv, s2⟩, eb, e⟩ := Res.bind_eq_ok.mp e
  obtain ⟨z, ez, e⟩ := Res.bind_eq_ok.mp e
  split at e
  · next b n kvs kk exv eyv =>
    split at e
    · next hl =>
      cases e
      refine ⟨Z, s, Fs, xv, s1, gd, ea, fun v H1 Z1 Fs1 F1 p1 => ?_⟩
      obtain ⟨_, v0, ev0, _⟩ := p1.good.slotAt ey0
      refine ⟨v0, ev0, Z1, s1, Fs1, yv, s2, p1.good, eb, fun w H2 Z2 Fs2 F2 p2 => ?_⟩
      obtain ⟨es2, v1, ev1, ow⟩ := p2.good.slotAt ez
      rw [ev0] at ev1
      cases ev1
      have ow : Own X.K Z2 H2 (kk + 1) v0 (.dict kvs) (Fs2 i) := ow
      obtain ⟨pa, es, rfl, r, hk, hz⟩ := ow.dicR
      have hF : Fs2 i = [pa] := by
        rcases hz with ⟨z0, _⟩ | ⟨_, z1⟩
        · cases z0
        · exact z1
      have o1 : Own X.K _ H1 xv.2 v xv.1 F1 := p1.held.pr
      rw [exv] at o1
      have e1 := own_bl o1
      subst e1
      have o2 : Own X.K _ H2 yv.2 w yv.1 F2 := p2.held.pr
      rw [eyv] at o2
      have e2 := own_int o2
      subst e2
      have hl2 : es.length < sizeLine := by rw [kvD_len hk, sizeLine_eq]; omega
      refine ⟨pa, _, rfl, DPut.k (k := .inl n) r hl2, ?_⟩
      have P0 : PostS X.K [] mv σ H Z Fs σ s1 H1 Z1 Fs1 := ⟨p1.tr, p1.good, fun _ _ => rfl, rfl⟩
      have P1 : PostS X.K [] mvx σ H1 Z1 Fs1 σ s2 H2 Z2 Fs2 := ⟨p2.tr, p2.good, fun _ _ => rfl, rfl⟩
      have P2 := dict_put p2.good es2 ev0 r hF (kvD_put (n := n) (w := .bl b) (d := .bool b) rfl hk)
      exact q σ _ Z2 Fs2 (((P0.trans P1).trans P2).weak (fun _ h => by simpa using h) fun l hl => by simpa using hl)
    · cases e
  · cases e
end
end Sq
end

section
namespace Sq
open PySem PySem.Spec L2
/-! ### dicts of the top, texts by texts -/
structure CDict (K : PySem.W.Frag) (w : World) (a : Addr) (tab : List (Str × Str)) : Prop where
  kd : ∃ es n, KDict K w a es n
  vals : ∀ z v, tab.lookup z = some v → ∃ t, PySem.W.nsIn K a z = some (some (.str v t))
def kdB (K : PySem.W.Frag) (a : Addr) (tab : List (Str × Str)) : Bool := tab.all fun p => match PySem.W.nsIn K a p.1 with
  | some (some (.str y _)) => decide (y = p.2)
  | _ => false
theorem lkS_mem {z v : Str} : ∀ {tab : List (Str × Str)}, tab.lookup z = some v → ∃ y, (y == z) = true ∧ (y, v) ∈ tab ∨ (z == y) = true ∧ (y, v) ∈ tab
  | [], h => by cases h
  | (y, u) :: r, h => by
    rw [List.lookup_cons] at h
    cases q : z == y with
    | true => rw [q] at h; cases h; exact ⟨y, .inr ⟨q, List.mem_cons_self ..⟩⟩
    | false =>
      rw [q] at h
      obtain ⟨y', z'⟩ := lkS_mem h
      exact ⟨y', z'.imp (fun z => ⟨z.1, List.mem_cons_of_mem _ z.2⟩) fun z => ⟨z.1, List.mem_cons_of_mem _ z.2⟩⟩
theorem kdB_ok {K : PySem.W.Frag} {a : Addr} {tab : List (Str × Str)} (h : kdB K a tab = true) : ∀ z v, tab.lookup z = some v → ∃ t, PySem.W.nsIn K a z = some (some (.str v t)) := fun z v hz => by
  obtain ⟨y, hy⟩ := lkS_mem hz
  have e : y = z ∧ (y, v) ∈ tab := by
    rcases hy with ⟨q, m⟩ | ⟨q, m⟩
    · exact ⟨beq_iff_eq.mp q, m⟩
    · exact ⟨(beq_iff_eq.mp q).symm, m⟩
  obtain ⟨rfl, m⟩ := e
  have := List.all_eq_true.mp h _ m
  simp only at this
  split at this
  · next y' t e => exact ⟨t, by rw [e, of_decide_eq_true this]⟩
  · cases this
def gKGet (tab : List (Str × Str)) (x : DV) : Res DV := match x.1 with
  | .str z => (match tab.lookup z with
    | some v => .ok (.str v, 0)
    | none => .bad)
  | _ => .bad
def gKNotIn (tab : List (Str × Str)) (x : DV) : Res DV := match x.1 with
  | .str z => (match tab.lookup z with
    | some _ => .ok (.bool false, 0)
    | none => .bad)
  | _ => .bad
section
variable {X : Cx} {i : Expr} {p pos : Pos} {fv mv : List Nat} {f : Ex} {a : Addr} {tab : List (Str × Str)} {c : Str}
def tKGet (K : PySem.W.Frag) (a : Addr) (ty : TE) : TE := fun σ H Q => ty σ H fun y H1 => ∃ (z : Str) (u0 : Value) (v0 : V), y = .str z ∧ PySem.W.nsIn K a z = some (some u0) ∧ RelV v0 u0 ∧ Q v0 H1
theorem pe_kget {ty : TE} (D : ∃ es n, KDict X.K X.w a es n) (hg : Gl X c) (hm : X.mg c = some (.ref a)) (hi : PE X i ty) (hs : NoSl i) (hd : (c == ("__debug__" : Str)) = false) : PE X (.Subscript (.Name c p) i pos) (tKGet X.K a ty) := by
  obtain ⟨es, n, D⟩ := D
  refine ⟨fun pins s σ H Q I h => ?_⟩
  refine subD_of PySem.F.slot_dict_getitem.lookup hs (thn ((pe_glob (v := .ref a) hg hm rfl hd).run pins s σ H (fun x H1 => x = .ref a ∧ tKGet X.K a ty σ H1 Q) I ⟨rfl, h⟩) fun u s1 ⟨x, H1, I1, rx, ex, q1⟩ => thn (hi.run pins s1 σ H1 _ I1 q1) fun iv s2 ⟨y, H2, I2, ry, z, u0, v0, ey, en, r0, q2⟩ => ?_)
  subst ex
  obtain rfl : u = Value.ref a := rx
  exact ⟨kd_type D I2, op_item_kd D pins s2 σ H2 (.ref a) y (.ref a) iv Q I2 rfl ry ⟨z, u0, v0, rfl, ey, en, r0, q2⟩⟩
theorem re_kget (C : CDict X.K X.w a tab) (hg : Gl X c) (hm : X.mg c = some (.ref a)) (hi : PE X i (tE X.K fv mv f)) (hs : NoSl i) (hd : (c == ("__debug__" : Str)) = false := by decide) : PE X (.Subscript (.Name c p) i pos) (tE X.K fv mv (ev1 (gKGet tab) f)) := by
  refine PE.of (pe_kget C.kd hg hm hi hs hd) fun σ H Q h => ?_
  obtain ⟨Z, s, Fs, z, s', gd, e, q⟩ := h
  unfold ev1 at e
  obtain ⟨⟨x, s1⟩, ea, e⟩ := Res.bind_eq_ok.mp e
  obtain ⟨z', eg, e⟩ := Res.bind_eq_ok.mp e
  cases e
  refine ⟨Z, s, Fs, x, _, gd, ea, fun v H1 Z1 Fs1 F p1 => ?_⟩
  unfold gKGet at eg
  split at eg
  · next zz ex =>
    split at eg
    · next vv el =>
      cases eg
      have o1 : Own X.K _ H1 x.2 v x.1 F := p1.held.pr
      rw [ex] at o1
      obtain ⟨t, et⟩ := C.vals zz vv el
      exact ⟨zz, _, .str vv, own_str o1, et, ⟨t, rfl⟩, q _ _ _ _ _ (p1.sc str_own)⟩
    · cases eg
  · cases eg
def rKNot (K : PySem.W.Frag) (a : Addr) : R2 := fun x y H Q => ∃ (z : Str) (r : Option Value), x = .str z ∧ y = .ref a ∧ PySem.W.nsIn K a z = some r ∧ Q (.bl (!r.isSome)) H
theorem knot_imp (C : CDict X.K X.w a tab) {σ : L2.St} {H : Hp} {Q : VK} (h : tE X.K fv mv (ev1 (gKNotIn tab) f) σ H Q) : tOp (rKNot X.K a) (tE X.K fv mv f) (tC (.ref a)) σ H Q := by
  obtain ⟨Z, s, Fs, z, s', gd, e, q⟩ := h
  unfold ev1 at e
  obtain ⟨⟨x, s1⟩, ea, e⟩ := Res.bind_eq_ok.mp e
  obtain ⟨z', eg, e⟩ := Res.bind_eq_ok.mp e
  cases e
  refine ⟨Z, s, Fs, x, _, gd, ea, fun v H1 Z1 Fs1 F p1 => ?_⟩
  unfold gKNotIn at eg
  split at eg
  · next zz ex =>
    split at eg
    · next vv el =>
      cases eg
      have o1 : Own X.K _ H1 x.2 v x.1 F := p1.held.pr
      rw [ex] at o1
      obtain ⟨t, et⟩ := C.vals zz vv el
      exact ⟨zz, _, own_str o1, rfl, et, q _ _ _ _ _ (p1.sc bl_own)⟩
    · cases eg
  · cases eg
theorem xknot (C : CDict X.K X.w a tab) (hg : Gl X c) (hm : X.mg c = some (.ref a)) (hi : PE X i (tE X.K fv mv f)) (hd : (c == ("__debug__" : Str)) = false := by decide) (hb : behindInMarks .NotIn (.Name c p) = false := by rfl) : PE X (.Compare i [.NotIn] [.Name c p] pos) (tE X.K fv mv (ev1 (gKNotIn tab) f)) := by
  obtain ⟨es, n, D⟩ := C.kd
  exact PE.of (pe_cmpR (r := rKNot X.K a) (op_notIn_kd D) hi (pe_glob (v := .ref a) hg hm rfl hd) hb) fun σ H Q h => knot_imp C h
theorem zknot (C : CDict X.K X.w a tab) (hg : Gl X c) (hm : X.mg c = some (.ref a)) (hi : PE X i (tE X.K fv mv f)) (hd : (c == ("__debug__" : Str)) = false := by decide) (hb : behindInMarks .NotIn (.Name c p) = false := by rfl) : PT X (.Compare i [.NotIn] [.Name c p] pos) (tT X.K mv (tst (ev1 (gKNotIn tab) f))) := by
  obtain ⟨es, n, D⟩ := C.kd
  exact PT.of (pt_cmpR (r := rKNot X.K a) (op_notIn_kd D) hi (pe_glob (v := .ref a) hg hm rfl hd) hb) fun σ H Q h => knot_imp C (tst_imp h)
end
/-! ### the head, with tables -/
abbrev AlC : Type := AlB × List (Option (List (Option (Str × Int))))
def obsC (B : PySem.W.Frag → Bool) (fa : List He.Fa) (fn : List He.DefD) (ts : List He.Tab) (K : PySem.W.Frag) : AlC := (obsB B fa fn K, ts.map fun t => He.dicW K (t.1 K))
def valC (fn : List He.DefD) (ts : List He.Tab) (w : World) : AlC := ((true, He.valD fn), ts.map fun t => some (He.keysIn w.params t.2))
def SaysC (B : PySem.W.Frag → Bool) (fa : List He.Fa) (fn : List He.DefD) (ts : List He.Tab) (w : World) (K : PySem.W.Frag) : Prop := obsC B fa fn ts K = valC fn ts w
def obsCG (B : PySem.W.Frag → Bool) (n : Nat) (fa : List He.Fa) (fn : List He.DefD) (ts : List He.Tab) (g : Addr → Option Obj) : AlC := obsC B fa fn ts (He.frG g (He.asD g n))
def hookC (B : PySem.W.Frag → Bool) (n : Nat) (fa : List He.Fa) (fn : List He.DefD) (ts : List He.Tab) : PySem.W.Hook where
  α := AlC
  obs := fun s => obsCG B n fa fn ts s.heap.get?
  val := fun w => valC fn ts w
  says := fun w h => ∃ K : PySem.W.Frag, K.In h ∧ SaysC B fa fn ts w K
  of := fun _ _ e => ⟨_, He.frG_in, e⟩
  keeps := fun _ _ _ ⟨K, hK, c⟩ k => ⟨K, PySem.W.Frag.In.keeps hK k, c⟩
section
variable {B : PySem.W.Frag → Bool} {n : Nat} {fa : List He.Fa} {fn : List He.DefD} {ts : List He.Tab} {w : World} {K : PySem.W.Frag}
theorem obsCG_eq {g : Addr → Option Obj} {s : Shared} (h : ∀ a, g a = s.heap.get? a) : obsCG B n fa fn ts g = (hookC B n fa fn ts).obs s := by
  have e : g = s.heap.get? := funext h
  rw [e] <;> rfl
theorem SaysC.d (h : SaysC B fa fn ts w K) : He.SaysD fa fn K := congrArg (fun z : AlC => z.1.2) h
theorem SaysC.b (h : SaysC B fa fn ts w K) : B K = true := congrArg (fun z : AlC => z.1.1) h
theorem SaysC.tab (c : SaysC B fa fn ts w K) (i : Nat) {t : He.Tab} (h : ts[i]? = some t := by rfl) : ∃ es n, KDict K w (t.1 K) es n := by
  have e : ts.map (fun t => He.dicW K (t.1 K)) = ts.map fun t => some (He.keysIn w.params t.2) := congrArg (fun z : AlC => z.2) c
  have e2 : (ts.map fun t => He.dicW K (t.1 K))[i]? = (ts.map fun t => some (He.keysIn w.params t.2))[i]? := by rw [e]
  rw [List.getElem?_map, List.getElem?_map, h] at e2
  exact He.dicW_ok (Option.some.inj e2)
end
end Sq
end

section
namespace Sq
open PySem PySem.Spec L2
/-! ### dicts of the top, tuples of numbers by numbers -/
def isTy (s : String) : Value → Bool
  | .type t => t == s
  | _ => false
theorem isTy_ok {s : String} {v : Value} (h : isTy s v = true) : v = .type s := by
  unfold isTy at h
  split at h
  · rw [beq_iff_eq.mp h]
  · cases h
def intsB : List Value → List Int → Bool
  | [], [] => true
  | .int i _ :: vs, j :: js => decide (i = j) && intsB vs js
  | _, _ => false
theorem intsB_ok : ∀ {us : List Value} {js : List Int}, intsB us js = true → Vals (js.map V.int) us
  | [], [], _ => .nil
  | [], _ :: _, h => by cases h
  | u :: us, js, h => by
    unfold intsB at h
    split at h
    · next e => cases e
    · next i t vs j js' e =>
      cases e
      obtain ⟨h1, h2⟩ := (Bool.and_eq_true ..).mp h
      exact .cons ⟨t, by rw [of_decide_eq_true h1]⟩ (intsB_ok h2)
    · cases h
def tupB (K : PySem.W.Frag) (js : List Int) : Value → Bool
  | .ref p => (match K.lookup p with
    | some o => isTy "tuple" o.cls && (match o.data with
      | .seq its _ => decide (its.size ≤ sizeLine) && intsB its.toList js
      | _ => false)
    | none => false)
  | _ => false
theorem tupB_ok {K : PySem.W.Frag} {js : List Int} {u : Value} (h : tupB K js u = true) : ∃ p, u = .ref p ∧ ∀ H, SqT K H p (js.map V.int) := by
  unfold tupB at h
  split at h
  · next p =>
    split at h
    · next o e =>
      obtain ⟨h1, h2⟩ := (Bool.and_eq_true ..).mp h
      split at h2
      · next its n ed =>
        obtain ⟨h3, h4⟩ := (Bool.and_eq_true ..).mp h2
        exact ⟨p, rfl, fun H => .inr ⟨o, its, n, e, isTy_ok h1, ed, of_decide_eq_true h3, intsB_ok h4⟩⟩
      · cases h2
    · cases h
  · cases h
def keyB (tab : List (Int × List Int)) (e : DictEntry) : Bool := match e.key with
  | .int i _ => decide (e.hash = hashInt i) && (tab.lookup i).isSome
  | _ => false
def valB (K : PySem.W.Frag) (l : List DictEntry) (p : Int × List Int) : Bool := match l.find? (fun e => Value.isInt p.1 e.key) with
  | some e => tupB K p.2 e.val
  | none => false
def idB (K : PySem.W.Frag) (a : Addr) (tab : List (Int × List Int)) : Bool := match K.lookup a with
  | some o => isTy "dict" o.cls && o.dict.isNone && decide (o.slots.size = 0) && !(a == sysModules) && (match o.data with
    | .dict es _ => es.toList.all (keyB tab) && tab.all (valB K es.toList)
    | _ => false)
  | none => false
structure IDict (K : PySem.W.Frag) (a : Addr) (tab : List (Int × List Int)) : Prop where
  low : (a == sysModules) = false
  mp : ∃ f : Int → Option Value, (∀ (prog : Program) (w : World) (h : Heap), K.In h → h.MapOf (intKind prog w) a f) ∧ (∀ i, (f i).isSome = (tab.lookup i).isSome) ∧ ∀ i js, tab.lookup i = some js → ∃ p, f i = some (.ref p) ∧ ∀ H, SqT K H p (js.map V.int)
theorem lkI_mem {i : Int} {v : List Int} : ∀ {tab : List (Int × List Int)}, tab.lookup i = some v → (i, v) ∈ tab
  | [], h => by cases h
  | (y, u) :: r, h => by
    rw [List.lookup_cons] at h
    cases q : i == y with
    | true => rw [q] at h; cases h; rw [beq_iff_eq.mp q]; exact List.mem_cons_self ..
    | false => rw [q] at h; exact List.mem_cons_of_mem _ (lkI_mem h)
theorem idB_ok {K : PySem.W.Frag} {a : Addr} {tab : List (Int × List Int)} (h : idB K a tab = true) : IDict K a tab := by
  unfold idB at h
  split at h
  · next o eo =>
    obtain ⟨h, h5⟩ := (Bool.and_eq_true ..).mp h
    obtain ⟨h, h4⟩ := (Bool.and_eq_true ..).mp h
    obtain ⟨h, h3⟩ := (Bool.and_eq_true ..).mp h
    obtain ⟨h1, h2⟩ := (Bool.and_eq_true ..).mp h
    split at h5
    · next es n ed =>
      obtain ⟨h6, h7⟩ := (Bool.and_eq_true ..).mp h5
      have hk := List.all_eq_true.mp h6
      have hv := List.all_eq_true.mp h7
      have key : ∀ e ∈ es.toList, ∃ i t, e.key = .int i t ∧ e.hash = hashInt i ∧ (tab.lookup i).isSome = true := fun e he => by
        have := hk e he
        unfold keyB at this
        split at this
        · next i t ek =>
          obtain ⟨q1, q2⟩ := (Bool.and_eq_true ..).mp this
          exact ⟨i, t, ek, of_decide_eq_true q1, q2⟩
        · cases this
      have fb : ∀ i, findBy Value.isInt es i = (es.toList.find? fun e => Value.isInt i e.key).map (·.val) := fun i => by
        unfold findBy
        obtain ⟨l⟩ := es
        rw [List.find?_toArray]
      have val : ∀ i js, tab.lookup i = some js → ∃ p, findBy Value.isInt es i = some (.ref p) ∧ ∀ H, SqT K H p (js.map V.int) := fun i js hl => by
        have := hv _ (lkI_mem hl)
        unfold valB at this
        split at this
        · next e ee =>
          obtain ⟨p, ep, hp⟩ := tupB_ok this
          exact ⟨p, by rw [fb, ee, ← ep]; rfl, hp⟩
        · cases this
      refine ⟨by simpa using h4, findBy Value.isInt es, fun prog w hh X => ⟨o, es, n, X _ _ eo, ⟨isTy_ok h1, Option.isNone_iff_eq_none.mp h2, Array.eq_empty_of_size_eq_zero (of_decide_eq_true h3)⟩, ed, fun e he => ?_, fun _ => rfl⟩, fun i => ?_, val⟩
      · obtain ⟨i, t, e1, e2, _⟩ := key e (Array.mem_toList_iff.mpr he)
        exact ⟨i, by rw [e1]; exact intKind_is prog w i t, e2⟩
      · cases hl : tab.lookup i with
        | some js =>
          obtain ⟨p, e, _⟩ := val i js hl
          rw [e]
          rfl
        | none =>
          rw [fb]
          cases hf : es.toList.find? (fun e => Value.isInt i e.key) with
          | none => rfl
          | some e =>
            obtain ⟨j, t, e1, _, e3⟩ := key e (List.mem_of_find?_eq_some hf)
            have q := List.find?_some hf
            rw [e1] at q
            have : j = i := by simpa [Value.isInt] using q
            rw [this, hl] at e3
            cases e3
    · cases h5
  · cases h
section
variable {X : Cx} {i : Expr} {p pos : Pos} {fv mv : List Nat} {f : Ex} {a : Addr} {tab : List (Int × List Int)} {c : Str}
def rIIn (a : Addr) (tab : List (Int × List Int)) : R2 := fun x y H Q => ∃ n : Int, x = .int n ∧ y = .ref a ∧ Q (.bl (tab.lookup n).isSome) H
def rINot (a : Addr) (tab : List (Int × List Int)) : R2 := fun x y H Q => ∃ n : Int, x = .int n ∧ y = .ref a ∧ Q (.bl (!(tab.lookup n).isSome)) H
theorem op_in_id (D : IDict X.K a tab) : OpR X (compareOp .In) (rIIn a tab) := by
  intro pins s σ H x y v u Q I rx ry h
  obtain ⟨n, rfl, rfl, q⟩ := h
  obtain ⟨t, rfl⟩ := rx
  cases ry
  obtain ⟨f, mp, hs, _⟩ := D.mp
  refine wpAny_in_of (PySem.intKind_is X.prog X.w n t) D.low (mp X.prog X.w _ I.kIn) ?_
  rw [hs n]
  exact ⟨.bl _, H, I.tok _, rfl, q⟩
theorem op_notIn_id (D : IDict X.K a tab) : OpR X (compareOp .NotIn) (rINot a tab) := by
  intro pins s σ H x y v u Q I rx ry h
  obtain ⟨n, rfl, rfl, q⟩ := h
  obtain ⟨t, rfl⟩ := rx
  cases ry
  obtain ⟨f, mp, hs, _⟩ := D.mp
  refine wpAny_notIn_of (PySem.intKind_is X.prog X.w n t) D.low (mp X.prog X.w _ I.kIn) ?_
  rw [hs n]
  exact ⟨.bl _, H, I.tok _, rfl, q⟩
theorem op_item_id (D : IDict X.K a tab) : OpR X getItem (fun x y H Q => ∃ (n : Int) (js : List Int), x = .ref a ∧ y = .int n ∧ tab.lookup n = some js ∧ ∀ p, SqT X.K H p (js.map V.int) → Q (.ref p) H) := by
  intro pins s σ H x y v u Q I rx ry h
  obtain ⟨n, js, rfl, rfl, e, q⟩ := h
  cases rx
  obtain ⟨t, rfl⟩ := ry
  obtain ⟨f, mp, _, hv⟩ := D.mp
  obtain ⟨p, ep, hp⟩ := hv n js e
  exact wpAny_getItem_of (PySem.intKind_is X.prog X.w n t) (mp X.prog X.w _ I.kIn) ep ⟨.ref p, H, I.tok _, rfl, q p (hp H)⟩
def gIGet (tab : List (Int × List Int)) (x : DV) : Res DV := match x.1 with
  | .int n => (match tab.lookup n with
    | some js => .ok (.tuple (js.map .int), 0)
    | none => .bad)
  | _ => .bad
def gIIn (tab : List (Int × List Int)) (x : DV) : Res DV := match x.1 with
  | .int n => .ok (.bool (tab.lookup n).isSome, 0)
  | _ => .bad
def gINotIn (tab : List (Int × List Int)) (x : DV) : Res DV := match x.1 with
  | .int n => .ok (.bool (!(tab.lookup n).isSome), 0)
  | _ => .bad
theorem ownAll_ints {K : PySem.W.Frag} {Z : Addr → Prop} {H : Hp} {k : Nat} : ∀ js : List Int, OwnAll K Z H k (js.map V.int) (js.map PyData.int) []
  | [] => by unfold OwnAll; exact ⟨rfl, rfl⟩
  | j :: js => by
    show OwnAll K Z H k (V.int j :: js.map V.int) (PyData.int j :: js.map PyData.int) []
    unfold OwnAll
    exact ⟨.int j, js.map V.int, [], [], rfl, by unfold Own; exact ⟨rfl, rfl⟩, ownAll_ints js, rfl⟩
theorem id_type {pins : List (Addr × Obj)} {σ : L2.St} {H : Hp} {s : Shared} (D : IDict X.K a tab) (I : Inv X pins σ H s) : s.TypeIs (.ref a) "dict" := by
  obtain ⟨f, mp, _⟩ := D.mp
  exact (mp X.prog X.w _ I.kIn).typeIs
def tIGet (K : PySem.W.Frag) (tab : List (Int × List Int)) (ty : TE) : TE := fun σ H Q => ty σ H fun y H1 => ∃ (n : Int) (js : List Int), y = .int n ∧ tab.lookup n = some js ∧ ∀ p, SqT K H1 p (js.map V.int) → Q (.ref p) H1
theorem pe_iget {ty : TE} (D : IDict X.K a tab) (hg : Gl X c) (hm : X.mg c = some (.ref a)) (hi : PE X i ty) (hs : NoSl i) (hd : (c == ("__debug__" : Str)) = false) : PE X (.Subscript (.Name c p) i pos) (tIGet X.K tab ty) := by
  refine ⟨fun pins s σ H Q I h => ?_⟩
  refine subD_of PySem.F.slot_dict_getitem.lookup hs (thn ((pe_glob (v := .ref a) hg hm rfl hd).run pins s σ H (fun x H1 => x = .ref a ∧ tIGet X.K tab ty σ H1 Q) I ⟨rfl, h⟩) fun u s1 ⟨x, H1, I1, rx, ex, q1⟩ => thn (hi.run pins s1 σ H1 _ I1 q1) fun iv s2 ⟨y, H2, I2, ry, n, js, ey, en, q2⟩ => ?_)
  subst ex
  obtain rfl : u = Value.ref a := rx
  exact ⟨id_type D I2, op_item_id D pins s2 σ H2 (.ref a) y (.ref a) iv Q I2 rfl ry ⟨n, js, rfl, ey, en, q2⟩⟩
theorem re_iget (D : IDict X.K a tab) (hg : Gl X c) (hm : X.mg c = some (.ref a)) (hi : PE X i (tE X.K fv mv f)) (hs : NoSl i) (hd : (c == ("__debug__" : Str)) = false := by decide) : PE X (.Subscript (.Name c p) i pos) (tE X.K fv mv (ev1 (gIGet tab) f)) := by
  refine PE.of (pe_iget D hg hm hi hs hd) fun σ H Q h => ?_
  obtain ⟨Z, s, Fs, z, s', gd, e, q⟩ := h
  unfold ev1 at e
  obtain ⟨⟨x, s1⟩, ea, e⟩ := Res.bind_eq_ok.mp e
  obtain ⟨z', eg, e⟩ := Res.bind_eq_ok.mp e
  cases e
  refine ⟨Z, s, Fs, x, _, gd, ea, fun v H1 Z1 Fs1 F p1 => ?_⟩
  unfold gIGet at eg
  split at eg
  · next n ex =>
    split at eg
    · next js el =>
      cases eg
      have o1 : Own X.K _ H1 x.2 v x.1 F := p1.held.pr
      rw [ex] at o1
      exact ⟨n, js, own_int o1, el, fun p hp => q _ _ _ _ _ (p1.sc (by unfold Own; exact ⟨p, _, rfl, hp, ownAll_ints js⟩))⟩
    · cases eg
  · cases eg
theorem inot_imp {σ : L2.St} {H : Hp} {Q : VK} (h : tE X.K fv mv (ev1 (gINotIn tab) f) σ H Q) : tOp (rINot a tab) (tE X.K fv mv f) (tC (.ref a)) σ H Q := by
  obtain ⟨Z, s, Fs, z, s', gd, e, q⟩ := h
  unfold ev1 at e
  obtain ⟨⟨x, s1⟩, ea, e⟩ := Res.bind_eq_ok.mp e
  obtain ⟨z', eg, e⟩ := Res.bind_eq_ok.mp e
  cases e
  refine ⟨Z, s, Fs, x, _, gd, ea, fun v H1 Z1 Fs1 F p1 => ?_⟩
  unfold gINotIn at eg
  split at eg
  · next n ex =>
    cases eg
    have o1 : Own X.K _ H1 x.2 v x.1 F := p1.held.pr
    rw [ex] at o1
    exact ⟨n, own_int o1, rfl, q _ _ _ _ _ (p1.sc bl_own)⟩
  · cases eg
theorem iin_imp {σ : L2.St} {H : Hp} {Q : VK} (h : tE X.K fv mv (ev1 (gIIn tab) f) σ H Q) : tOp (rIIn a tab) (tE X.K fv mv f) (tC (.ref a)) σ H Q := by
  obtain ⟨Z, s, Fs, z, s', gd, e, q⟩ := h
  unfold ev1 at e
  obtain ⟨⟨x, s1⟩, ea, e⟩ := Res.bind_eq_ok.mp e
  obtain ⟨z', eg, e⟩ := Res.bind_eq_ok.mp e
  cases e
  refine ⟨Z, s, Fs, x, _, gd, ea, fun v H1 Z1 Fs1 F p1 => ?_⟩
  unfold gIIn at eg
  split at eg
  · next n ex =>
    cases eg
    have o1 : Own X.K _ H1 x.2 v x.1 F := p1.held.pr
    rw [ex] at o1
    exact ⟨n, own_int o1, rfl, q _ _ _ _ _ (p1.sc bl_own)⟩
  · cases eg
theorem xinot (D : IDict X.K a tab) (hg : Gl X c) (hm : X.mg c = some (.ref a)) (hi : PE X i (tE X.K fv mv f)) (hd : (c == ("__debug__" : Str)) = false := by decide) (hb : behindInMarks .NotIn (.Name c p) = false := by rfl) : PE X (.Compare i [.NotIn] [.Name c p] pos) (tE X.K fv mv (ev1 (gINotIn tab) f)) :=
  PE.of (pe_cmpR (r := rINot a tab) (op_notIn_id D) hi (pe_glob (v := .ref a) hg hm rfl hd) hb) fun σ H Q h => inot_imp h
theorem zinot (D : IDict X.K a tab) (hg : Gl X c) (hm : X.mg c = some (.ref a)) (hi : PE X i (tE X.K fv mv f)) (hd : (c == ("__debug__" : Str)) = false := by decide) (hb : behindInMarks .NotIn (.Name c p) = false := by rfl) : PT X (.Compare i [.NotIn] [.Name c p] pos) (tT X.K mv (tst (ev1 (gINotIn tab) f))) :=
  PT.of (pt_cmpR (r := rINot a tab) (op_notIn_id D) hi (pe_glob (v := .ref a) hg hm rfl hd) hb) fun σ H Q h => inot_imp (tst_imp h)
theorem xiin (D : IDict X.K a tab) (hg : Gl X c) (hm : X.mg c = some (.ref a)) (hi : PE X i (tE X.K fv mv f)) (hd : (c == ("__debug__" : Str)) = false := by decide) (hb : behindInMarks .In (.Name c p) = false := by rfl) : PE X (.Compare i [.In] [.Name c p] pos) (tE X.K fv mv (ev1 (gIIn tab) f)) :=
  PE.of (pe_cmpR (r := rIIn a tab) (op_in_id D) hi (pe_glob (v := .ref a) hg hm rfl hd) hb) fun σ H Q h => iin_imp h
theorem ziin (D : IDict X.K a tab) (hg : Gl X c) (hm : X.mg c = some (.ref a)) (hi : PE X i (tE X.K fv mv f)) (hd : (c == ("__debug__" : Str)) = false := by decide) (hb : behindInMarks .In (.Name c p) = false := by rfl) : PT X (.Compare i [.In] [.Name c p] pos) (tT X.K mv (tst (ev1 (gIIn tab) f))) :=
  PT.of (pt_cmpR (r := rIIn a tab) (op_in_id D) hi (pe_glob (v := .ref a) hg hm rfl hd) hb) fun σ H Q h => iin_imp (tst_imp h)
end
end Sq
end

section
/-! the top run in the kernel where a text is hashed: the world's one row told -/
noncomputable section
namespace Sq
open PySem PySem.W
def wfix (b : Bool) (w : World) : World := { w with params := { w.params with followText := fun s => bif s == "special-get-raises" then b else w.params.followText s } }
theorem wfix_eq {b : Bool} {w : World} (h : w.params.followText "special-get-raises" = b) : wfix b w = w := by
  have e : (fun s => bif s == "special-get-raises" then b else w.params.followText s) = w.params.followText := by
    funext s
    cases e : s == "special-get-raises" with
    | false => rfl
    | true =>
      have : s = "special-get-raises" := by simpa using e
      subst this
      exact h.symm
  unfold wfix
  rw [e]
theorem wfix_all {p : World → Prop} (h0 : ∀ w, p (wfix false w)) (h1 : ∀ w, p (wfix true w)) (w : World) : p w := by
  cases e : w.params.followText "special-get-raises" with
  | false => exact wfix_eq e ▸ h0 w
  | true => exact wfix_eq e ▸ h1 w
end Sq
end
end

section
namespace Sq
open PySem PySem.Spec L2
open Enc (enc hm wf hgt_le)
section
variable {ma mb : Nat}
@[simp] def oFind (a b : Str) : Res Int := .ok (Txt.find a b)
theorem o_find : Op2 ma mb 0 oFind gFind := fun x y z w p q => by
  rw [p.eq, q.eq]
  have e : gFind (enc x, y.2) (enc z, w.2) = .ok (.int (Txt.find x z), 0) := rfl
  rw [e]
  exact Rt.ok (VR.mk0 (x := Txt.find x z) trivial)
def oAtS (a b : Str) : Res Int := match Builtin.Str.occurrences a b 0 a.length 1 with
  | i :: _ => .ok (i : Nat)
  | [] => .bad
theorem o_atS : Op2 ma mb 0 oAtS gAtS := fun x y z w p q => by
  rw [p.eq, q.eq]
  show Rt _ (match Builtin.Str.occurrences x z 0 x.length 1 with | i :: _ => Res.ok (PyData.int (i : Nat), 0) | [] => .bad) _
  unfold oAtS
  cases Builtin.Str.occurrences x z 0 x.length 1 with
  | nil => exact trivial
  | cons i r => exact Rt.ok (VR.mk0 (x := ((i : Nat) : Int)) trivial)
/-- one of three numbers -/
def oIx3 (a : P3 Int Int Int) (i : Int) : Res Int := match atI [a.a, a.b, a.c] i with
  | some x => .ok x
  | none => .bad
theorem o_ix3 : Op2 ma mb 0 oIx3 gIx := fun x y z w p q => by
  rw [p.eq, q.eq]
  show Rt _ (match atI ([x.a, x.b, x.c].map PyData.int) z with | some d => Res.ok (d, y.2 - 1) | none => .bad) _
  rw [atI_map]
  unfold oIx3
  cases atI [x.a, x.b, x.c] z with
  | none => exact trivial
  | some n => exact Rt.ok ⟨trivial, rfl, Nat.zero_le _⟩
def layS (z : Str) : Bool := PyData.canLay0 (.str z)
def oSortTx (x : Str × Unit) : Res (List Str) := if x.1.cps.size < 64 then if (srtT x.1).all layS then .ok (srtT x.1) else .bad else .bad
theorem o_sortTx : OpN [ma] 10 oSortTx gSortTx := fun x ys h => by
  obtain ⟨x, ⟨⟩⟩ := x
  obtain ⟨y, rfl, v⟩ := AR.one h
  rw [v.eq]
  show Rt _ (if x.cps.size < 64 then Res.ok (PyData.list ((srtT x).map .str), 10) else .bad) _
  unfold oSortTx
  simp only
  by_cases h64 : x.cps.size < 64
  · rw [if_pos h64, if_pos h64]
    by_cases hl : (srtT x).all layS = true
    · rw [if_pos hl]
      refine Rt.ok ⟨⟨?_, fun z hz => ⟨List.all_eq_true.mp hl z hz, ?_⟩⟩, rfl, Nat.le_refl _⟩
      · unfold srtT
        rw [List.length_map, sortI_len, List.length_map, Array.length_toList]
        omega
      · unfold srtT at hz
        obtain ⟨n, _, rfl⟩ := List.mem_map.mp hz
        show (1 : Nat) ≤ 1000000
        decide
    · rw [if_neg hl]
      exact trivial
  · rw [if_neg h64, if_neg h64]
    exact trivial
def oLenSet (x : List Int × Unit) : Res Int := if x.1.length ≤ 4000 then .ok ((metI x.1).length : Nat) else .bad
theorem o_lenSet : OpN [ma] 0 oLenSet gLenSet := fun x ys h => by
  obtain ⟨x, ⟨⟩⟩ := x
  obtain ⟨y, rfl, v⟩ := AR.one h
  rw [v.eq]
  show Rt _ (match intsD (x.map enc) with | some ns => (if ns.length ≤ 4000 then Res.ok (PyData.int ((metI ns).length : Nat), 0) else .bad) | none => .bad) _
  rw [ints_enc]
  unfold oLenSet
  simp only
  split
  · exact Rt.ok (VR.mk0 (x := (((metI x).length : Nat) : Int)) trivial)
  · exact trivial
end
end Sq
end

section
namespace Sq
open PySem PySem.Spec L2
open Enc (enc hm wf hgt_le)
open EnvE (encE wfE hms)
/-- a dict in which some numbers stand -/
structure DS where
  ks : List Int
deriving DecidableEq
def dsE (ks : List Int) : List (PyData × PyData) := ks.map fun n => (.int n, .bool true)
theorem dsE_hgt : ∀ ks : List Int, hgtKv (dsE ks) = 0
  | [] => by simp [dsE, hgtKv]
  | k :: ks => by
    have ih := dsE_hgt ks
    show hgtKv ((PyData.int k, PyData.bool true) :: dsE ks) = 0
    rw [hgtKv, ih, hgtP, hgt]
    rfl
instance instEncDS : Enc DS := ⟨fun d => .dict (dsE d.ks), 1, fun d => d.ks.length ≤ 100000, fun d => by rw [hgt, dsE_hgt]; exact Nat.le_refl _⟩
theorem dsE_any (n : Int) : ∀ ks : List Int, (dsE ks).any (isKI n) = decide (n ∈ ks)
  | [] => by simp [dsE]
  | k :: ks => by
    show (isKI n (PyData.int k, PyData.bool true) || (dsE ks).any (isKI n)) = _
    rw [dsE_any n ks]
    unfold isKI
    by_cases h : k = n
    · subst h; simp
    · have h' : ¬ n = k := fun z => h z.symm
      simp [h, h']
def dsAdd (ks : List Int) (n : Int) : List Int := if n ∈ ks then ks else ks ++ [n]
theorem dsE_put (ks : List Int) (n : Int) : putI (dsE ks) n (.bool true) = dsE (dsAdd ks n) := by
  unfold putI dsAdd
  rw [dsE_any]
  by_cases h : n ∈ ks
  · rw [if_pos (decide_eq_true h), if_pos h]
    conv => rhs; rw [← List.map_id (dsE ks)]
    refine List.map_congr_left fun q hq => ?_
    obtain ⟨m, _, rfl⟩ := List.mem_map.mp hq
    split <;> rfl
  · rw [if_neg (by simpa using h), if_neg h]
    unfold dsE
    rw [List.map_append]
    rfl
section
variable {σ ρ : Type} [EnvE σ] [Enc ρ] {δ δ1 δr δk : List Nat} {m ma mb mr i : Nat} {ix : Ex}
@[simp] def pDNew : σ → Res DS := fun _ => .ok ⟨[]⟩
theorem lp_dnew : LP (σ := σ) δ 10 pDNew eDNew := fun v s r => Rt.ok ⟨⟨Nat.zero_le _, rfl, Nat.le_refl _⟩, rfl⟩
@[simp] def oDIn (n : Int) (d : DS) : Res Bool := .ok (decide (n ∈ d.ks))
theorem o_dIn : Op2 ma mb 0 oDIn gDIn := fun x y z w p q => by
  rw [p.eq, q.eq]
  have e : gDIn (enc x, y.2) (enc z, w.2) = .ok (.bool ((dsE z.ks).any (isKI x)), 0) := rfl
  rw [e, dsE_any]
  exact Rt.ok (VR.mk0 (x := decide (x ∈ z.ks)) trivial)
@[simp] def oDNotIn (n : Int) (d : DS) : Res Bool := .ok (!decide (n ∈ d.ks))
theorem o_dNotIn : Op2 ma mb 0 oDNotIn gDNotIn := fun x y z w p q => by
  rw [p.eq, q.eq]
  have e : gDNotIn (enc x, y.2) (enc z, w.2) = .ok (.bool (!(dsE z.ks).any (isKI x)), 0) := rfl
  rw [e, dsE_any]
  exact Rt.ok (VR.mk0 (x := !decide (x ∈ z.ks)) trivial)
@[simp] def sDAdd (x : Sl σ DS i) (u : σ → Res Int) : σ → Res (TF ρ × σ) := fun v => ofO (x.get v) >>= fun d => u v >>= fun n => if d.ks.length < 100000 then .ok (.next, x.set v (some ⟨dsAdd d.ks n⟩)) else .bad
theorem ls_dset (x : Sl σ DS i) {u : σ → Res Int} (hi : LP δ m u ix) (h : 0 < δ.getD i 0 := by decide) : LS (ρ := ρ) δ (δ.set i (δ.getD i 0)) δr δk mr (sDAdd x u) (sDSet i (eC (.bool true)) ix) := LS.mk fun v s r => by
  unfold sDAdd ofO
  cases hx : x.get v with
  | none => exact trivial
  | some d =>
    obtain ⟨w, k, e, hk⟩ := r.get x hx
    obtain ⟨k, rfl⟩ : ∃ k', k = k' + 1 := ⟨k - 1, by omega⟩
    show Rt (u v >>= _) (slot s i >>= fun _ => ix s >>= _) _
    rw [e]
    show Rt (u v >>= _) (ix s >>= _) _
    refine (hi v s r).bind fun n y q => ?_
    obtain ⟨y, s1⟩ := y
    obtain ⟨q, rfl⟩ := q
    obtain ⟨yd, yk⟩ := y
    obtain rfl : yd = PyData.int n := q.2.1
    show Rt _ (slot s1 i >>= fun z => match (PyData.bool true), (PyData.int n), z with
      | .bool b, .int n, (.dict kvs, k + 1) => if kvs.length < 1000000 then Res.ok (Fl.next, s1.set i (some (PyData.dict (putI kvs n (.bool b)), k + 1))) else .bad
      | _, _, _ => .bad) _
    rw [e]
    by_cases hl : d.ks.length < 100000
    · rw [if_pos hl]
      have hl2 : (dsE d.ks).length < 1000000 := by
        unfold dsE
        rw [List.length_map]
        omega
      show Rt _ (if (dsE d.ks).length < 1000000 then Res.ok (Fl.next, s1.set i (some (PyData.dict (putI (dsE d.ks) n (.bool true)), k + 1))) else .bad) _
      rw [if_pos hl2, dsE_put]
      have hw : wf (⟨dsAdd d.ks n⟩ : DS) := by
        show (dsAdd d.ks n).length ≤ 100000
        unfold dsAdd
        split
        · omega
        · rw [List.length_append]; simp; omega
      exact Rt.ok (r.set x (a := ⟨dsAdd d.ks n⟩) hw hk)
    · rw [if_neg hl]
      exact trivial
def oKGet (tab : List (Str × Str)) (z : Str) : Res Str := match tab.lookup z with
  | some v => if layS v && decide (v.length ≤ 1000000) then .ok v else .bad
  | none => .bad
theorem o_kget {tab : List (Str × Str)} : Op1 ma 0 (oKGet tab) (gKGet tab) := fun x y p => by
  rw [p.eq]
  show Rt _ (match tab.lookup x with | some v => Res.ok (PyData.str v, 0) | none => .bad) _
  unfold oKGet
  cases tab.lookup x with
  | none => exact trivial
  | some v =>
    simp only
    split
    · next h =>
      rw [Bool.and_eq_true, decide_eq_true_eq] at h
      have hv : wf v := ⟨h.1, h.2⟩
      exact Rt.ok (VR.mk0 (x := v) hv)
    · exact trivial
def oKNotIn (tab : List (Str × Str)) (z : Str) : Res Bool := match tab.lookup z with
  | some _ => .ok false
  | none => .bad
theorem o_knotin {tab : List (Str × Str)} : Op1 ma 0 (oKNotIn tab) (gKNotIn tab) := fun x y p => by
  rw [p.eq]
  show Rt _ (match tab.lookup x with | some v => Res.ok (PyData.bool false, 0) | none => .bad) _
  unfold oKNotIn
  cases tab.lookup x with
  | none => exact trivial
  | some v => exact Rt.ok (VR.mk0 (x := false) trivial)
end
end Sq
end

section
namespace Sq
open PySem PySem.Spec L2
open Enc (enc hm wf hgt_le)
open EnvE (encE wfE hms)
section
variable {ma : Nat}
def oIGet2 (tab : List (Int × List Int)) (n : Int) : Res (Int × Int) := match tab.lookup n with
  | some [a, b] => .ok (a, b)
  | _ => .bad
theorem o_iget2 {tab : List (Int × List Int)} : Op1 ma 0 (oIGet2 tab) (gIGet tab) := fun x y p => by
  rw [p.eq]
  show Rt _ (match tab.lookup x with | some js => Res.ok (PyData.tuple (js.map .int), 0) | none => .bad) _
  unfold oIGet2
  cases tab.lookup x with
  | none => exact trivial
  | some js => match js with
    | [a, b] => exact Rt.ok ⟨⟨trivial, trivial⟩, rfl, Nat.zero_le _⟩
    | [] => exact trivial
    | [_] => exact trivial
    | _ :: _ :: _ :: _ => exact trivial
def oIIn (tab : List (Int × List Int)) (n : Int) : Res Bool := .ok (tab.lookup n).isSome
theorem o_iIn {tab : List (Int × List Int)} : Op1 ma 0 (oIIn tab) (gIIn tab) := fun x y p => by
  rw [p.eq]
  exact Rt.ok (VR.mk0 (x := (tab.lookup x).isSome) trivial)
def oINotIn (tab : List (Int × List Int)) (n : Int) : Res Bool := .ok (!(tab.lookup n).isSome)
theorem o_iNotIn {tab : List (Int × List Int)} : Op1 ma 0 (oINotIn tab) (gINotIn tab) := fun x y p => by
  rw [p.eq]
  exact Rt.ok (VR.mk0 (x := !(tab.lookup x).isSome) trivial)
end
end Sq
end

section
/-! a.join(texts), tuple(list) -/
namespace Sq
open PySem PySem.Spec L2
section
variable {K : PySem.W.Frag} {Z : Zs} {H : Hp} {k : Nat}
theorem strsD_own : ∀ {ds : List PyData} {ns : List Str} {vs : List V} {F : List Addr}, strsD ds = some ns → OwnAll K Z H k vs ds F → vs = ns.map V.str
  | [], ns, vs, F, e, h => by
    cases e
    unfold OwnAll at h
    exact h.1
  | d :: ds, ns, vs, F, e, h => by
    unfold OwnAll at h
    obtain ⟨v, vs', F1, F2, rfl, h1, h2, rfl⟩ := h
    cases d with
    | str i =>
      unfold strsD at e
      cases e2 : strsD ds with
      | none => rw [e2] at e; cases e
      | some is =>
        rw [e2] at e
        cases e
        rw [own_str h1, strsD_own e2 h2]
        rfl
    | _ => cases e
end
theorem strsD_map (ns : List Str) : strsD (ns.map .str) = some ns := by
  induction ns with
  | nil => rfl
  | cons n ns ih => rw [List.map_cons, strsD, ih]
def gJoin (x y : DV) : Res DV := match x.1, y.1 with
  | .str a, .list ds => match strsD ds with
    | some ys => if (ys.map (·.length)).sum + ys.length * a.length ≤ 16777216 then .ok (.str (Txt.join a ys), 0) else .bad
    | none => .bad
  | _, _ => .bad
def gTupOf (xs : List DV) : Res DV := match xs with
  | [x] => match x.1 with
    | .list ds => .ok (.tuple ds, depI x + 1)
    | _ => .bad
  | _ => .bad
section
variable {K : PySem.W.Frag}
theorem ok_join : OpOk K (fun x y H Q => ∃ a p, ∃ ys : List Str, x = .str a ∧ [y] = [V.ref p] ∧ (SqL K H p (ys.map V.str) ∨ SqT K H p (ys.map V.str)) ∧ (ys.map (·.length)).sum + ys.length * a.length ≤ 16777216 ∧ Q (.str (Txt.join a ys)) H) gJoin := by
  intro fv mv H Z Fs σ s' H1 Z1 Fs1 F v w x y z Q e p q
  obtain ⟨F1, F2, h1, h2, eF⟩ := two_own p.held.pr
  obtain ⟨xd, xk⟩ := x
  obtain ⟨yd, yk⟩ := y
  unfold gJoin at e
  simp only at e
  split at e
  · next a ds =>
    cases eb : strsD ds with
    | none => rw [eb] at e; cases e
    | some ys =>
      rw [eb] at e
      simp only at e
      split at e
      · next hz =>
        cases e
        obtain ⟨l, ws, G, rfl, r1, o1, sb⟩ := h2.sub
        rw [strsD_own eb o1] at r1
        exact ⟨a, l, ys, own_str h1, rfl, .inl (.inl r1), hz, q _ _ _ _ (p.sc str_own)⟩
      · cases e
  · cases e
theorem ok_tupOf : CallOk K (fun xs H Q => ∃ p ys, xs = [.ref p] ∧ ((SqL K H p ys ∧ ∀ l, H l = none → Q (.ref l) (upd H l (.tup ys))) ∨ (SqT K H p ys ∧ Q (.ref p) H))) gTupOf := by
  intro fv mv H Z Fs σ s' H1 Z1 Fs1 F vs xs z Q e p q
  unfold gTupOf at e
  split at e
  · next x =>
    obtain ⟨xd, xk⟩ := x
    obtain ⟨v, rfl, h1⟩ := one_own p.held.pr
    simp only at e h1
    split at e
    · next ds =>
      cases e
      obtain ⟨l, ws, G, rfl, r1, o1, sb⟩ := h1.sub
      obtain ⟨E1, t1, q1⟩ := OwnAll.to (m := depI (PyData.list ds, xk)) o1 (p.held.nd.sublist sb) (depI_ok (Nat.le_refl _))
      exact ⟨l, ws, rfl, .inl ⟨.inl r1, fun pn hp => q _ _ _ _ (p.newT (stb_all K _ _) (F' := E1) hp (t1.trans sb) fun Z2 mz m2 => q1 Z2 mz fun a ha hn => m2 a (sb.subset ha) hn)⟩⟩
    · cases e
  · cases e
end
theorem str_join {x y z : DV} (h : gJoin x y = .ok z) : ∃ a, x.1 = .str a := by
  unfold gJoin at h
  split at h
  · next a b ex ey => exact ⟨a, ex⟩
  · cases h
section
variable {X : Cx} {o e : Expr} {apos cpos : Pos} {fva fvb mva mvb : List Nat} {fa fb : Ex}
theorem xjoin (ho : PE X o (tE X.K fva mva fa)) (he : PE X e (tE X.K fvb mvb fb)) (d : djn fva mvb = true := by rfl) (hbase : attributeBase o "join" X.env (eval o X.env) = eval o X.env := by rfl)
    (hfew : ((backTo cpos (starEach [e] X.env)).all (fun x => !x.1) && (backToKw cpos (keywordEach [] X.env)).all (fun x => x.1.isSome) && decide ([e].length + ([] : List Keyword).length + (if ([] : List Keyword).isEmpty then 0 else 1) < 30)) = true := by rfl)
    (hline : (apos.endLine == cpos.line) = true := by rfl) (hst : starEach [e] X.env = (false, eval e X.env) :: starEach [] X.env := by rfl) (hplain : (backTo cpos (starEach [] X.env)).any (·.1) = false := by rfl) :
    PE X (.Call (.Attribute o "join" apos) [e] [] cpos) (tE X.K (fva ++ fvb) (mva ++ mvb) (ev2 gJoin fa fb)) := re_sm1 PySem.F.slot_str_join PySem.F.type_str_join mt_join ok_join (fun _ _ _ => str_join) ho he d hbase hfew hline hst hplain
end
section
variable {X : Cx} {e : Expr} {p pos : Pos} {fv mv : List Nat} {io : List (Nat × Nat)} {fs : Exs}
theorem xtuple (hm : X.mg "tuple" = none) (ha : PA X [e] (tA X.K fv mv io fs)) (hg : Gl X "tuple" := by rfl) (he : starEach [e] X.env = (false, eval e X.env) :: starEach [] X.env := by rfl) (hpl : (backTo pos (starEach [] X.env)).any (·.1) = false := by rfl) : PE X (.Call (.Name "tuple" p) [e] [] pos) (tE X.K fv mv (evN gTupOf fs)) := re_callT call_tuple_of ok_tupOf hg hm (by decide +kernel) ha (by decide) (by decide) he hpl
end
end Sq
end

section
namespace Sq
open PySem PySem.Spec L2
open Enc (enc hm wf hgt_le)
section
variable {ma mb : Nat}
theorem strs_enc (xs : List Str) : strsD (xs.map enc) = some xs := strsD_map xs
def oJoin (a : Str) (ys : List Str) : Res Str := if (ys.map (·.length)).sum + ys.length * a.length ≤ 100000 then if layS (Txt.join a ys) then if (Txt.join a ys).cps.size ≤ 1000000 then .ok (Txt.join a ys) else .bad else .bad else .bad
theorem o_join : Op2 ma mb 0 oJoin gJoin := fun x y z w p q => by
  rw [p.eq, q.eq]
  show Rt _ (match strsD (z.map enc) with | some ys => (if (ys.map (·.length)).sum + ys.length * x.length ≤ 16777216 then Res.ok (PyData.str (Txt.join x ys), 0) else .bad) | none => .bad) _
  rw [strs_enc]
  unfold oJoin
  simp only
  split
  · next h =>
    rw [if_pos (Nat.le_trans h (by decide))]
    split
    · next h2 =>
      split
      · next h3 => exact Rt.ok (VR.mk0 (x := Txt.join x z) (show wf (Txt.join x z) from ⟨h2, h3⟩))
      · exact trivial
    · exact trivial
  · exact trivial
variable {α : Type} [Enc α]
def oTup3 : List α × Unit → Res (P3 α α α) := fun p => match p.1 with
  | [a, b, c] => .ok ⟨a, b, c⟩
  | _ => .bad
theorem o_tup3 : OpN [ma] (dpi (hm α) ma + 1) (oTup3 (α := α)) gTupOf := fun x ys h => by
  obtain ⟨x, ⟨⟩⟩ := x
  obtain ⟨y, rfl, p⟩ := AR.one h
  have e := p.eq
  have l := p.2.2
  have w := p.1
  rw [e]
  unfold oTup3
  match x, w, l with
  | [a, b, c], w, l =>
    refine ⟨_, rfl, ⟨⟨w.2 a (by simp), w.2 b (by simp), w.2 c (by simp)⟩, rfl, ?_⟩⟩
    exact Nat.succ_le_succ (depI_enc [a, b, c] l)
  | [], _, _ => exact trivial
  | [_], _, _ => exact trivial
  | [_, _], _, _ => exact trivial
  | _ :: _ :: _ :: _ :: _, _, _ => exact trivial
/-- sorted, of things told by their data -/
def leE (a b : α) : Bool := PySem.W.dataLe false id (enc a) (enc b)
def srtE (L : List α) : List α := L.mergeSort leE
def oSortE : List α × Unit → Res (List α) := fun p => if srtOk (p.1.map enc) then .ok (srtE p.1) else .bad
theorem srtE_perm (L : List α) : (srtE L).Perm L := List.mergeSort_perm ..
theorem sortD_enc (L : List α) : sortD (L.map enc) = (srtE L).map enc := by
  unfold sortD srtE
  rw [List.map_mergeSort (r := leE) (s := PySem.W.dataLe false id) (f := enc) (fun a _ b _ => rfl)]
theorem o_sortE (hi : ∀ (a : α) ds, intsD (enc a :: ds) = none) : OpN [ma] (dpi (hm α) ma + 1) (oSortE (α := α)) gSortA := fun x ys h => by
  obtain ⟨y, rfl, p⟩ := AR.one h
  have l := p.2.2
  rw [p.eq]
  obtain ⟨L, u⟩ := x
  show Rt (oSortE (L, u)) (match intsD (L.map enc) with | some ns => Res.ok (PyData.list ((sortI ns).map .int), 10) | none => if srtOk (L.map enc) then .ok (.list (sortD (L.map enc)), depI (.list (L.map enc), y.2) + 1) else .bad) _
  unfold oSortE
  simp only
  cases L with
  | nil =>
    by_cases hs : srtOk (([] : List α).map enc) = true
    · rw [if_pos hs]
      refine Rt.ok ⟨⟨by rw [(srtE_perm ([] : List α)).length_eq]; exact Nat.zero_le _, fun r hr => absurd ((srtE_perm ([] : List α)).mem_iff.mp hr) (by simp)⟩, by
        have e0 : srtE ([] : List α) = [] := List.mergeSort_nil ..
        show _ = enc (srtE [])
        rw [e0]; rfl, ?_⟩
      unfold dpi
      split
      · show 9 + 1 ≤ 10; decide
      · split
        · show 9 + 1 ≤ 10; decide
        · show min 9 (ma - 1) + 1 ≤ 10; omega
    · rw [if_neg hs]
      exact trivial
  | cons r L =>
    have e : intsD ((r :: L).map enc) = none := hi r (L.map enc)
    by_cases hs : srtOk ((r :: L).map enc) = true
    · simp only [e, hs, if_true, sortD_enc]
      refine Rt.ok ⟨⟨by rw [(srtE_perm (r :: L)).length_eq]; exact p.1.1, fun r' hr => p.1.2 r' ((srtE_perm (r :: L)).mem_iff.mp hr)⟩, rfl, ?_⟩
      exact Nat.succ_le_succ (depI_enc (r :: L) l)
    · rw [if_neg hs]
      exact trivial
end
theorem hi_t2 (a : Int × Int) (ds : List PyData) : intsD (enc a :: ds) = none := rfl
theorem hi_t3 (a : P3 Int Int Int) (ds : List PyData) : intsD (enc a :: ds) = none := rfl
/-! pairs and triples of numbers by their order -/
def lex3 (a b : P3 Int Int Int) : Bool := decide (a.a < b.a ∨ (a.a = b.a ∧ (a.b < b.b ∨ (a.b = b.b ∧ a.c ≤ b.c))))
def lex2 (a b : Int × Int) : Bool := decide (a.1 < b.1 ∨ (a.1 = b.1 ∧ a.2 ≤ b.2))
theorem leE_t2 (a b : Int × Int) : leE a b = lex2 a b := congrFun (congrFun (PySem.W.dataLe_ii (β := Int × Int) (·.1) (·.2)) a) b
theorem leE_t3 (a b : P3 Int Int Int) : leE a b = lex3 a b := by
  show (!PySem.W.dataLt (.tuple [.int b.a, .int b.b, .int b.c]) (.tuple [.int a.a, .int a.b, .int a.c])) = _
  rw [PySem.W.dataLt_tuple]
  have e := PySem.W.dataLt_ints [b.a, b.b, b.c] [a.a, a.b, a.c]
  unfold PySem.W.rowLt at e
  rw [show ([b.a, b.b, b.c].map PyData.int) = [.int b.a, .int b.b, .int b.c] from rfl, show ([a.a, a.b, a.c].map PyData.int) = [.int a.a, .int a.b, .int a.c] from rfl] at e
  rw [e]
  unfold lex3
  rw [Bool.eq_iff_iff]
  simp only [Bool.not_eq_true', decide_eq_false_iff_not, decide_eq_true_eq, List.cons_lt_cons_iff, List.not_lt_nil, and_false, or_false]
  omega
theorem srtOk_t3 (L : List (P3 Int Int Int)) : srtOk (L.map enc) = true := by
  unfold srtOk
  rw [Bool.and_eq_true, Bool.and_eq_true, Bool.or_eq_true]
  have nd : ∀ L : List (P3 Int Int Int), ndcAll (L.map enc) = true := fun L => by
    induction L with
    | nil => rfl
    | cons r L ih => rw [List.map_cons, ndcAll, ih]; rfl
  refine ⟨⟨List.all_eq_true.mpr fun d hd => List.all_eq_true.mpr fun d' hd' => ?_, .inl (List.all_eq_true.mpr fun d hd => ?_)⟩, (Bool.and_eq_true ..).mpr ⟨nd L, List.all_eq_true.mpr fun d hd => decide_eq_true ?_⟩⟩
  · obtain ⟨r, _, rfl⟩ := List.mem_map.mp hd
    obtain ⟨r', _, rfl⟩ := List.mem_map.mp hd'
    exact PySem.W.alike_ints [r.a, r.b, r.c] [r'.a, r'.b, r'.c]
  · obtain ⟨r, _, rfl⟩ := List.mem_map.mp hd
    rfl
  · obtain ⟨r, _, rfl⟩ := List.mem_map.mp hd
    show PyData.depth (.tuple [.int r.a, .int r.b, .int r.c]) ≤ 60
    simp [PyData.depth, PyData.depthAll]
theorem srtOk_t2 (L : List (Int × Int)) : srtOk (L.map enc) = true := by
  unfold srtOk
  rw [Bool.and_eq_true, Bool.and_eq_true, Bool.or_eq_true]
  have nd : ∀ L : List (Int × Int), ndcAll (L.map enc) = true := fun L => by
    induction L with
    | nil => rfl
    | cons r L ih => rw [List.map_cons, ndcAll, ih]; rfl
  refine ⟨⟨List.all_eq_true.mpr fun d hd => List.all_eq_true.mpr fun d' hd' => ?_, .inl (List.all_eq_true.mpr fun d hd => ?_)⟩, (Bool.and_eq_true ..).mpr ⟨nd L, List.all_eq_true.mpr fun d hd => decide_eq_true ?_⟩⟩
  · obtain ⟨r, _, rfl⟩ := List.mem_map.mp hd
    obtain ⟨r', _, rfl⟩ := List.mem_map.mp hd'
    exact PySem.W.alike_ints [r.1, r.2] [r'.1, r'.2]
  · obtain ⟨r, _, rfl⟩ := List.mem_map.mp hd
    rfl
  · obtain ⟨r, _, rfl⟩ := List.mem_map.mp hd
    show PyData.depth (.tuple [.int r.1, .int r.2]) ≤ 60
    simp [PyData.depth, PyData.depthAll]
theorem srtE_uniq3 {a b : List (P3 Int Int Int)} (h : a.Perm b) (hs : b.Pairwise fun x y => lex3 x y = true) : srtE a = b := by
  have hle : (leE : P3 Int Int Int → P3 Int Int Int → Bool) = lex3 := by
    funext x y
    exact leE_t3 x y
  refine List.Perm.eq_of_pairwise (le := fun x y => lex3 x y = true) (fun x y _ _ h1 h2 => ?_) ?_ hs ((srtE_perm a).trans h)
  · have h1 := of_decide_eq_true h1
    have h2 := of_decide_eq_true h2
    obtain ⟨xa, xb, xc⟩ := x
    obtain ⟨ya, yb, yc⟩ := y
    simp only at h1 h2
    have : xa = ya ∧ xb = yb ∧ xc = yc := by omega
    rw [this.1, this.2.1, this.2.2]
  · unfold srtE
    rw [hle]
    refine List.pairwise_mergeSort (fun x y z h1 h2 => ?_) (fun x y => ?_) a
    · have h1 := of_decide_eq_true h1
      have h2 := of_decide_eq_true h2
      exact decide_eq_true (by omega)
    · by_cases h : lex3 x y = true
      · rw [h]; rfl
      · have h := of_decide_eq_false (p := x.a < y.a ∨ (x.a = y.a ∧ (x.b < y.b ∨ (x.b = y.b ∧ x.c ≤ y.c)))) (show lex3 x y = false by simpa using h)
        rw [Bool.or_eq_true]
        right
        exact decide_eq_true (by omega)
end Sq
end

section
/-! [a, b] of two types: places, equality; triples of one type walked over, placed by a number -/
namespace Sq
open PySem PySem.Spec L2
open Enc (enc hm wf hgt_le)
section
variable {α β : Type} [Enc α] [Enc β]
@[simp] def oHa (p : H2 α β) : Res α := .ok p.a
@[simp] def oHb (p : H2 α β) : Res β := .ok p.b
section
variable {σ : Type} [EnvE σ] {δ : List Nat} {a : Ex} {ma : Nat}
theorem lp_ha {t : σ → Res (H2 α β)} (ha : LP δ ma t a) : LP δ (ma - 1) (p1 oHa t) (ev2 gIx a (eC (.int 0))) := ix_lit ha fun x k w l => Rt.ok (VR.mk' w.1 (Nat.sub_le_sub_right l 1))
theorem lp_hb {t : σ → Res (H2 α β)} (ha : LP δ ma t a) : LP δ (ma - 1) (p1 oHb t) (ev2 gIx a (eC (.int 1))) := ix_lit ha fun x k w l => Rt.ok (VR.mk' w.2 (Nat.sub_le_sub_right l 1))
end
instance [DecidableEq α] [E : EncEq α] [DecidableEq β] [G : EncEq β] : EncEq (H2 α β) := ⟨fun a b => by
  show PyData.eqv (.list [enc a.a, enc a.b]) (.list [enc b.a, enc b.b]) = _
  rw [PyData.eqv, PyData.eqvAll, PyData.eqvAll, PyData.eqvAll, E.eqv, G.eqv]
  obtain ⟨x, y⟩ := a
  obtain ⟨x', y'⟩ := b
  by_cases h1 : x = x' <;> by_cases h2 : y = y' <;> simp [h1, h2], fun p h => by
    show PyData.canLay0 (.list _) = _
    rw [PyData.canLay0]
    exact layAll_of fun d hd => by
      simp only [List.mem_cons, List.not_mem_nil, or_false] at hd
      rcases hd with rfl | rfl
      · exact E.lay _ h.1
      · exact G.lay _ h.2, max E.dp G.dp + 1, fun p => by
    show (PyData.list _).depth ≤ _
    rw [PyData.depth]
    exact Nat.succ_le_succ (depthAll_le fun d hd => by
      have a := E.depth_le p.a
      have b := G.depth_le p.b
      simp only [List.mem_cons, List.not_mem_nil, or_false] at hd
      rcases hd with rfl | rfl <;> omega)⟩
end
section
variable {σ α : Type} [EnvE σ] [Enc α] {δ : List Nat} {a : Ex} {m ma mb : Nat}
/-- a triple of one type walked over -/
@[simp] def oL3 (p : P3 α α α) : Res (List α) := .ok [p.a, p.b, p.c]
theorem li_p3 {t : σ → Res (P3 α α α)} (h : LP δ m t a) : LI δ (p1 oL3 t) (iL a) := fun v s r => (h v s r).bind fun x y p => by
  obtain ⟨y, s1⟩ := y
  obtain ⟨p, rfl⟩ := p
  have e : y = (enc x, y.2) := p.eq
  have w : wf x.a ∧ wf x.b ∧ wf x.c := p.1
  rw [e]
  refine ⟨([enc x.a, enc x.b, enc x.c], s1), rfl, ⟨by show 3 ≤ 1000000; decide, fun z hz => ?_⟩, rfl, rfl⟩
  simp only [List.mem_cons, List.not_mem_nil, or_false] at hz
  rcases hz with rfl | rfl | rfl
  · exact w.1
  · exact w.2.1
  · exact w.2.2
def oIxP (a : P3 α α α) (i : Int) : Res α := match atI [a.a, a.b, a.c] i with
  | some x => .ok x
  | none => .bad
theorem o_ixP : Op2 ma mb (ma - 1) (oIxP (α := α)) gIx := fun x y z w p q => by
  rw [p.eq, q.eq]
  show Rt _ (match atI ([x.a, x.b, x.c].map enc) z with | some d => Res.ok (d, y.2 - 1) | none => .bad) _
  rw [atI_map]
  unfold oIxP
  cases h : atI [x.a, x.b, x.c] z with
  | none => exact trivial
  | some n =>
    have w : wf x.a ∧ wf x.b ∧ wf x.c := p.1
    have hm := atI_mem h
    refine Rt.ok (VR.mk' ?_ (Nat.sub_le_sub_right p.2.2 1))
    simp only [List.mem_cons, List.not_mem_nil, or_false] at hm
    rcases hm with rfl | rfl | rfl
    · exact w.1
    · exact w.2.1
    · exact w.2.2
/-- a sign of a text -/
def oIxS (a : Str) (i : Int) : Res Str := match atI a.cps.toList i with
  | some c => if small a.length then if layS ⟨#[c]⟩ then .ok ⟨#[c]⟩ else .bad else .bad
  | none => .bad
theorem o_ixS : Op2 ma mb 0 oIxS gIx := fun x y z w p q => by
  rw [p.eq, q.eq]
  show Rt _ (match atI x.cps.toList z with | some c => (if small x.length then Res.ok (PyData.str ⟨#[c]⟩, 0) else .bad) | none => .bad) _
  unfold oIxS
  cases atI x.cps.toList z with
  | none => exact trivial
  | some c =>
    simp only
    by_cases h : small x.length = true
    · rw [if_pos h, if_pos h]
      by_cases h2 : layS ⟨#[c]⟩ = true
      · rw [if_pos h2]
        exact Rt.ok (VR.mk0 (x := (⟨#[c]⟩ : Str)) (show wf (⟨#[c]⟩ : Str) from ⟨h2, by show (1 : Nat) ≤ 1000000; decide⟩))
      · rw [if_neg h2]
        exact trivial
    · rw [if_neg h, if_neg h]
      exact trivial
end
end Sq
end

section
/-! enumerate(tuple) -/
namespace PySem
open Sem (wp)
open AutoSeq1 (wpAny_loadPart')
theorem meets_enumerate_newTu (l : Addr) (items : Array Value) (n : Nat) (dct : Option Addr) (sl : Array (Option Value)) :
    Meets (Builtin.«enumerate.__new__» ⟨[.type "enumerate", .ref l], []⟩) (fun _ R s => s.heap.get? l = some { cls := .type "tuple", dict := dct, data := .seq items n, slots := sl } ∧
      R (.ok (.ret (.ref (s.heap.push { cls := .type "tuple_iterator", data := .fields #[.ref l, .int 0 0] }).objs.size)))
        { s with heap := (s.heap.push { cls := .type "tuple_iterator", data := .fields #[.ref l, .int 0 0] }).push { cls := .type "enumerate", data := .fields #[.none, .bool false, .ref s.heap.objs.size, rawInt 0, .none, .none] } }) :=
  .of_wp fun prog w A R s h => by
    obtain ⟨hp, g, d, tk, os⟩ := s; obtain ⟨hl, h⟩ := h
    have hsub := sub_enumerate
    have hL : Heap.IsTuple (Shared.heap ⟨hp, g, d, tk, os⟩) l items := ⟨_, hl, rfl, n, rfl⟩
    wp_walk using wpAny_loadPart' hl
    refine wpAny_stack_any fun st => wpAny_pure ?_
    split
    · rename_i c _ _ _ _ _
      cases (c == Value.type "enumerate")
      · wp_walk using wpAny_loadPart' hl, wpAny_pyIter_tuple hL
        exact ⟨_, rfl, h⟩
      · wp_walk using wpAny_loadPart' hl, wpAny_pyIter_tuple hL
        exact ⟨_, rfl, h⟩
    · wp_walk using wpAny_loadPart' hl, wpAny_pyIter_tuple hL
      exact ⟨_, rfl, h⟩
theorem call_enumerate_tu {prog : Program} {w : World} {A : Around} {E : Value → Shared → Prop} {s : Shared} {l : Addr} {items : Array Value} {Q : Value → Shared → Prop} (hL : s.heap.IsTuple l items)
    (h : ∀ h', IsEnum h' (s.heap.objs.size + 1) s.heap.objs.size 0 .none → h'.IsTupleIter s.heap.objs.size l 0 → h'.objs.size = s.heap.objs.size + 2 →
      (∀ b o, s.heap.get? b = some o → h'.get? b = some o) → Q (.ref (s.heap.objs.size + 1)) { s with heap := h' }) :
    wpAny (model prog w) A (call (.type "enumerate") [.ref l]) Q E s := by
  obtain ⟨⟨c, dct, dt, sl⟩, hl, hc, n, hd⟩ := hL
  replace hc : c = .type "tuple" := hc
  replace hd : dt = .seq items n := hd
  subst hc hd
  refine callType_new F.called_enumerate (by decide) (F.typeCall_enumerate_1 _) (F.newCall_enumerate_1 _) (fun obj => F.args_object_init_2 obj _) F.entry_enumerate_new
    (meets_enumerate_newTu l items n dct sl) ⟨hl, ?_⟩
  have hz : (s.heap.push { cls := .type "tuple_iterator", data := .fields #[.ref l, .int 0 0] }).objs.size = s.heap.objs.size + 1 := Heap.size_push ..
  show _ ∧ _
  rw [hz]
  have he : IsEnum ((s.heap.push { cls := .type "tuple_iterator", data := .fields #[.ref l, .int 0 0] }).push
      { cls := .type "enumerate", data := .fields #[.none, .bool false, .ref s.heap.objs.size, rawInt 0, .none, .none] }) (s.heap.objs.size + 1) s.heap.objs.size 0 .none := by
    have := Heap.get?_push_size (s.heap.push { cls := .type "tuple_iterator", data := .fields #[.ref l, .int 0 0] })
      (o := { cls := .type "enumerate", data := .fields #[.none, .bool false, .ref s.heap.objs.size, rawInt 0, .none, .none] }) rfl
    rw [hz] at this; exact this
  refine ⟨⟨_, he, rfl⟩, h _ he ⟨_, Heap.get?_push_of_some _ (Heap.get?_push_size _ rfl), rfl, rfl⟩ (by rw [Heap.size_push, hz]) fun b o x => Heap.get?_push_of_some _ (Heap.get?_push_of_some _ x)⟩
end PySem
namespace L2
open PySem PySem.Spec PyProof.Rows
def IteT (K : PySem.W.Frag) (a : Addr) : It :=
  ⟨fun i H => ∃ (xs : List V) (x : V), SqT K H a xs ∧ xs[i]? = some x, fun i H v H' => ∃ T x, v = .ref T ∧ H T = none ∧ H' = upd H T (.tup [.int (i : Nat), x]) ∧ ∀ xs, SqT K H a xs → xs[i]? = some x, fun i H => ∃ xs : List V, SqT K H a xs ∧ xs.length ≤ i⟩
theorem turn_enumT {P : Program} {w : World} {K : PySem.W.Frag} {elts : List Expr} {kk : Nat} {tpos : Pos} (a e it : Addr) :
    Turn P w K (.Tuple elts kk tpos) (IteT K a) [e, it] e (fun i h => (∃ old, IsEnum h e it ((i : Nat) : Int) old) ∧ h.IsTupleIter it a i ∧ e ≠ it ∧ e ≠ a ∧ a ≠ it) where
  mem := by simp
  obj := fun i h st b hb => by
    obtain ⟨⟨old, he⟩, ⟨o, ho, hc, hd⟩, _⟩ := st
    have e' : b = e ∨ b = it := by simpa using hb
    rcases e' with z | z
    · rw [z]; exact ⟨_, he, fun v q => nomatch q⟩
    · rw [z]; exact ⟨o, ho, fun v q => by rw [hd] at q; cases q⟩
  keep := fun i h h' st k => let ⟨⟨old, he⟩, hi, hne⟩ := st; ⟨⟨old, k e (by simp) _ he⟩, hi.at fun o q => k it (by simp) o q, hne⟩
  item := by
    intro X hP hw hK hc i pins s σ H E I hf st hg
    subst hP hw hK
    obtain ⟨⟨old, he⟩, hit, hne, hea, hai⟩ := st
    obtain ⟨xs, x, hq, hx⟩ := hg
    obtain ⟨its, rv, p, hz⟩ := I.tuple hq
    obtain ⟨u, hu, ru⟩ := rv.get hx
    have hel : e < s.heap.objs.size := Heap.lt_size he
    have hil : it < s.heap.objs.size := by obtain ⟨_, q, _⟩ := hit; exact Heap.lt_size q
    have hh := I.ok.hd hc
    have hlt : i < its.toArray.size := by
      have := (List.getElem?_eq_some_iff.mp hu).1
      simpa using this
    have D := PySem.Draws.tuple (prog := X.prog) (w := X.w) (A := X.A.in1) (by simp [hh]) it a hai its.toArray
    refine wpAny_pyNext_enum_itemD D he ⟨hit, p⟩ hlt hne (by simp [hne, hea]) fun x' h' tk hP ho hit' hT hsz hk => ?_
    have hxu : x' = u := by
      have : its[i]? = some x' := by simpa using hP
      rw [hu] at this
      exact (Option.some.inj this).symm
    subst hxu
    refine ⟨_, rfl, wpAny_letOwnedTupleGo_enum (s := { s with heap := h', toks := tk + 1 }) ho fun h'' he' sb => ?_⟩
    have hT2 : h''.get? s.heap.objs.size = some { cls := .type "tuple", data := .seq #[.int i tk, x'] } := (sb.2 _ (Nat.ne_of_gt hel)).trans hT
    have new : ObjOk X.prog X.w (upd H s.heap.objs.size (.tup [.int (i : Nat), x])) h'' s.heap.objs.size (.tup [.int (i : Nat), x]) :=
      ⟨by show 2 ≤ sizeLine; decide, [.int i tk, x'], .cons ⟨_, rfl⟩ (.cons ru .nil), ⟨_, hT2, rfl, _, rfl⟩⟩
    have I1 : Inv X pins σ (upd H s.heap.objs.size (.tup [.int (i : Nat), x])) { s with heap := h'', toks := tk + 1 } :=
      I.turnedNew (ch := [e, it]) (fun b ob hb q => (sb.2 b (fun z => hb (by simp [z]))).trans (hk b ob (fun z => hb (by simp [z])) (fun z => hb (by simp [z])) q)) hf (Nat.le_refl _) new
    refine ⟨.ref s.heap.objs.size, _, I1, rfl, ⟨_, x, rfl, I.hok.fresh (Nat.le_refl _), rfl, fun ys hy => by rw [I.tuple_inj hy hq]; exact hx⟩, ⟨⟨x', ?_⟩, hit'.1.at fun o q => (sb.2 it (Ne.symm hne)).trans q, hne, hea, hai⟩, fun b hb => ?_⟩
    · have e1 : ((i + 1 : Nat) : Int) = (i : Int) + 1 := by omega
      rw [e1]; exact he'
    · have hb' : b < s.heap.objs.size := by
        have e' : b = e ∨ b = it := by simpa using hb
        rcases e' with z | z
        · rw [z]; exact hel
        · rw [z]; exact hil
      rw [upd_ne (Nat.ne_of_lt hb')]
      exact (hf b hb).1
  done := by
    intro X hP hw hK hc i pins s σ H E I hf st hg
    subst hP hw hK
    obtain ⟨⟨old, he⟩, hit, hne, hea, hai⟩ := st
    obtain ⟨xs, hq, hx⟩ := hg
    obtain ⟨its, rv, p, hz⟩ := I.tuple hq
    obtain ⟨f0, f1, f2, f3, f4, f5⟩ := hf it (by simp)
    have hl := rv.length
    have hh := I.ok.hd hc
    have D : PySem.Draws X.prog X.w X.A.in1 it [it, a] 0 (fun _ _ => False) (fun j h => h.IsTupleIter it a (i + j) ∧ h.IsTuple a its.toArray) :=
      { live := fun _ _ st => let ⟨o, ho, _⟩ := st.1; ⟨o, ho⟩
        frame := fun _ _ _ st hk => ⟨st.1.at fun o e => hk it (by simp) o e, st.2.at fun o e => hk a (by simp) o e⟩
        item := fun j s Q E hi _ _ => absurd hi (Nat.not_lt_zero j)
        done := fun s Q E st hE => wpAny_nextOf_tuple_end (by simp [hh]) st.1 st.2 (by simp; omega) hE }
    exact wpAny_pyNext_enum_endD D he ⟨hit, p⟩ fun h' eb => ⟨rfl, I.turned (t' := s.toks) (fun b o hb q => eb b o hb q) f0 f1 f3 f4 f5⟩
  self := fun A i s Q E st h => let ⟨⟨_, he⟩, _⟩ := st; wpAny_pyIter_enum he h
def iEnumT (K : PySem.W.Frag) (ta : TA) : TI := fun σ H R => ta σ H fun vs H1 => ∃ a xs, vs = [.ref a] ∧ SqT K H1 a xs ∧ R (IteT K a) H1
theorem pi_enumT {X : Cx} {e : Expr} {ta : TA} {p pos tpos : Pos} {elts : List Expr} {kk : Nat} (hg : Gl X "enumerate") (hm : X.mg "enumerate" = none) (ha : PA X [e] ta) (hs : starEach [e] X.env = [(false, eval e X.env)] := by rfl) :
    PI X (.Tuple elts kk tpos) (.Call (.Name "enumerate" p) [e] [] pos) (iEnumT X.K ta) := by
  refine ⟨fun pins s σ H R I h => ?_⟩
  refine Call_ (ld_blt I hg hm boot_enumerate (PyProof.Rows.callWith_type1 (thn (ha.run pos pins s σ H _ I h) fun us s1 ⟨vs, H1, I1, r1, q1⟩ => ?_) hs rfl))
  obtain ⟨a, xs, ex, hq, q⟩ := q1
  subst ex
  cases r1 with
  | cons r rr =>
    cases rr
    cases r
    obtain ⟨its, rv, p', hz⟩ := I1.tuple hq
    have hal : a < s1.heap.objs.size := by obtain ⟨_, q, _⟩ := p'; exact Heap.lt_size q
    refine call_enumerate_tu (items := its.toArray) p' fun h' he hit hsz hk => wpAny_pyIter_enum he ?_
    have I2 : Inv X pins σ H1 { s1 with heap := h' } := I1.kept (t' := s1.toks) hk
    refine ⟨s1.heap.objs.size + 1, [s1.heap.objs.size + 1, s1.heap.objs.size], _, _, H1, rfl, I2, turn_enumT a (s1.heap.objs.size + 1) s1.heap.objs.size, ⟨⟨.none, he⟩, hit, Nat.succ_ne_self _, Nat.ne_of_gt (Nat.lt_succ_of_lt hal), Nat.ne_of_lt hal⟩, fun b hb => ?_, q⟩
    have e' : b = s1.heap.objs.size + 1 ∨ b = s1.heap.objs.size := by simpa using hb
    have hle : s1.heap.objs.size ≤ b := by
      rcases e' with z | z
      · rw [z]; exact Nat.le_add_right _ _
      · rw [z]; exact Nat.le_refl _
    exact I1.fpOk hle (I1.hok.fresh hle)
end L2
namespace Sq
open PySem PySem.Spec L2
def iEnT (a : Exs) : Src := fun s => do
  let (xs, s) ← a s
  match dat xs with
  | [.tuple ds] => .ok (enumD ds, s)
  | _ => .bad
section
variable {K : PySem.W.Frag} {Z : Zs} {H : Hp}
theorem it_enumT {p : Addr} {vs : List V} {ds : List PyData} (r : SqT K H p vs) (o : OwnAll K Z H 0 vs ds []) : ItOk K Z (IteT K p) (enumD ds) H := fun H' kp => by
  have r' : SqT K H' p vs := SqT.kp kp r
  have o' : OwnAll K Z H' 0 vs ds [] := OwnAll.keep ds o fun a ob e q => kp a ob e (q.imp (fun q => q.elim (fun q => (by cases q)) id) id)
  have l := OwnAll.len ds o
  refine ⟨fun i d e => ?_, fun i li => ⟨vs, r', l ▸ (show ds.length ≤ i from by simpa [enumD] using li)⟩⟩
  unfold enumD at e
  rw [List.getElem?_mapIdx] at e
  cases ed : ds[i]? with
  | none => rw [ed] at e; cases e
  | some d0 =>
    rw [ed] at e
    cases e
    obtain ⟨w, _, ew, _, _⟩ := OwnAll.get ds i o' ed
    refine ⟨⟨vs, w, r', ew⟩, fun x H2 ⟨T, y, e1, hn, e2, q⟩ => ?_⟩
    subst e1 e2
    exact ⟨two_tup hn int_own (itemL o' ed (q vs r')), .inr ⟨T, _, hn, rfl⟩⟩
end
theorem one_tup {K : PySem.W.Frag} {Z : Zs} {H : Hp} {vs : List V} {xs : List DV} {F : List Addr} {ds : List PyData} (o : OwnL K Z H vs xs F) (e : xs.map (·.1) = [.tuple ds]) : ∃ v k, vs = [v] ∧ Own K Z H k v (.tuple ds) F := by
  cases xs with
  | nil => cases e
  | cons x xs =>
    obtain ⟨e1, e2⟩ := List.cons.inj e
    have : xs = [] := by simpa using e2
    subst this
    obtain ⟨v, ev, ow⟩ := one_own o
    have e1' : x.1 = .tuple ds := e1
    rw [e1'] at ow
    exact ⟨v, x.2, ev, ow⟩
theorem Post.oneOfT {K : PySem.W.Frag} {Z Z1 : Zs} {H H1 : Hp} {Fs Fs1 : Fp} {σ : L2.St} {s1 : SD} {F : List Addr} {fv mv : List Nat} {vs : List V} {xs : List DV} {ds : List PyData} (p : Post K (PAll K vs xs) fv mv H Z Fs σ s1 H1 Z1 Fs1 F) (e : xs.map (·.1) = [.tuple ds]) : ∃ pa ws Z2, vs = [.ref pa] ∧ SqT K H1 pa ws ∧ OwnAll K (Zf Z2 Fs1 fv) H1 0 ws ds [] ∧ Post K PNone [] mv H Z Fs σ s1 H1 Z2 Fs1 [] := by
  obtain ⟨v, k, rfl, o⟩ := one_tup p.held.pr e
  have p1 : Post K (POne K v (.tuple ds, k)) fv mv H Z Fs σ s1 H1 Z1 Fs1 F := p.sub (List.Sublist.refl _) o
  obtain ⟨Z2, p2⟩ := p1.shareAll
  have o2 : Own K _ _ 0 v (.tuple ds) [] := p2.held.pr
  unfold Own at o2
  obtain ⟨pa, ws, rfl, r, o2⟩ := o2
  exact ⟨pa, ws, Z2, rfl, r, o2, p2.drop⟩
section
variable {X : Cx} {a : Expr} {p pos : Pos} {fv mv : List Nat} {io : List (Nat × Nat)} {fs : Exs}
theorem ri_enumT {elts : List Expr} {kk : Nat} {tpos : Pos} (hg : Gl X "enumerate") (hm : X.mg "enumerate" = none) (ha : PA X [a] (tA X.K fv mv io fs)) (hp : ∀ {ta : TA}, PA X [a] ta → PI X (.Tuple elts kk tpos) (.Call (.Name "enumerate" p) [a] [] pos) (iEnumT X.K ta)) : PI X (.Tuple elts kk tpos) (.Call (.Name "enumerate" p) [a] [] pos) (tI X.K fv mv (iEnT fs)) := by
  refine PI.of (hp ha) fun σ H R h => ?_
  obtain ⟨Z, s, Fs, ds, s', gd, e, q⟩ := h
  unfold iEnT at e
  obtain ⟨⟨xs, s1⟩, ea, e⟩ := Res.bind_eq_ok.mp e
  simp only at e
  split at e
  · next d0 ex =>
    cases e
    refine ⟨Z, s, Fs, _, _, gd, ea, fun vs H1 Z1 Fs1 F p _ => ?_⟩
    obtain ⟨pa, ws, Z2, rfl, r, o, p2⟩ := p.oneOfT ex
    exact ⟨pa, ws, rfl, r, q _ H1 Z2 Fs1 p2 (it_enumT r o)⟩
  · cases e
end
end Sq
end

section
namespace Sq
open PySem PySem.Spec L2
open Enc (enc hm wf hgt_le)
section
variable {σ : Type} [EnvE σ] {δ : List Nat} {a : Ex} {m : Nat}
/-- enumerate over a tuple of numbers of a table -/
def oIEnum (tab : List (Int × List Int)) (n : Int) : Res (List (Int × Int)) := match tab.lookup n with
  | some js => if js.length ≤ 1000000 then .ok (js.mapIdx fun i x => (((i : Nat) : Int), x)) else .bad
  | none => .bad
theorem li_enT {tab : List (Int × List Int)} {t : σ → Res Int} (h : LP δ m t a) : LI δ (p1 (oIEnum tab) t) (iEnT (eCons (ev1 (gIGet tab) a) eNil)) := fun v s r => by
  have e0 : iEnT (eCons (ev1 (gIGet tab) a) eNil) s = (a s >>= fun x => gIGet tab x.1 >>= fun z => match z.1 with | .tuple ds => Res.ok (enumD ds, x.2) | _ => .bad) := by
    unfold iEnT eCons ev1 eNil
    cases a s with
    | ok x =>
      cases h2 : gIGet tab x.1 with
      | ok z => simp [h2, dat]; cases z.1 <;> rfl
      | exc c p => simp [h2]
      | bad => simp [h2]
    | exc c p => rfl
    | bad => rfl
  rw [e0]
  refine (h v s r).bind fun x y p => ?_
  obtain ⟨p, q⟩ := p
  rw [p.eq]
  show Rt _ ((match tab.lookup x with | some js => Res.ok (PyData.tuple (js.map .int), 0) | none => .bad) >>= fun z => match z.1 with | .tuple ds => Res.ok (enumD ds, y.2) | _ => .bad) _
  unfold oIEnum
  cases tab.lookup x with
  | none => exact trivial
  | some js =>
    simp only
    split
    · next hl =>
      refine ⟨(enumD (js.map .int), y.2), rfl, ⟨by rw [List.length_mapIdx]; exact hl, fun z hz => ?_⟩, ?_, q⟩
      · obtain ⟨j, hj, rfl⟩ := List.mem_mapIdx.mp hz
        exact ⟨trivial, trivial⟩
      · unfold enumD
        show ((js.map PyData.int).mapIdx fun i d => PyData.tuple [.int (i : Nat), d]) = (js.mapIdx fun i x => ((i : Int), x)).map enc
        apply List.ext_getElem?
        intro j
        simp only [List.getElem?_mapIdx, List.getElem?_map]
        cases js[j]? <;> rfl
    · exact trivial
end
end Sq
end

section
/-! zip of two tuples -/
namespace Sq
open PySem PySem.Spec L2
def iZt (a : Exs) : Src := fun s => do
  let (xs, s) ← a s
  match dat xs with
  | [.tuple ds, .tuple es] => .ok (zipD ds es, s)
  | _ => .bad
section
variable {K : PySem.W.Frag} {Z : Zs} {H : Hp}
theorem it_zipT {p p2 : Addr} {vs ws : List V} {ds es : List PyData} (r : SqT K H p vs) (o : OwnAll K Z H 0 vs ds []) (r2 : SqT K H p2 ws) (o2 : OwnAll K Z H 0 ws es []) : ItOk K Z (RZ.ItzT K p p2) (zipD ds es) H := fun H' kp => by
  have r' : SqT K H' p vs := SqT.kp kp r
  have o' : OwnAll K Z H' 0 vs ds [] := OwnAll.keep ds o fun a ob e q => kp a ob e (q.imp (fun q => q.elim (fun q => (by cases q)) id) id)
  have r2' : SqT K H' p2 ws := SqT.kp kp r2
  have o2' : OwnAll K Z H' 0 ws es [] := OwnAll.keep es o2 fun a ob e q => kp a ob e (q.imp (fun q => q.elim (fun q => (by cases q)) id) id)
  have l := OwnAll.len ds o
  have l2 := OwnAll.len es o2
  refine ⟨fun i d e => ?_, fun i li => ⟨vs, ws, r', r2', by have : min ds.length es.length ≤ i := by simpa [zipD] using li
                                                            omega⟩⟩
  unfold zipD at e
  rw [List.getElem?_zipWith] at e
  cases ed : ds[i]? with
  | none => rw [ed] at e; cases e
  | some d0 =>
    cases ee : es[i]? with
    | none => rw [ed, ee] at e; cases e
    | some d1 =>
      rw [ed, ee] at e
      cases e
      obtain ⟨w, _, ew, _, _⟩ := OwnAll.get ds i o' ed
      obtain ⟨w2, _, ew2, _, _⟩ := OwnAll.get es i o2' ee
      refine ⟨⟨vs, ws, w, w2, r', r2', ew, ew2⟩, fun x H2 ⟨T, y, y2, e1, hn, e2, q, q2⟩ => ?_⟩
      subst e1 e2
      exact ⟨two_tup hn (itemL o' ed (q vs r')) (itemL o2' ee (q2 ws r2')), .inr ⟨T, _, hn, rfl⟩⟩
end
section
variable {X : Cx} {a b : Expr} {p pos : Pos} {fv mv : List Nat} {io : List (Nat × Nat)} {fs : Exs}
theorem ri_zipT {elts : List Expr} {kk : Nat} {tpos : Pos} (hg : Gl X "zip") (hm : X.mg "zip" = none) (ha : PA X [a, b] (tA X.K fv mv io fs)) (hp : ∀ {ta : TA}, PA X [a, b] ta → PI X (.Tuple elts kk tpos) (.Call (.Name "zip" p) [a, b] [] pos) (RZ.iZipA X.K ta)) : PI X (.Tuple elts kk tpos) (.Call (.Name "zip" p) [a, b] [] pos) (tI X.K fv mv (iZt fs)) := by
  refine PI.of (hp ha) fun σ H R h => ?_
  obtain ⟨Z, s, Fs, ds, s', gd, e, q⟩ := h
  unfold iZt at e
  obtain ⟨⟨xs, s1⟩, ea, e⟩ := Res.bind_eq_ok.mp e
  simp only at e
  split at e
  · next d0 d1 ex =>
    cases e
    refine ⟨Z, s, Fs, _, _, gd, ea, fun vs H1 Z1 Fs1 F p _ => ?_⟩
    obtain ⟨x, ys, rfl⟩ : ∃ x ys, xs = x :: ys := by
      cases xs with
      | nil => cases ex
      | cons x ys => exact ⟨x, ys, rfl⟩
    obtain ⟨e1, e2⟩ := List.cons.inj ex
    obtain ⟨y, rfl, e2'⟩ : ∃ y, ys = [y] ∧ y.1 = .tuple d1 := by
      cases ys with
      | nil => cases e2
      | cons y zs =>
        obtain ⟨e3, e4⟩ := List.cons.inj e2
        have : zs = [] := by simpa using e4
        subst this
        exact ⟨y, rfl, e3⟩
    obtain ⟨v, vs1, F1, F2, rfl, o1, o2, rfl⟩ := p.held.pr
    obtain ⟨w, rfl, o3⟩ := one_own o2
    have e1' : x.1 = .tuple d0 := e1
    rw [e1'] at o1
    rw [e2'] at o3
    obtain ⟨n1, n2, n3⟩ := List.nodup_append.mp p.held.nd
    obtain ⟨G1, t1, q1⟩ := Own.lower (j := 0) _ o1 n1 (Nat.zero_le _)
    obtain ⟨G2, t2, q2⟩ := Own.lower (j := 0) _ o3 n2 (Nat.zero_le _)
    have g1 : G1 = [] := Own.nil0 _ (q1 (fun _ => True) (fun _ _ => trivial) fun _ _ _ => trivial)
    have g2 : G2 = [] := Own.nil0 _ (q2 (fun _ => True) (fun _ _ => trivial) fun _ _ _ => trivial)
    subst g1 g2
    have p2 : Post X.K (fun Z H F => F = [] ∧ Own X.K Z H 0 v (.tuple d0) [] ∧ Own X.K Z H 0 w (.tuple d1) []) fv mv H Z Fs σ _ H1 (Zp Z1 (F1 ++ F2) []) Fs1 [] := p.shared (stb_all _ _ _) (List.nil_sublist _) ⟨rfl, q1 _ (fun a z => z.imp (fun z => .inl z) id) fun a ha hn => .inl (.inr ⟨List.mem_append_left _ ha, hn⟩), q2 _ (fun a z => z.imp (fun z => .inl z) id) fun a ha hn => .inl (.inr ⟨List.mem_append_right _ ha, hn⟩)⟩
    obtain ⟨_, oa, ob⟩ := p2.held.pr
    unfold Own at oa ob
    obtain ⟨pa, ws, rfl, r, oa⟩ := oa
    obtain ⟨pb, us, rfl, r2, ob⟩ := ob
    exact ⟨pa, pb, ws, us, rfl, .inr ⟨r, r2, q _ H1 _ Fs1 p2.drop (it_zipT r oa r2 ob)⟩⟩
  · cases e
end
section
open Enc (enc hm wf hgt_le)
variable {σ : Type} [EnvE σ] {δ : List Nat} {α : Type} [Enc α]
/-- zip of two triples of one kind -/
@[simp] def oZip3 : P3 α α α × P3 α α α × Unit → Res (List (α × α)) := fun p => .ok [(p.1.a, p.2.1.a), (p.1.b, p.2.1.b), (p.1.c, p.2.1.c)]
theorem li_z3 {ms : List Nat} {t : σ → Res (P3 α α α × P3 α α α × Unit)} {e : Exs} (h : LPs δ ms t e) : LI δ (pN oZip3 t) (iZt e) := fun v s r => (h v s r).bind fun x y p => by
  obtain ⟨ys, s1⟩ := y
  obtain ⟨⟨w, e, _⟩, rfl⟩ := p
  have w1 : wf x.1.a ∧ wf x.1.b ∧ wf x.1.c := w.1
  have w2 : wf x.2.1.a ∧ wf x.2.1.b ∧ wf x.2.1.c := w.2.1
  refine ⟨(zipD [enc x.1.a, enc x.1.b, enc x.1.c] [enc x.2.1.a, enc x.2.1.b, enc x.2.1.c], s1), ?_, ⟨by show 3 ≤ 1000000; decide, fun z hz => ?_⟩, rfl, rfl⟩
  · show (match dat ys with | [.tuple ds, .tuple es] => Res.ok (zipD ds es, s1) | _ => .bad) = _
    rw [show dat ys = [enc x.1, enc x.2.1] from e]
    rfl
  · simp only [List.mem_cons, List.not_mem_nil, or_false] at hz
    rcases hz with rfl | rfl | rfl
    · exact ⟨w1.1, w2.1⟩
    · exact ⟨w1.2.1, w2.2.1⟩
    · exact ⟨w1.2.2, w2.2.2⟩
end
end Sq
end

section
/-! len(set(tuples of numbers)), fewer than 64 -/
namespace Sq
open PySem PySem.Spec L2
/-- each one once -/
def ddT : List (List Int) → List (List Int)
  | [] => []
  | x :: xs => if x ∈ xs then ddT xs else x :: ddT xs
theorem ddT_mem {y : List Int} : ∀ {xs : List (List Int)}, y ∈ ddT xs ↔ y ∈ xs
  | [] => Iff.rfl
  | x :: xs => by
    unfold ddT
    split
    · next h =>
      rw [ddT_mem, List.mem_cons]
      exact ⟨.inr, fun q => q.elim (fun e => e ▸ h) id⟩
    · rw [List.mem_cons, List.mem_cons, ddT_mem]
theorem ddT_nodup : ∀ (xs : List (List Int)), (ddT xs).Nodup
  | [] => List.Pairwise.nil
  | x :: xs => by
    unfold ddT
    split
    · exact ddT_nodup xs
    · next h => exact List.nodup_cons.mpr ⟨fun q => h (ddT_mem.mp q), ddT_nodup xs⟩
theorem ddT_of_nodup : ∀ {xs : List (List Int)}, xs.Nodup → ddT xs = xs
  | [], _ => rfl
  | x :: xs, h => by
    obtain ⟨h1, h2⟩ := List.nodup_cons.mp h
    unfold ddT
    rw [if_neg h1, ddT_of_nodup h2]
def tupsD : List PyData → Option (List (List Int))
  | [] => some []
  | .tuple es :: ds => match intsD es with
    | some ns => match tupsD ds with
      | some ts => some (ns :: ts)
      | none => none
    | none => none
  | _ :: _ => none
def gLenSetT (xs : List DV) : Res DV := match xs with
  | [(.list ds, _)] => match tupsD ds with
    | some ts => if ts.length < 64 then .ok (.int ((ddT ts).length : Nat), 0) else .bad
    | none => .bad
  | _ => .bad
def rLenST (K : PySem.W.Frag) : List V → Hp → VK → Prop := fun vs H Q => ∃ (l : Addr) (ks : List (Addr × List Int)), vs = [.ref l] ∧ SqL K H l (ks.map fun p => V.ref p.1) ∧ (∀ p ∈ ks, SqT K H p.1 (p.2.map V.int)) ∧ ks.length < 64 ∧ Q (.int ((ddT (ks.map (·.2))).length : Nat)) H
def tLenST (K : PySem.W.Frag) (ta : TA) : TE := fun σ H Q => ta σ H fun vs H1 => rLenST K vs H1 Q
section
variable {X : Cx}
theorem pe_lenST {a : Expr} {ta : TA} {p p2 q pos : Pos} (hu : X.A.units + 65 < cLine) (hc : X.calm = true) (hg : Gl X "len") (hm : X.mg "len" = none) (hg2 : Gl X "set") (hm2 : X.mg "set" = none) (ha : PA X [a] ta)
    (na : starEach [a] X.env = (false, eval a X.env) :: starEach [] X.env) : PE X (.Call (.Name "len" p) [.Call (.Name "set" p2) [a] [] q] [] pos) (tLenST X.K ta) := by
  refine ⟨fun pins s σ H Q I h => ?_⟩
  refine PyProof.Rows.Call_ (ld_blt I hg hm PySem.boot_len (PyProof.Rows.callWith_builtin1 (PyProof.Rows.args_cons (PyProof.Rows.Call_ (ld_blt I hg2 hm2 PyProof.Rows.boot_set (PyProof.Rows.callWith_type1 ?_ na rfl))) rfl) rfl rfl))
  refine thn (ha.run q pins s σ H _ I h) fun us s1 ⟨vs, H1, I1, r1, q1⟩ => ?_
  obtain ⟨l, ks, rfl, hq, hk, hl, q1⟩ := q1
  rw [Vals.ref1 r1]
  obtain ⟨its, rv, pl, hz⟩ := I1.list hq
  refine call_set_tups (P := X.prog) (w := X.w) ks (I1.ok.hd hc) pl.isList (by simpa using refs_of_vals rv) (fun p hp => I1.isT (hk p hp)) hl (by omega) fun h' tk L es ep t R g k => PyProof.Rows.args_nil ?_
  have I2 : Inv X pins σ H1 { s1 with heap := h', toks := tk } := I1.kept k
  obtain ⟨o, ho, hex, hd⟩ := R.ob
  have e : L.length = (ddT (ks.map (·.2))).length := by
    have pm : (L.map (·.2)).Perm (ddT (ks.map (·.2))) := (List.perm_ext_iff_of_nodup R.nd (ddT_nodup _)).mpr fun x => by
      rw [ddT_mem]
      constructor
      · intro hx
        obtain ⟨p, hp, rfl⟩ := List.mem_map.mp hx
        exact List.mem_map.mpr ⟨p, List.mem_of_mem_take (g.sub p hp), rfl⟩
      · intro hx
        obtain ⟨p, hp, rfl⟩ := List.mem_map.mp hx
        exact g.all p (by rw [List.take_length]; exact hp)
    have := pm.length_eq
    rw [List.length_map] at this
    exact this
  have hsz : es.size = L.length := by
    have h := congrArg List.length R.rows
    unfold rowsOf at h
    rw [Array.length_toList, List.length_map] at h
    exact h
  have hfew := R.few
  have hft : t.fits es.size = true := SetTR.fits (s := { s1 with heap := h', toks := tk }) R
  refine call_len_set ho hex hd hft (by rw [hsz]; omega) ⟨.int ((ddT (ks.map (·.2))).length : Nat), H1, I2.tok _, ⟨_, by rw [hsz, e]⟩, q1⟩
end
section
variable {K : PySem.W.Frag} {Z : Zs} {H : Hp} {k : Nat}
theorem tupsD_own : ∀ {ds : List PyData} {ts : List (List Int)} {vs : List V} {F : List Addr}, tupsD ds = some ts → OwnAll K Z H k vs ds F → ∃ ks : List (Addr × List Int), vs = ks.map (fun p => V.ref p.1) ∧ (∀ p ∈ ks, SqT K H p.1 (p.2.map V.int)) ∧ ks.map (·.2) = ts
  | [], ts, vs, F, e, h => by
    cases e
    unfold OwnAll at h
    exact ⟨[], h.1, fun _ h => (by cases h), rfl⟩
  | d :: ds, ts, vs, F, e, h => by
    unfold OwnAll at h
    obtain ⟨v, vs', F1, F2, rfl, h1, h2, rfl⟩ := h
    cases d with
    | tuple es =>
      unfold tupsD at e
      cases e2 : intsD es with
      | none => rw [e2] at e; cases e
      | some ns =>
        rw [e2] at e
        cases e3 : tupsD ds with
        | none => rw [e3] at e; cases e
        | some tt =>
          rw [e3] at e
          cases e
          obtain ⟨ks, e4, e5, e6⟩ := tupsD_own e3 h2
          unfold Own at h1
          obtain ⟨pa, ws, rfl, r, o⟩ := h1
          rw [intsD_own e2 o] at r
          refine ⟨(pa, ns) :: ks, by rw [e4]; rfl, fun p hp => ?_, by rw [List.map_cons, e6]⟩
          rcases List.mem_cons.mp hp with rfl | hp
          · exact r
          · exact e5 p hp
    | _ => cases e
theorem ok_lenSetT : CallOk K (rLenST K) gLenSetT := by
  intro fv mv H Z Fs σ s' H1 Z1 Fs1 F vs xs z Q e p q
  unfold gLenSetT at e
  split at e
  · next ds kk =>
    cases eb : tupsD ds with
    | none => rw [eb] at e; cases e
    | some bs =>
      rw [eb] at e
      simp only at e
      split at e
      · next hl =>
        cases e
        obtain ⟨v, rfl, h1⟩ := one_own p.held.pr
        obtain ⟨l, ws, G, rfl, r1, o1, sb⟩ := h1.sub
        obtain ⟨ks, e1, e2, e3⟩ := tupsD_own eb o1
        rw [e1] at r1
        refine ⟨l, ks, rfl, .inl r1, e2, by rw [← e3, List.length_map] at hl; exact hl, ?_⟩
        rw [e3]
        exact q _ _ _ _ (p.sc int_own)
      · cases e
  · cases e
end
section
variable {X : Cx} {n : Nat} {e : Expr} {p p2 q pos : Pos} {fv mv : List Nat} {io : List (Nat × Nat)} {fs : Exs}
theorem xlenSetT (hr : Room n X.A) (hm : X.mg "len" = none) (hm2 : X.mg "set" = none) (ha : PA X [e] (tA X.K fv mv io fs)) (hc : X.calm = true := by rfl) (hg : Gl X "len" := by rfl) (hg2 : Gl X "set" := by rfl) (na : starEach [e] X.env = (false, eval e X.env) :: starEach [] X.env := by rfl) : PE X (.Call (.Name "len" p) [.Call (.Name "set" p2) [e] [] q] [] pos) (tE X.K fv mv (evN gLenSetT fs)) :=
  PE.of (pe_lenST (hu65 hr) hc hg hm hg2 hm2 ha na) fun σ H Q h => impN ok_lenSetT h
end
section
open Enc (enc hm wf hgt_le)
variable {ma : Nat}
def oLenSetP (x : List (Int × Int) × Unit) : Res Int := if x.1.length < 64 then .ok ((ddT (x.1.map fun p => [p.1, p.2])).length : Nat) else .bad
theorem tupsD_enc : ∀ (xs : List (Int × Int)), tupsD (xs.map enc) = some (xs.map fun p => [p.1, p.2])
  | [] => rfl
  | x :: xs => by
    show tupsD (.tuple [.int x.1, .int x.2] :: xs.map enc) = _
    unfold tupsD
    rw [tupsD_enc xs]
    rfl
theorem o_lenSetP : OpN [ma] 0 oLenSetP gLenSetT := fun x ys h => by
  obtain ⟨x, ⟨⟩⟩ := x
  obtain ⟨y, rfl, v⟩ := AR.one h
  rw [v.eq]
  show Rt _ (match tupsD (x.map enc) with | some ts => (if ts.length < 64 then Res.ok (PyData.int ((ddT ts).length : Nat), 0) else .bad) | none => .bad) _
  rw [tupsD_enc]
  unfold oLenSetP
  simp only [List.length_map]
  split
  · exact Rt.ok (VR.mk0 (x := (((ddT (x.map fun p => [p.1, p.2])).length : Nat) : Int)) trivial)
  · exact trivial
end
end Sq
end

section
/-! defs that may raise: what a statement does where it ends with an exception of a class told by a number -/
namespace Sq
open PySem PySem.Spec L2
/-- what is left of the heap behind an exception: all but what the slots mv own -/
structure TrH (mv : List Nat) (H : Hp) (Fs : Fp) (H' : Hp) : Prop where
  ev : ∀ a o, H a = some o → (∀ i ∈ mv, a ∉ Fs i) → H' a = some o
  dom : ∀ a, H' a = none → H a = none
/-- an exception leaves: only what the slots mv own may have changed -/
def EndX (mv : List Nat) (H : Hp) (Fs : Fp) (W : Hp → Prop) : Prop := ∀ H', TrH mv H Fs H' → W H'
/-- how a statement ends, an exception too -/
def EndR (K : PySem.W.Frag) (cl : Nat → Value) (E : XK) (asg mv : List Nat) (σ : L2.St) (H : Hp) (Z : Zs) (Fs : Fp) (D : Ends) : Res (Fl × SD) → Prop
  | .ok (fl, s') => EndS K asg mv σ H Z Fs s' D fl
  | .exc c _ => EndX mv H Fs (E (cl c) none)
  | .bad => False
/-- as tS; where f tells an exception, its class's wish -/
def tX (K : PySem.W.Frag) (cl : Nat → Value) (E : XK) (asg mv : List Nat) (f : Sx) : TS := fun D σ H => ∃ Z s Fs, Good K Z H σ s Fs ∧ EndR K cl E asg mv σ H Z Fs D (f s)
/-- a statement that is not meant to raise -/
def noX (f : Sx) : Sx := fun s => match f s with
  | .ok r => .ok r
  | _ => .bad
def sRaise (c : Nat) : Sx := fun _ => .exc c .none
section
variable {mv m1 m2 : List Nat} {H H1 : Hp} {Z Z1 : Zs} {Fs Fs1 : Fp} {W : Hp → Prop}
theorem Tr.back (p : Tr m1 H Z Fs H1 Z1 Fs1) {a : Addr} {o : HO} (e : H a = some o) (n : ∀ i ∈ m1 ++ m2, a ∉ Fs i) : ∀ i ∈ m2, a ∉ Fs1 i := fun i hi ha => by
  by_cases m : i ∈ m1
  · rcases p.fb i m a ha with q | ⟨j, hj, q⟩
    · rw [e] at q; cases q
    · exact n j (List.mem_append_left _ hj) q
  · rw [p.fo i m] at ha
    exact n i (List.mem_append_right _ hi) ha
theorem EndX.trans (p : Tr m1 H Z Fs H1 Z1 Fs1) (e : EndX (m1 ++ m2) H Fs W) : EndX m2 H1 Fs1 W := fun H' q => e H' ⟨fun a o ea n => q.ev a o (p.ev a o ea fun i hi => n i (List.mem_append_left _ hi)) (p.back ea n), fun a ea => p.dom a (q.dom a ea)⟩
theorem EndX.weak (e : EndX m2 H Fs W) (hm : ∀ i ∈ m1, i ∈ m2) : EndX m1 H Fs W := fun H' q => e H' ⟨fun a o ea n => q.ev a o ea fun i hi => n i (hm i hi), q.dom⟩
theorem EndX.here (e : EndX mv H Fs W) : W H := e H ⟨fun _ _ e _ => e, fun _ e => e⟩
end
section
variable {K : PySem.W.Frag} {cl : Nat → Value} {E : XK} {a1 a2 m1 m2 : List Nat} {σ σ1 : L2.St} {s1 : SD} {H H1 : Hp} {Z Z1 : Zs} {Fs Fs1 : Fp} {D : Ends}
theorem EndR.trans (p : PostS K a1 m1 σ H Z Fs σ1 s1 H1 Z1 Fs1) : ∀ {r : Res (Fl × SD)}, EndR K cl E (a1 ++ a2) (m1 ++ m2) σ H Z Fs D r → EndR K cl E a2 m2 σ1 H1 Z1 Fs1 D r
  | .ok (_, _), q => EndS.trans p q
  | .exc _ _, q => EndX.trans p.tr q
  | .bad, q => q.elim
theorem EndR.weak (ha : ∀ i ∈ a1, i ∈ a2) (hm : ∀ i ∈ m1, i ∈ m2) : ∀ {r : Res (Fl × SD)}, EndR K cl E a2 m2 σ H Z Fs D r → EndR K cl E a1 m1 σ H Z Fs D r
  | .ok (_, _), q => EndS.weak q ha hm
  | .exc _ _, q => EndX.weak q hm
  | .bad, q => q.elim
/-- if, its condition not meant to raise -/
def sIfX (c : Tst) (a b : Sx) : Sx := fun s => match c s with
  | .ok (t, s) => if t then a s else b s
  | _ => .bad
def loopX (b : Bd) (body : Sx) : List PyData → SD → Res (Fl × SD)
  | [], s => .ok (.next, s)
  | d :: ds, s => match b (d, 0) s with
    | .ok s => (match body s with
      | .ok (.next, s) => loopX b body ds s
      | .ok (.cont, s) => loopX b body ds s
      | .ok (.brk, s) => .ok (.next, s)
      | .ok (.ret x, s) => .ok (.ret x, s)
      | .exc c p => .exc c p
      | .bad => .bad)
    | _ => .bad
def sForX (b : Bd) (fv : List Nat) (it : Src) (body : Sx) : Sx := fun s => match it s with
  | .ok (ds, s) => loopX b body ds (demote fv s)
  | _ => .bad
end
section
variable {K : PySem.W.Frag} {cl : Nat → Value} {E : XK} {Z Z1 Z2 Z0 : Zs} {H H1 H2 H0 : Hp} {Fs Fs1 Fs2 Fs0 : Fp} {σ σ1 σ2 : L2.St} {s s' s1 s2 : SD} {fv mv asg tgs : List Nat}
/-- as loop_ok, with a body that may raise -/
theorem loop_okX {b : Bd} {body : Sx} {J : It} {ds : List PyData} {D : Ends} {aB mB : List Nat} (g0 : Good K Z0 H0 σ s Fs0) (ok : ItOk K Z0 J ds H0) (q0 : EndR K cl E (tgs ++ aB) (tgs ++ mB) σ H0 Z0 Fs0 D (loopX b body ds s)) :
    ∃ W : Nat → Nat → L2.St → Hp → Prop, (∃ m, W 0 m σ H0) ∧ ∀ i m σ H, W i m σ H →
      (J.stop i H ∧ D.nx σ H) ∨ (J.go i H ∧ ∃ N : L2.St → Hp → Prop, (∀ σ' H', N σ' H' → ∃ m', m' < m ∧ W (i + 1) m' σ' H') ∧ ∀ x H', J.yld i H x H' → tG K tgs b x σ H' fun σ2 H2 => tX K cl E aB mB body { D with nx := N, ct := N, bk := D.nx } σ2 H2) := by
  refine ⟨fun i m σ' H' => m = ds.length - i ∧ i ≤ ds.length ∧ ∃ Z' s' Fs', PostS K (tgs ++ aB) (tgs ++ mB) σ H0 Z0 Fs0 σ' s' H' Z' Fs' ∧ EndR K cl E (tgs ++ aB) (tgs ++ mB) σ H0 Z0 Fs0 D (loopX b body (ds.drop i) s'), ⟨ds.length, rfl, Nat.zero_le _, Z0, s, Fs0, ⟨Tr.refl _, g0, fun _ _ => rfl, rfl⟩, q0⟩, ?_⟩
  rintro i m σ1 H1 ⟨rfl, hi, Z1, s1, Fs1, p, ev⟩
  have kp := Kp.of g0 p.tr
  obtain ⟨go, stop⟩ := ok H1 kp
  by_cases lt : i < ds.length
  · have ed : ds[i]? = some ds[i] := List.getElem?_eq_getElem lt
    rw [List.drop_eq_getElem_cons lt] at ev
    unfold loopX at ev
    cases eb : b (ds[i], 0) s1 with
    | exc c p' => rw [eb] at ev; exact ev.elim
    | bad => rw [eb] at ev; exact ev.elim
    | ok s2 =>
      rw [eb] at ev
      simp only at ev
      obtain ⟨hgo, yl⟩ := go i _ ed
      refine .inr ⟨hgo, fun σ' H' => ds.length - (i + 1) = ds.length - (i + 1) ∧ i + 1 ≤ ds.length ∧ ∃ Z' s' Fs', PostS K (tgs ++ aB) (tgs ++ mB) σ H0 Z0 Fs0 σ' s' H' Z' Fs' ∧ EndR K cl E (tgs ++ aB) (tgs ++ mB) σ H0 Z0 Fs0 D (loopX b body (ds.drop (i + 1)) s'), fun σ' H' h => ⟨ds.length - (i + 1), by omega, h⟩, fun x H' y => ?_⟩
      obtain ⟨ow, ex⟩ := yl x H' y
      have g1 := p.good.ext ex
      refine ⟨Z1, s1, Fs1, (ds[i], 0), s2, [], g1, held0 (Own.zmono _ ow p.tr.zm), eb, fun σ2 Fs2 pg => ?_⟩
      have p1 : PostS K (tgs ++ aB) (tgs ++ mB) σ H0 Z0 Fs0 σ2 s2 H' Z1 Fs2 := by
        have := bound (b := b) (d := ds[i]) (v := x) (⟨p.tr.ext ex, g1, p.st, p.ln⟩ : PostS K (tgs ++ aB) (tgs ++ mB) σ H0 Z0 Fs0 σ1 s1 H' Z1 Fs1) pg
        exact this.weak (fun j hj => (List.mem_append.mp hj).elim id fun h => List.mem_append_left _ h) (fun j hj => (List.mem_append.mp hj).elim id fun h => List.mem_append_left _ h)
      have glue : ∀ {σ3 : L2.St} {s3 : SD} {H3 : Hp} {Z3 : Zs} {Fs3 : Fp}, PostS K aB mB σ2 H' Z1 Fs2 σ3 s3 H3 Z3 Fs3 → PostS K (tgs ++ aB) (tgs ++ mB) σ H0 Z0 Fs0 σ3 s3 H3 Z3 Fs3 := fun q => (p1.trans q).weak (fun j h => app4 h) (fun j h => app4 h)
      refine ⟨Z1, s2, Fs2, p1.good, ?_⟩
      cases eB : body s2 with
      | bad => rw [eB] at ev; exact ev.elim
      | exc c p' =>
        rw [eB] at ev
        have ev' : EndX (tgs ++ mB) H0 Fs0 (E (cl c) none) := ev
        exact EndX.trans p1.tr (ev'.weak fun j h => app4 h)
      | ok r =>
        obtain ⟨fl1, s3⟩ := r
        rw [eB] at ev
        cases fl1 with
        | next => exact fun σ3 H3 Z3 Fs3 q => ⟨rfl, lt, Z3, s3, Fs3, glue q, ev⟩
        | cont => exact fun σ3 H3 Z3 Fs3 q => ⟨rfl, lt, Z3, s3, Fs3, glue q, ev⟩
        | brk =>
          have ev' : ∀ σ' H' Z' Fs', PostS K (tgs ++ aB) (tgs ++ mB) σ H0 Z0 Fs0 σ' s3 H' Z' Fs' → D.nx σ' H' := ev
          exact fun σ3 H3 Z3 Fs3 q => ev' σ3 H3 Z3 Fs3 (glue q)
        | ret x =>
          have ev' : EndS K (tgs ++ aB) (tgs ++ mB) σ H0 Z0 Fs0 s3 D (.ret x) := ev
          refine fun v σ3 H3 Z3 Fs3 F q h n => ev' v σ3 H3 Z3 Fs3 F (glue q) h fun a ha => ?_
          exact (newBack p1.tr (n a ha)).imp id fun ⟨j, hj, z⟩ => ⟨j, app4 hj, z⟩
  · have e : i = ds.length := by omega
    subst e
    rw [List.drop_length] at ev
    have ev' : ∀ σ' H' Z' Fs', PostS K (tgs ++ aB) (tgs ++ mB) σ H0 Z0 Fs0 σ' s1 H' Z' Fs' → D.nx σ' H' := ev
    exact .inl ⟨stop _ (Nat.le_refl _), ev' σ1 H1 Z1 Fs1 p⟩
end
section
variable {X : Cx} {cl : Nat → Value} {E : XK} {pos : Pos} {mv asg a1 a2 m1 m2 : List Nat} {st : Stmt} {sts : List Stmt} {f f1 f2 : Sx} {c : Tst}
theorem rx_lift (h : PS X st (tS X.K asg mv f)) : PS X st (tX X.K cl E asg mv (noX f)) := by
  refine PS.of h fun D σ H h => ?_
  obtain ⟨Z, s, Fs, gd, q⟩ := h
  unfold noX at q
  cases e : f s with
  | ok r => rw [e] at q; exact ⟨Z, s, Fs, r.1, r.2, gd, e, q⟩
  | exc c p => rw [e] at q; exact q.elim
  | bad => rw [e] at q; exact q.elim
theorem rx_lifts (h : PSs X sts (tS X.K asg mv f)) : PSs X sts (tX X.K cl E asg mv (noX f)) := by
  refine PSs.of h fun D σ H h => ?_
  obtain ⟨Z, s, Fs, gd, q⟩ := h
  unfold noX at q
  cases e : f s with
  | ok r => rw [e] at q; exact ⟨Z, s, Fs, r.1, r.2, gd, e, q⟩
  | exc c p => rw [e] at q; exact q.elim
  | bad => rw [e] at q; exact q.elim
theorem rx_one (h1 : PS X st (tX X.K cl E a1 m1 f1)) : PSs X [st] (tX X.K cl E a1 m1 f1) := pss_one h1
theorem rx_cons (h1 : PS X st (tX X.K cl E a1 m1 f1)) (h2 : PSs X sts (tX X.K cl E a2 m2 f2)) : PSs X (st :: sts) (tX X.K cl E (a1 ++ a2) (m1 ++ m2) (sSeq f1 f2)) := by
  refine PSs.of (pss_cons h1 h2) fun D σ H h => ?_
  obtain ⟨Z, s, Fs, gd, q⟩ := h
  refine ⟨Z, s, Fs, gd, ?_⟩
  unfold sSeq at q
  cases e1 : f1 s with
  | bad => rw [e1] at q; exact q.elim
  | exc c p =>
    rw [e1] at q
    exact EndX.weak (m1 := m1) (m2 := m1 ++ m2) q fun i hi => List.mem_append_left _ hi
  | ok r =>
    obtain ⟨fl1, s1⟩ := r
    rw [e1, Res.bind_ok] at q
    cases fl1 with
    | next => exact fun σ1 H1 Z1 Fs1 p => ⟨Z1, s1, Fs1, p.good, EndR.trans p q⟩
    | brk => exact EndS.weak (fl := .brk) q (fun i hi => List.mem_append_left _ hi) (fun i hi => List.mem_append_left _ hi)
    | cont => exact EndS.weak (fl := .cont) q (fun i hi => List.mem_append_left _ hi) (fun i hi => List.mem_append_left _ hi)
    | ret x => exact EndS.weak (fl := .ret x) q (fun i hi => List.mem_append_left _ hi) (fun i hi => List.mem_append_left _ hi)
theorem rx_if {ce : Expr} {a b : List Stmt} {mc : List Nat} (hc : PT X ce (tT X.K mc c)) (ha : PSs X a (tX X.K cl E a1 m1 f1)) (hb : PSs X b (tX X.K cl E a2 m2 f2)) : PS X (.If ce a b pos) (tX X.K cl E (a1 ++ a2) (mc ++ (m1 ++ m2)) (sIfX c f1 f2)) := by
  refine PS.of (ps_if hc ha hb) fun D σ H h => ?_
  obtain ⟨Z, s, Fs, gd, q⟩ := h
  unfold sIfX at q
  cases ec : c s with
  | bad => rw [ec] at q; exact q.elim
  | exc c p => rw [ec] at q; exact q.elim
  | ok r =>
    obtain ⟨t, s1⟩ := r
    rw [ec] at q
    refine ⟨Z, s, Fs, t, s1, gd, ec, fun H1 Z1 Fs1 p => ?_⟩
    have q' := EndR.trans (a1 := []) (a2 := a1 ++ a2) p.stm q
    cases t with
    | true =>
      show if true = true then _ else _
      rw [if_pos rfl]
      exact ⟨Z1, s1, Fs1, p.good, q'.weak (fun i hi => List.mem_append_left _ hi) (fun i hi => List.mem_append_left _ hi)⟩
    | false =>
      show if false = true then _ else _
      rw [if_neg Bool.false_ne_true]
      exact ⟨Z1, s1, Fs1, p.good, q'.weak (fun i hi => List.mem_append_right _ hi) (fun i hi => List.mem_append_right _ hi)⟩
theorem rx_for {tg iter : Expr} {fv tgs aB mB : List Nat} {b : Bd} {it : Src} {body : Sx} (hp : PassesOwn (model X.prog X.w) X.A X.env X.xe) (hc : X.calm = true) (hi : PI X tg iter (tI X.K fv mv it)) (hg : PG X tg (tG X.K tgs b)) (hb : PSs X sts (tX X.K cl E aB mB body)) (hs : ∀ x, foldedSetIterable iter X.env x = pure x := by intro _; rfl) :
    PS X (.For tg iter sts [] pos) (tX X.K cl E (tgs ++ aB) ((mv ++ fv) ++ (tgs ++ mB)) (sForX b fv it body)) := by
  refine PS.of (ps_for hp hc hi hg hb hs) fun D σ H h => ?_
  obtain ⟨Z, s, Fs, gd, q⟩ := h
  unfold sForX at q
  cases ei : it s with
  | bad => rw [ei] at q; exact q.elim
  | exc c p => rw [ei] at q; exact q.elim
  | ok r =>
    obtain ⟨ds, s1⟩ := r
    rw [ei] at q
    refine ⟨Z, s, Fs, ds, s1, gd, ei, fun J H1 Z1 Fs1 p ok => ?_⟩
    have pd : PostS X.K [] (mv ++ fv) σ H Z Fs σ (demote fv s1) H1 (Zf Z1 Fs1 fv) (fun i => if i ∈ fv then [] else Fs1 i) := ⟨p.tr.trans (Tr.demote fv) (fun i hi => List.mem_append_left _ hi) (fun i hi => List.mem_append_right _ hi), p.good.demote fv, fun _ _ => rfl, rfl⟩
    exact loop_okX pd.good ok (EndR.trans (a1 := []) pd q)
theorem rx_raise {e : Expr} {k : Nat} (hc : X.calm = true) (tk : Takes X fun cls d _ H => E cls d H) (he : PMk X e fun σ H Q => Q (cl k) none H) : PS X (.Raise (some e) none pos) (tX X.K cl E [] [] (sRaise k)) := by
  refine PS.of (ps_raise hc tk he) fun D σ H h => ?_
  obtain ⟨Z, s, Fs, gd, q⟩ := h
  exact EndX.here q
end
end Sq
end

section
/-! defs that may raise, and calls of them -/
namespace Sq
open PySem PySem.Spec L2 PyProof.Rows
/-- as FnG, for a def that may raise -/
structure FnGX (P : Program) (w : World) (K : PySem.W.Frag) (mg : Str → Option Value) (base : Heap) (k : Nat) (f : Addr) (fd : FuncData) (ps : List Str) (sp : Sp) : Prop where
  len : ∀ vs H Q E, sp vs H Q E → vs.length = ps.length
  run : ∀ (A : Around) (ou : List Env) (t : Shared) (H : Hp) (us : List Value) (vs : List V) (Q : VK) (E : XK), RoomG k A → Env0 P w K mg base A ou t H → BindsTo t fd ⟨us, []⟩ (ps.zip us) → Vals vs us → sp vs H Q E → codeAny (model P w) A (.call (.ref f) ⟨us, []⟩) (CR (L2.CX P w) ou P w H t Q E) t
/-- the promise of a def that may raise -/
def spX (K : PySem.W.Frag) (cl : Nat → Value) (n : Nat) (g : Fn) : Sp := fun vs H Q E => vs.length = n ∧ ∃ Z ds Fa, ds.length = n ∧ Good K Z H (vs.map some) (ds.map some) Fa ∧ match g ds with
  | .ok (z, fin) => ∀ v H' Z' Fa' F, Post K (POne K v z) [] (List.range n) H Z Fa (vs.map some) fin H' Z' Fa' F → Q v H'
  | .exc c _ => EndX (List.range n) H Fa (E (cl c) none)
  | .bad => False
section
variable {X : Cx} {k : Nat} {f : Addr} {fd : FuncData} {ps : List Str} {sp : Sp} {E : XK} {x : Str} {p pos : Pos} {e : Expr} {es : List Expr} {ta : TA}
theorem goGX {pn : List (Addr × Obj)} {σ₁ : L2.St} {h₁ : Hp} {t : Shared} {R : VK} {us : List Value} {vs : List V} (F : FnGX X.prog X.w X.K X.mg X.base k f fd ps sp) (hr : RoomG k X.A) (hb : Binds X.K fd ps []) (hx : Passes (L2.CX X.prog X.w) X E) (J : Inv X pn σ₁ h₁ t) (r : Vals vs us) (z : sp vs h₁ R E) : wpAny (model X.prog X.w) X.A (call (.ref f) us) (EP X pn σ₁ R) X.xe t := by
  have n1 : us.length = ps.length := r.length.symm.trans (F.len _ _ _ _ z)
  have b1 := hb t us J.kIn (by rw [List.append_nil]; exact n1)
  rw [List.append_nil] at b1
  exact wpAny_call (codeAny_mono (F.run X.A X.stack t h₁ us vs R E hr J.env0 b1 r z) fun y t' hy => by
    match y, hy with
    | .ok (.ret u), hy => exact J.after hy
    | .ok .next, hy => exact hy.elim
    | .ok .brk, hy => exact hy.elim
    | .ok .cont, hy => exact hy.elim
    | .error e, hy => exact hx _ _ _ _ _ _ J hy)
theorem pe_callGX (F : FnGX X.prog X.w X.K X.mg X.base k f fd ps sp) (hr : RoomG k X.A) (hg : Gl X x) (hm : X.mg x = some (.ref f)) (hk : PySem.W.keepIn X.K (.ref f) = true) (hb : Binds X.K fd ps []) (hx : Passes (L2.CX X.prog X.w) X E) (ha : PA X (e :: es) ta)
    (hdb : (x == ("__debug__" : Str)) = false := by decide) (he : starEach (e :: es) X.env = (false, eval e X.env) :: starEach es X.env := by rfl) (hpl : (backTo pos (starEach es X.env)).any (·.1) = false := by rfl) :
    PE X (.Call (.Name x p) (e :: es) [] pos) (tCall sp [] E ta) :=
  ⟨fun pn t σ₁ h₁ R J z => wpAny_Call_Name_kw (ld_glob J hg hm (PySem.W.callWith_K (h₀ := X.base) J.ok.mod.kin hk (thn (ha.run pos pn t σ₁ h₁ _ J z) fun us t1 q => by
    obtain ⟨vs, h2, J2, r, z2⟩ := q
    rw [List.append_nil] at z2
    exact ⟨J2.kIn, goGX F hr hb hx J2 r z2⟩) he hpl) hdb)⟩
end
theorem fn_ofGX {P : Program} {w : World} {K : PySem.W.Frag} {mg : Str → Option Value} {base : Heap} {k : Nat} {f : Addr} {nm ql : Str} {pr : Arguments} {bd : List Stmt} {sc : Scope} {N ps : List Str} {sp : Sp} {fd : FuncData} (F : FunD K nm ql pr bd sc [] [] f fd) (S : FnScope N ps sc) (len : ∀ vs H Q E, sp vs H Q E → vs.length = ps.length)
    (hbd : ∀ (cv : Value) (A : Around) (ou : List Env) (t : Shared) (H : Hp) (vs : List V) (Q : VK) (E : XK), RoomG k (A.deeper (envOfC ql sc t.heap.objs.size f cv)) → sp vs H Q E → ∃ z, PSs (cxOf (L2.CX P w) P w K mg base N ql sc f cv A ou t H E) bd z ∧ z { nx := fun _ H' => Q .non H', rt := Q } (start N vs) H) : FnGX P w K mg base (k + 1) f fd ps sp := by
  obtain ⟨oc, od, dV, kV, dc, pm, an, cv, ct, ol, rfl, lk, hc, _, _⟩ := F.ex
  refine ⟨len, fun A ou t H us vs Q E hr e0 hb r hs => ?_⟩
  have up := fun b o (e : base.get? b = some o) => (e0.bs b o e).1
  have KX : K.In t.heap := e0.mod.kin.keeps up
  have lm : t.heap.NoLimit := e0.mod.nolimit.keeps up
  refine codeAny_call_function hr.r.depth (KX _ _ lk) rfl S.co S.gen rfl (PySem.W.codeRec_of KX hc) (hb _ _ _ _ (wpAny_newFunctionEnv_cells S.kind (fun ⟨n, v⟩ hy => ?_) fun env he t1 x => ?_))
  · exact (S.par n (List.of_mem_zip hy).1).imp id fun q => ⟨q, PySem.W.cellsFrom_some _ _ _ (.inl q)⟩
  · subst he
    obtain ⟨z, hz, hq⟩ := hbd cv A ou t H vs Q E ⟨hr.r.deeper _, hr.g⟩ hs
    have J : Inv (cxOf (L2.CX P w) P w K mg base N ql sc f cv A ou t H E) [] (start N vs) H t1 := inv_start S hr.r.hd e0 (len _ _ _ _ hs) r x
    refine ⟨lm.keeps x.toInCall.keep, codeAny_func (wpAny_mono (hz.run [] t1 (start N vs) H _ J hq) (fun fl t' h => ?_) fun _ _ h => h)⟩
    match fl, h with
    | .ret u, ⟨v, σ', H', J', rv, q⟩ => exact ⟨v, H', J'.os, J'.bare, J'.base, J'.hok, rv, q⟩
    | .next, ⟨σ', H', J', q⟩ => exact ⟨V.non, H', J'.os, J'.bare, J'.base, J'.hok, rfl, q⟩
    | .brk, ⟨_, _, _, q⟩ => exact q.elim
    | .cont, ⟨_, _, _, q⟩ => exact q.elim
/-- what the body must do, from what the def promises -/
theorem def_okX {K : PySem.W.Frag} {cl : Nat → Value} {n np : Nat} {asg mv : List Nat} {body : Sx} {vs : List V} {H : Hp} {Q : VK} {E : XK} (h : spX K cl np (defn n np asg body) vs H Q E) :
    tX K cl E asg mv body { nx := fun _ H' => Q .non H', rt := Q } (vs.map some ++ List.replicate (n - vs.length) none) H := by
  obtain ⟨hl, Z, ds, Fa, hds, g, q⟩ := h
  cases ed : defn n np asg body ds with
  | bad => rw [ed] at q; exact q.elim
  | ok r =>
    obtain ⟨z, fin⟩ := r
    rw [ed] at q
    obtain ⟨Z', s, Fs, fl, s', gd, e, en⟩ := def_ok (mv := mv) (E := E) (⟨hl, Z, ds, Fa, z, fin, g, ed, q⟩ : spF K np (defn n np asg body) vs H Q E) fun _ _ => .inr trivial
    refine ⟨Z', s, Fs, gd, ?_⟩
    rw [e]
    exact en
  | exc c p =>
    rw [ed] at q
    let Fb : Fp := fun i => if i < np then Fa i else []
    have sub : ∀ {i : Nat} {a : Addr}, a ∈ Fb i → i < np ∧ a ∈ Fa i := fun {i a} ha => by
      have ha' : a ∈ (if i < np then Fa i else []) := ha
      by_cases lt : i < np
      · rw [if_pos lt] at ha'; exact ⟨lt, ha'⟩
      · rw [if_neg lt] at ha'; cases ha'
    have g0 : Good K Z H (vs.map some) (ds.map some) Fb := by
      refine ⟨g.len, fun i d k e => ?_, fun i => ?_, fun i j ne a ha hb => g.dj i j ne a (sub ha).2 (sub hb).2, fun i a ha => g.nz i a (sub ha).2, fun i a ha => g.isl i a (sub ha).2, g.zt⟩
      · have lt : i < np := by
          have := List.getElem?_eq_some_iff.mp e
          obtain ⟨h1, _⟩ := this
          simp at h1
          omega
        obtain ⟨v, ev, ow⟩ := g.own i d k e
        exact ⟨v, ev, by show Own K Z H k v d (if i < np then Fa i else []); rw [if_pos lt]; exact ow⟩
      · show (if i < np then Fa i else []).Nodup
        by_cases lt : i < np
        · rw [if_pos lt]; exact g.nd i
        · rw [if_neg lt]; exact List.nodup_nil
    refine ⟨Z, start1 n ds, Fb, start_good n g0, ?_⟩
    unfold defn at ed
    rw [if_pos hds] at ed
    have eb : ∃ p', body (start1 n ds) = .exc c p' := by
      cases eb : body (start1 n ds) with
      | ok r =>
        obtain ⟨fl, s⟩ := r
        rw [eb] at ed
        cases fl <;> cases ed
      | exc c' p' =>
        rw [eb] at ed
        cases ed
        exact ⟨_, rfl⟩
      | bad => rw [eb] at ed; cases ed
    obtain ⟨p', eb⟩ := eb
    rw [eb]
    exact fun H' t => q H' ⟨fun a o e nn => t.ev a o e fun i hi ha => nn i (List.mem_range.mpr (sub ha).1) (sub ha).2, t.dom⟩
end Sq
end

section
/-! a call of a def that may raise, as a statement; the step of such a def -/
namespace Sq
open PySem PySem.Spec L2 PyProof.Rows
def sDoX (g : Fn) (back : List (Nat × Nat)) (fs : Exs) : Sx := fun s => match fs s with
  | .ok (xs, s1) => (match g xs with
    | .ok (_, fin) => .ok (.next, putBack fin back s1)
    | .exc c p => .exc c p
    | .bad => .bad)
  | _ => .bad
theorem defn_bad {n np : Nat} {asg : List Nat} {body : Sx} {xs : List DV} (h : xs.length ≠ np) : defn n np asg body xs = .bad := by
  unfold defn
  rw [if_neg h]
section
variable {K : PySem.W.Frag} {cl : Nat → Value} {Z Z1 : Zs} {H H1 : Hp} {Fs Fs1 : Fp} {σ : L2.St} {s1 : SD} {F : List Addr} {fv mv : List Nat}
theorem call_exc {vs : List V} {xs : List DV} {g : Fn} {c n : Nat} {pd : PyData} {Q : VK} {E : XK} (p : Post K (PAll K vs xs) fv mv H Z Fs σ s1 H1 Z1 Fs1 F) (hn : xs.length = n) (eg : g xs = .exc c pd) (q : EndX mv H Fs (E (cl c) none)) : spX K cl n g vs H1 Q E := by
  have hlen : vs.length = xs.length := OwnL.len p.held.pr
  obtain ⟨Fa, a1, a2, a3, a4⟩ := OwnL.each p.held.pr p.held.nd
  have aF : ∀ {j : Nat} {a : Addr}, a ∈ Fa j → a ∈ F := fun h => (a2 _).subset h
  have trF : ∀ a ∈ F, ∃ o, H1 a = some o ∧ Chg o := fun a ha => OwnL.isl p.held.pr a ha
  refine ⟨hlen.trans hn, Zf Z1 Fs1 fv, xs, Fa, hn, ⟨by simp [hlen], fun i d k e => ?_, fun i => p.held.nd.sublist (a2 i), a3, fun i a ha z => ?_, fun i a ha => trF a (aF ha), fun a z => ?_⟩, ?_⟩
  · rw [List.getElem?_map] at e
    cases q : xs[i]? with
    | none => rw [q] at e; cases e
    | some y =>
      rw [q] at e
      have e' : y = (d, k) := Option.some.inj (Option.some.inj e)
      rw [e'] at q
      obtain ⟨w, e1, ow⟩ := a1 i d k q
      exact ⟨w, by rw [List.getElem?_map, e1]; rfl, ow⟩
  · rcases z with z | ⟨j, _, z⟩
    · exact p.held.nz a (aF ha) z
    · exact p.held.nf a (aF ha) j z
  · rcases z with z | ⟨j, _, z⟩
    · exact p.good.zt a z
    · obtain ⟨o, e, _⟩ := p.good.isl j a z; exact ⟨o, e⟩
  · rw [eg]
    exact fun H2 t => q H2 ⟨fun a o e nm => t.ev a o (p.tr.ev a o e nm) fun i _ ha => by
      rcases p.new a (aF ha) with z | ⟨i, hi, z⟩
      · rw [e] at z; cases z
      · exact nm i hi z, fun a e => p.tr.dom a (t.dom a e)⟩
end
section
variable {X : Cx} {cl : Nat → Value} {e : Expr} {es : List Expr} {pos p : Pos} {fv mv : List Nat} {io : List (Nat × Nat)} {fs : Exs} {E : XK}
theorem rx_do {k n : Nat} {f : Addr} {fd : FuncData} {ps : List Str} {x : Str} {g : Fn} (F : FnGX X.prog X.w X.K X.mg X.base k f fd ps (spX X.K cl n g)) (hr : RoomG k X.A) (hg : Gl X x) (hm : X.mg x = some (.ref f)) (hk : PySem.W.keepIn X.K (.ref f) = true) (hb : Binds X.K fd ps []) (tk : Takes X fun cls d _ H => E cls d H)
    (hn : ∀ xs, xs.length ≠ n → g xs = .bad) (back : List (Nat × Nat)) (ha : PA X (e :: es) (tA X.K fv mv io fs)) (hbk : backOk fv mv io back = true := by rfl) (hdb : (x == ("__debug__" : Str)) = false := by decide) (he : starEach (e :: es) X.env = (false, eval e X.env) :: starEach es X.env := by rfl) (hpl : (backTo pos (starEach es X.env)).any (·.1) = false := by rfl)
    (hs : swapsWith (.Call (.Name x p) (e :: es) [] pos) none pos.line X.env = pure false := by rfl) :
    PS X (.Expr (.Call (.Name x p) (e :: es) [] pos) pos) (tX X.K cl E [] mv (sDoX g back fs)) := by
  refine PS.of (ps_expr (pe_callGX (E := E) F hr hg hm hk hb (passes_call tk fun _ _ _ _ h => h) ha hdb he hpl) hs) fun D σ H h => ?_
  obtain ⟨Z, s, Fs, gd, q⟩ := h
  unfold sDoX at q
  cases ef : fs s with
  | bad => rw [ef] at q; exact q.elim
  | exc c p => rw [ef] at q; exact q.elim
  | ok r =>
    obtain ⟨xs, s1⟩ := r
    rw [ef] at q
    refine ⟨Z, s, Fs, xs, s1, gd, ef, fun vs H1 Z1 Fs1 F p ok => ?_⟩
    show spX X.K cl n g (vs ++ []) H1 _ E
    rw [List.append_nil]
    have hl : g xs ≠ .bad → xs.length = n := fun nb => Classical.byContradiction fun z => nb (hn xs z)
    cases eg : g xs with
    | bad => simp only [eg] at q; exact q.elim
    | exc c pd =>
      simp only [eg] at q
      exact call_exc p (hl (by rw [eg]; intro z; cases z)) eg q
    | ok r =>
      obtain ⟨z, fin⟩ := r
      simp only [eg] at q
      have q' : ∀ σ' H' Z' Fs', PostS X.K [] mv σ H Z Fs σ' (putBack fin back s1) H' Z' Fs' → D.nx σ' H' := q
      obtain ⟨h1, Zc, ds, Fa, z', fin', gd', eg', post⟩ := call_post (E := E) (Q := fun _ H' => D.nx σ H') p ok hbk (hl (by rw [eg]; intro z; cases z)) eg fun v H' Z' Fs' F' P => q' _ _ _ _ P.stm
      have hds : ds.length = n := Classical.byContradiction fun z => by rw [hn ds z] at eg'; cases eg'
      refine ⟨h1, Zc, ds, Fa, hds, gd', ?_⟩
      rw [eg']
      exact post
end
theorem tX_weak {K : PySem.W.Frag} {cl : Nat → Value} {E : XK} {a1 a2 m : List Nat} {f : Sx} {D : Ends} {σ : L2.St} {H : Hp} (h : ∀ i ∈ a1, i ∈ a2) (t : tX K cl E a2 m f D σ H) : tX K cl E a1 m f D σ H :=
  let ⟨Z, s, Fs, gd, q⟩ := t
  ⟨Z, s, Fs, gd, q.weak h fun _ h => h⟩
theorem fn_stepGX {P : Program} {w : World} {K : PySem.W.Frag} {mg : Str → Option Value} {base : Heap} {x : Str} {st : Stmt} {f : Addr} {fd : FuncData} {N ps : List Str} {k n np : Nat} {asg : List Nat} {body : Sx} {cl : Nat → Value} (F : FnP K x st f fd) (S : FnScope N ps (defScope st)) (hN : N.length = n) (hp : ps.length = np)
    (hb : ∀ (cdv : Value) (A : Around) (outer : List Env) (s : Shared) (H : Hp) (E : XK), RoomG k (A.deeper (PyProof.Rows.envOfC x (defScope st) s.heap.objs.size f cdv)) →
      ∃ a m, PSs (cxOf (L2.CX P w) P w K mg base N x (defScope st) f cdv A outer s H E) (defBody st) (tX K cl E a m body) ∧ subs a asg = true) : FnGX P w K mg base (k + 1) f fd ps (spX K cl np (defn n np asg body)) := by
  refine fn_ofGX F S (fun vs H Q E h => h.1.trans hp.symm) (fun cdv A outer s H vs Q E hr h => ?_)
  obtain ⟨a, m, hps, hs⟩ := hb cdv A outer s H E hr
  refine ⟨_, hps, ?_⟩
  have := def_okX (mv := m) h
  rw [← hN] at this
  exact tX_weak (subs_ok hs) this
/-- the body of a def takes what its promise wishes of exceptions -/
theorem takes_def {P : Program} {w : World} {K : PySem.W.Frag} {mg : Str → Option Value} {base : Heap} {N : List Str} {x : Str} {sc : Scope} {f : Addr} {cdv : Value} {A : Around} {outer : List Env} {s : Shared} {H : Hp} {E : XK} : Takes (cxOf (L2.CX P w) P w K mg base N x sc f cdv A outer s H E) fun cls d _ H => E cls d H := takes_of rfl rfl rfl rfl
theorem own_def {P : Program} {w : World} {K : PySem.W.Frag} {mg : Str → Option Value} {base : Heap} {N : List Str} {x : Str} {sc : Scope} {f : Addr} {cdv : Value} {A : Around} {outer : List Env} {s : Shared} {H : Hp} {E : XK} : PassesOwn (model (cxOf (L2.CX P w) P w K mg base N x sc f cdv A outer s H E).prog (cxOf (L2.CX P w) P w K mg base N x sc f cdv A outer s H E).w) (cxOf (L2.CX P w) P w K mg base N x sc f cdv A outer s H E).A (cxOf (L2.CX P w) P w K mg base N x sc f cdv A outer s H E).env (cxOf (L2.CX P w) P w K mg base N x sc f cdv A outer s H E).xe := passes_of rfl
end Sq
end

section
/-! raise X(text) -/
namespace Sq
open PySem PySem.Spec L2 PyProof.Rows
/-- what the top's facts tell of an exception class without own __init__ -/
structure ExC (K : PySem.W.Frag) (C : Addr) : Prop where
  exc : PySem.W.excIn K C He.veBase "ValueError.__new__" = true
  keep : PySem.W.keepIn K (.ref C) = true
  sub : PySem.W.subIn K (.ref C) (.type "BaseException") = some true
  ty : PySem.W.typeIn K (.ref C) = some (.type "type")
theorem ExC.of {K : PySem.W.Frag} {x : Str} (c : (He.Fa.exc x).ok K = true) : ExC K (He.ga K x) := let ⟨a, b, d, e⟩ := He.exc_ok c; ⟨a, b, d, e⟩
def sRaiseE (k : Nat) (f : Ex) : Sx := fun s => match f s with
  | .ok _ => .exc k .none
  | _ => .bad
section
variable {X : Cx} {cl : Nat → Value} {C : Addr} {x : Str} {e : Expr} {p pos pos' : Pos} {fv mv : List Nat} {f : Ex} {E : XK} {k : Nat}
theorem rx_raise1 (F : ExC X.K C) (gC : X.mg x = some (.ref C)) (hg : Gl X x) (hcl : cl k = .ref C) (hc : X.calm = true) (tk : Takes X fun cls d _ H => E cls d H) (he : PE X e (tE X.K fv mv f)) (hs : starEach [e] X.env = (false, eval e X.env) :: starEach [] X.env := by rfl) (hdb : (x == ("__debug__" : Str)) = false := by decide) :
    PS X (.Raise (some (.Call (.Name x p) [e] [] pos)) none pos') (tX X.K cl E [] mv (sRaiseE k f)) := by
  have mk : PMk X (.Call (.Name x p) [e] [] pos) (fun σ H Q => tE X.K fv mv f σ H fun _ H1 => Q (.ref C) none H1) := SkE.pmk_own1 (bmB := He.veBase) PySem.F.excBase_ValueError F.exc gC F.keep (raises_own F.sub F.ty) hg he hs hdb
  refine PS.of (ps_raise hc tk mk) fun D σ H h => ?_
  obtain ⟨Z, s, Fs, gd, q⟩ := h
  unfold sRaiseE at q
  cases ef : f s with
  | bad => rw [ef] at q; exact q.elim
  | exc c p => rw [ef] at q; exact q.elim
  | ok r =>
    rw [ef] at q
    refine ⟨Z, s, Fs, r.1, r.2, gd, ef, fun v H1 Z1 Fs1 F p => ?_⟩
    have q' : EndX mv H Fs (E (cl k) none) := q
    rw [hcl] at q'
    exact q' H1 ⟨p.tr.ev, p.tr.dom⟩
end
end Sq
end

section
namespace Sq
open PySem PySem.Spec L2
open Enc (enc hm wf hgt_le)
open EnvE (encE wfE hms)
open ArgE (encA wfA)
/-! ### plain reckoning with the typed functions -/
@[simp] theorem sThen_next {σ ρ : Type} {t u : σ → Res (TF ρ × σ)} {v v' : σ} (h : t v = .ok (.next, v')) : sThen t u v = u v' := by unfold sThen; rw [h]; rfl
theorem sThen_ret {σ ρ : Type} {t u : σ → Res (TF ρ × σ)} {v v' : σ} {r : ρ} (h : t v = .ok (.ret r, v')) : sThen t u v = .ok (.ret r, v') := by unfold sThen; rw [h]; rfl
theorem sThen_def {σ ρ : Type} {t u : σ → Res (TF ρ × σ)} {v : σ} : sThen t u v = (t v >>= fun x => match x.1 with
  | .next => u x.2
  | fl => .ok (fl, x.2)) := rfl
theorem tN_bind {σ α β : Type} [EnvE σ] [Enc α] {i : Nat} (x : Sl σ α i) (a : α) (v : σ) (f : σ → Res β) : (tN x a v >>= f) = f (x.set v (some a)) := rfl
theorem tDef_ret {σ τ ρ : Type} [EnvE σ] [ArgE τ] [Enc ρ] [I : Ini τ σ] {z : Res ρ} {b : σ → Res (TF ρ × σ)} {x : τ} {r : ρ} {v : σ} (h : b (I.ini x) = .ok (.ret r, v)) : tDef σ z b x = .ok r := by unfold tDef; rw [h]; rfl
theorem tDef_next {σ τ ρ : Type} [EnvE σ] [ArgE τ] [Enc ρ] [I : Ini τ σ] {z : Res ρ} {b : σ → Res (TF ρ × σ)} {x : τ} {v : σ} (h : b (I.ini x) = .ok (.next, v)) : tDef σ z b x = z := by unfold tDef; rw [h]; rfl
theorem tDef1_ret {σ τ ρ κ : Type} [EnvE σ] [ArgE τ] [Enc ρ] [Enc κ] [I : Ini τ σ] {i : Nat} {y : Sl σ κ i} {z : Res ρ} {b : σ → Res (TF ρ × σ)} {x : τ} {r : ρ} {v : σ} {q : κ} (h : b (I.ini x) = .ok (.ret r, v)) (hq : y.get v = some q) : tDef1 σ y z b x = .ok (r, q) := by unfold tDef1; rw [h]; simp only [Res.bind_ok, ofO, hq]
theorem tDef1_next {σ τ ρ κ : Type} [EnvE σ] [ArgE τ] [Enc ρ] [Enc κ] [I : Ini τ σ] {i : Nat} {y : Sl σ κ i} {r : ρ} {b : σ → Res (TF ρ × σ)} {x : τ} {v : σ} {q : κ} (h : b (I.ini x) = .ok (.next, v)) (hq : y.get v = some q) : tDef1 σ y (.ok r) b x = .ok (r, q) := by unfold tDef1; rw [h]; simp only [Res.bind_ok, ofO, hq]
/-! numbers -/
theorem oMod_pos {a b : Int} (h : 0 < b) : oMod a b = .ok (a % b) := if_pos h
theorem oFdiv_pos {a b : Int} (h : 0 < b) (h2 : b < 2 ^ 64) : oFdiv a b = .ok (a / b) := by
  unfold oFdiv
  rw [if_pos]
  rw [Bool.and_eq_true]
  refine ⟨decide_eq_true h, decide_eq_true ?_⟩
  have h3 : b.natAbs < 2 ^ 64 := by omega
  by_cases h0 : b.natAbs = 0
  · rw [h0]; decide
  · exact Nat.lt_of_lt_of_le ((Nat.log2_lt h0).mpr h3) (by decide)
theorem oMul_l {a b : Int} (h : lo64 a = true) : oMul a b = .ok (a * b) := by unfold oMul; rw [h]; rfl
theorem oMul_r {a b : Int} (h : lo64 b = true) : oMul a b = .ok (a * b) := by unfold oMul; rw [h]; simp
theorem lo64_of {a : Int} (h : -(2 ^ 64) < a) (h2 : a < 2 ^ 64) : lo64 a = true := by
  unfold lo64
  rw [Bool.and_eq_true]
  exact ⟨decide_eq_true h, decide_eq_true h2⟩
/-! ranges -/
def rg (n : Nat) : List Int := (List.range n).map fun i => ((i : Nat) : Int)
theorem rg_len (n : Nat) : (rg n).length = n := by simp [rg]
theorem mem_rg {n : Nat} {i : Int} : i ∈ rg n ↔ 0 ≤ i ∧ i < n := by
  unfold rg
  rw [List.mem_map]
  constructor
  · rintro ⟨j, hj, rfl⟩
    have := List.mem_range.mp hj
    omega
  · rintro ⟨h1, h2⟩
    exact ⟨i.toNat, List.mem_range.mpr (by omega), by omega⟩
theorem rngT0 {n : Nat} (h : n ≤ 1000000) : rngT 0 n = .ok (rg n) := by
  unfold rngT rg
  rw [if_pos]
  · congr 1
    rw [Int.sub_zero, Int.toNat_natCast]
    apply List.map_congr_left
    intro i _
    omega
  · rw [Bool.and_eq_true, Bool.and_eq_true]
    refine ⟨⟨by decide, ?_⟩, decide_eq_true (by omega)⟩
    unfold lo62
    rw [Bool.and_eq_true]
    exact ⟨decide_eq_true (by omega), decide_eq_true (by omega)⟩
theorem rngT_ab {a b : Int} (h0 : -1000000 ≤ a) (h1 : b ≤ 1000000) (h2 : b - a ≤ 1000000) (h3 : -1000000 ≤ b) (h4 : a ≤ 1000000) : rngT a b = .ok ((List.range (b - a).toNat).map fun i => a + (i : Nat)) := by
  unfold rngT
  rw [if_pos]
  rw [Bool.and_eq_true, Bool.and_eq_true]
  refine ⟨⟨?_, ?_⟩, decide_eq_true (by omega)⟩ <;>
  · unfold lo62
    rw [Bool.and_eq_true]
    exact ⟨decide_eq_true (by omega), decide_eq_true (by omega)⟩
/-! places -/
theorem atI_nat' {α : Type} (xs : List α) (i : Nat) : atI xs (i : Nat) = xs[i]? := by
  unfold atI ixN
  rw [if_pos (by omega)]
  by_cases h : (i : Int) < xs.length
  · rw [if_pos h, Int.toNat_natCast]; rfl
  · rw [if_neg h, List.getElem?_eq_none (by omega)]; rfl
theorem oIx_nat {α : Type} [Enc α] {xs : List α} {i : Nat} (h : i < xs.length) : oIx xs (i : Nat) = .ok xs[i] := by
  unfold oIx
  rw [atI_nat', List.getElem?_eq_getElem h]
theorem oIx_int {α : Type} [Enc α] {xs : List α} {i : Int} (h0 : 0 ≤ i) (h : i < xs.length) : oIx xs i = .ok (xs[i.toNat]'(by omega)) := by
  have e : ((i.toNat : Nat) : Int) = i := by omega
  have := oIx_nat (xs := xs) (i := i.toNat) (by omega)
  rw [e] at this
  exact this
@[simp] theorem oIx_zero {α : Type} [Enc α] (x : α) (xs : List α) : oIx (x :: xs) 0 = .ok x := by
  have := oIx_nat (xs := x :: xs) (i := 0) (by simp)
  simpa using this
theorem oIx_lit {α : Type} [Enc α] {xs : List α} {n : Nat} {y : α} (h : xs[n]? = some y) : oIx xs (n : Nat) = .ok y := by
  unfold oIx
  rw [atI_nat', h]
theorem oIx_last {α : Type} [Enc α] {xs : List α} (h : xs ≠ []) : oIx xs (-1) = .ok (xs.getLast h) := by
  have hl := List.length_pos_iff.mpr h
  unfold oIx atI ixN
  rw [if_neg (by decide), if_pos (by omega)]
  show (match (some ((-1 + (xs.length : Int)).toNat)).bind fun j => xs[j]? with | some x => Res.ok x | none => .bad) = _
  rw [show (-1 + (xs.length : Int)).toNat = xs.length - 1 by omega]
  show (match xs[xs.length - 1]? with | some x => Res.ok x | none => .bad) = _
  rw [List.getElem?_eq_getElem (by omega), List.getLast_eq_getElem]
theorem ixN_nat {n i : Nat} (h : i < n) : ixN n (i : Nat) = some i := by
  unfold ixN
  rw [if_pos (by omega), if_pos (by omega), Int.toNat_natCast]
theorem ixN_int {n : Nat} {i : Int} (h0 : 0 ≤ i) (h : i < n) : ixN n i = some i.toNat := by
  unfold ixN
  rw [if_pos h0, if_pos h]
theorem oCat_ok {α : Type} [Enc α] {a b : List α} (h : a.length + b.length ≤ 1000000) : oCat a b = .ok (a ++ b) := if_pos (decide_eq_true h)
theorem sml_ok {α : Type} [Enc α] {a : List α} (h : a.length ≤ 1000000) : sml a = .ok a := if_pos (decide_eq_true h)
theorem cutD_to {α : Type} (xs : List α) {k : Int} (h : 0 ≤ k) : cutD xs none (some k) = xs.take k.toNat := by
  have e : k = (k.toNat : Nat) := by omega
  unfold cutD
  rw [e, HT.sIx_none, HT.sIx_nat, List.drop_zero, Nat.sub_zero, Int.toNat_natCast]
  apply List.ext_getElem?
  intro i
  simp only [List.getElem?_take]
  by_cases h1 : i < k.toNat
  · by_cases h2 : i < xs.length
    · rw [if_pos (by omega), if_pos h1]
    · rw [List.getElem?_eq_none (by omega)]
      simp
  · rw [if_neg (by omega), if_neg h1]
theorem cutD_from {α : Type} (xs : List α) {k : Int} (h : 0 ≤ k) : cutD xs (some k) none = xs.drop k.toNat := by
  have e : k = (k.toNat : Nat) := by omega
  unfold cutD
  rw [e, HT.sIx_none, HT.sIx_nat, Int.toNat_natCast]
  by_cases h2 : k.toNat ≤ xs.length
  · rw [Nat.min_eq_left h2, List.take_of_length_le (by rw [List.length_drop]; omega)]
  · rw [Nat.min_eq_right (by omega), List.drop_length, List.drop_eq_nil_of_le (by omega), List.take_nil]
theorem mem_take_iff {α : Type} {xs : List α} {k : Nat} {x : α} : x ∈ xs.take k ↔ ∃ j, j < k ∧ xs[j]? = some x := by
  rw [List.mem_iff_getElem?]
  constructor
  · rintro ⟨j, h⟩
    rw [List.getElem?_take] at h
    split at h
    · exact ⟨j, by assumption, h⟩
    · cases h
  · rintro ⟨j, h1, h2⟩
    exact ⟨j, by rw [List.getElem?_take, if_pos h1]; exact h2⟩
/-- no thing stands among those ahead of it -/
theorem unlike_iff {α : Type} [DecidableEq α] (xs : List α) : ((xs.mapIdx fun i x => ((i : Int), x)).map fun p => decide (p.2 ∈ xs.take p.1.toNat)).any id = !decide xs.Nodup := by
  rw [Bool.eq_iff_iff, List.any_eq_true, Bool.not_eq_true', decide_eq_false_iff_not]
  unfold List.Nodup
  rw [List.pairwise_iff_getElem]
  constructor
  · rintro ⟨b, hb, h⟩ hn
    obtain ⟨p, hp, rfl⟩ := List.mem_map.mp hb
    obtain ⟨i, hi, rfl⟩ := List.mem_mapIdx.mp hp
    have h := of_decide_eq_true (show decide _ = true from h)
    obtain ⟨j, hj, e⟩ := mem_take_iff.mp h
    have hj : j < i := by simpa using hj
    obtain ⟨hl, e⟩ := List.getElem?_eq_some_iff.mp e
    exact hn j i hl hi hj e
  · intro hn
    apply Classical.byContradiction
    intro hc
    apply hn
    intro i j hi hj hij e
    apply hc
    refine ⟨true, List.mem_map.mpr ⟨((j : Int), xs[j]), List.mem_mapIdx.mpr ⟨j, hj, rfl⟩, decide_eq_true ?_⟩, rfl⟩
    exact mem_take_iff.mpr ⟨i, by simpa using hij, by rw [List.getElem?_eq_getElem hi, e]⟩
/-! comprehensions -/
section
variable {σ α β : Type} [EnvE σ] [Enc α] [Enc β]
theorem tComp_filter {tb : α → σ → Res σ} {c : σ → Res Bool} {e : σ → Res β} {v : σ} (w : α → σ) (p : α → Bool) (g : α → β) : ∀ (xs : List α), (∀ x ∈ xs, tb x v = .ok (w x)) → (∀ x ∈ xs, c (w x) = .ok (p x)) → (∀ x ∈ xs, p x = true → e (w x) = .ok (g x)) → tComp tb c e v xs = .ok ((xs.filter p).map g)
  | [], _, _, _ => rfl
  | x :: xs, h1, h2, h3 => by
    have ih := tComp_filter w p g xs (fun y hy => h1 y (List.mem_cons_of_mem _ hy)) (fun y hy => h2 y (List.mem_cons_of_mem _ hy)) (fun y hy => h3 y (List.mem_cons_of_mem _ hy))
    rw [tComp, h1 x (List.mem_cons_self ..), Res.bind_ok, h2 x (List.mem_cons_self ..), Res.bind_ok]
    cases hp : p x with
    | true => rw [if_pos rfl, h3 x (List.mem_cons_self ..) hp, Res.bind_ok, ih, List.filter_cons_of_pos hp]; rfl
    | false => rw [if_neg (by decide), ih, List.filter_cons_of_neg (by rw [hp]; decide)]
theorem tComp_map {tb : α → σ → Res σ} {e : σ → Res β} {v : σ} (w : α → σ) (g : α → β) (xs : List α) (h1 : ∀ x ∈ xs, tb x v = .ok (w x)) (h3 : ∀ x ∈ xs, e (w x) = .ok (g x)) : tComp tb pYes e v xs = .ok (xs.map g) := by
  have := tComp_filter (c := pYes) (e := e) w (fun _ => true) g xs h1 (fun _ _ => rfl) (fun x hx _ => h3 x hx)
  rw [this, List.filter_eq_self.mpr fun _ _ => rfl]
/-! loops -/
theorem tLoop_fold {ρ γ : Type} {tb : α → σ → Res σ} {body : σ → Res (TF ρ × σ)} (S : γ → σ) (f : γ → α → γ) : ∀ (xs : List α) (a : γ), (∀ x ∈ xs, ∀ a, (tb x (S a) >>= body) = .ok (.next, S (f a x))) → tLoop tb body xs (S a) = .ok (.next, S (xs.foldl f a))
  | [], a, _ => rfl
  | x :: xs, a, h => by
    have h1 := h x (List.mem_cons_self ..) a
    have ih := tLoop_fold (tb := tb) (body := body) S f xs (f a x) fun y hy => h y (List.mem_cons_of_mem _ hy)
    rw [tLoop]
    cases e : tb x (S a) with
    | ok v =>
      rw [e, Res.bind_ok] at h1
      rw [Res.bind_ok, h1]
      exact ih
    | exc c p => rw [e] at h1; cases h1
    | bad => rw [e] at h1; cases h1
/-- an invariant over what has been gone through -/
theorem tLoop_inv' {ρ : Type} {tb : α → σ → Res σ} {body : σ → Res (TF ρ × σ)} (I : List α → σ → Prop) (all : List α) : ∀ (xs done : List α) (v : σ), all = done ++ xs → I done v → (∀ d x r, all = d ++ x :: r → ∀ v, I d v → ∃ v', (tb x v >>= body) = .ok (.next, v') ∧ I (d ++ [x]) v') → ∃ v', tLoop tb body xs v = .ok (.next, v') ∧ I all v'
  | [], done, v, ha, h, _ => ⟨v, rfl, by rw [ha, List.append_nil]; exact h⟩
  | x :: xs, done, v, ha, h, st => by
    obtain ⟨v1, e1, h1⟩ := st done x xs ha v h
    obtain ⟨v2, e2, h2⟩ := tLoop_inv' I all xs (done ++ [x]) v1 (by rw [ha, List.append_assoc]; rfl) h1 st
    refine ⟨v2, ?_, h2⟩
    rw [tLoop]
    cases e : tb x v with
    | ok w =>
      rw [e, Res.bind_ok] at e1
      rw [Res.bind_ok, e1]
      exact e2
    | exc c p => rw [e] at e1; cases e1
    | bad => rw [e] at e1; cases e1
theorem tLoop_inv {ρ : Type} {tb : α → σ → Res σ} {body : σ → Res (TF ρ × σ)} (I : List α → σ → Prop) (xs : List α) (v : σ) (h : I [] v) (st : ∀ d x r, xs = d ++ x :: r → ∀ v, I d v → ∃ v', (tb x v >>= body) = .ok (.next, v') ∧ I (d ++ [x]) v') : ∃ v', tLoop tb body xs v = .ok (.next, v') ∧ I xs v' := tLoop_inv' I xs xs [] v rfl h st
theorem tWhile_dec {ρ : Type} {c : σ → Res (Bool × σ)} {body : σ → Res (TF ρ × σ)} (I : Nat → σ → Prop) (J : σ → Prop) (h0 : ∀ v, I 0 v → ∃ v', c v = .ok (false, v') ∧ J v') (hs : ∀ m v, I (m + 1) v → ∃ v1 v2, c v = .ok (true, v1) ∧ body v1 = .ok (.next, v2) ∧ I m v2) : ∀ (m fuel : Nat) (v : σ), m < fuel → I m v → ∃ v', tWhile c body fuel v = .ok (.next, v') ∧ J v'
  | m, 0, v, hf, _ => by omega
  | 0, f + 1, v, hf, h => by
    obtain ⟨v', e, j⟩ := h0 v h
    exact ⟨v', by rw [tWhile, e]; rfl, j⟩
  | m + 1, f + 1, v, hf, h => by
    obtain ⟨v1, v2, e1, e2, h2⟩ := hs m v h
    obtain ⟨v', e, j⟩ := tWhile_dec I J h0 hs m f v2 (by omega) h2
    refine ⟨v', ?_, j⟩
    rw [tWhile, e1, Res.bind_ok, if_pos rfl, e2]
    exact e
end
/-! lists -/
theorem perm_take_out {α : Type} (l : List α) (j : Nat) (h : j < l.length) : (l[j] :: l.eraseIdx j).Perm l := by
  induction l generalizing j with
  | nil => simp at h
  | cons x l ih =>
    cases j with
    | zero => exact List.Perm.refl _
    | succ j =>
      have h : j < l.length := by simpa using h
      exact (List.Perm.swap x l[j] _).trans ((ih j h).cons x)
theorem nodup_perm {α : Type} [DecidableEq α] : ∀ (l D : List α), l.Nodup → (∀ x ∈ l, x ∈ D) → D.length ≤ l.length → l.Perm D
  | [], D, _, _, h => by
    have : D = [] := List.length_eq_zero_iff.mp (by simpa using h)
    rw [this]
  | x :: l, D, hn, hs, h => by
    have hx := hs x (List.mem_cons_self ..)
    obtain ⟨h1, h2⟩ := List.nodup_cons.mp hn
    refine ((nodup_perm l (D.erase x) h2 (fun y hy => ?_) ?_).cons x).trans (List.perm_cons_erase hx).symm
    · exact (List.mem_erase_of_ne (fun e : y = x => h1 (e ▸ hy))).mpr (hs y (List.mem_cons_of_mem _ hy))
    · rw [List.length_erase_of_mem hx]
      simp at h
      omega
theorem rg_nodup (n : Nat) : (rg n).Nodup := by
  unfold rg
  unfold List.Nodup
  rw [List.pairwise_map]
  exact List.nodup_range.imp fun h e => h (by omega)
theorem perm_rg {l : List Int} {n : Nat} : l.Perm (rg n) ↔ l.length = n ∧ l.Nodup ∧ ∀ x ∈ l, 0 ≤ x ∧ x < n := by
  constructor
  · intro h
    exact ⟨by rw [h.length_eq, rg_len], h.nodup_iff.mpr (rg_nodup n), fun x hx => mem_rg.mp (h.mem_iff.mp hx)⟩
  · rintro ⟨h1, h2, h3⟩
    exact nodup_perm l (rg n) h2 (fun x hx => mem_rg.mpr (h3 x hx)) (by rw [rg_len]; omega)
theorem insI_sorted (n : Int) : ∀ ns : List Int, ns.Pairwise (· ≤ ·) → (insI n ns).Pairwise (· ≤ ·)
  | [], _ => by simp [insI]
  | m :: ms, h => by
    obtain ⟨h1, h2⟩ := List.pairwise_cons.mp h
    rw [insI]
    split
    · rename_i hm
      refine List.pairwise_cons.mpr ⟨fun x hx => ?_, h⟩
      rcases List.mem_cons.mp hx with rfl | hx
      · exact hm
      · exact Int.le_trans hm (h1 x hx)
    · rename_i hm
      refine List.pairwise_cons.mpr ⟨fun x hx => ?_, insI_sorted n ms h2⟩
      rcases List.mem_cons.mp ((insI_perm n ms).mem_iff.mp hx) with rfl | hx
      · omega
      · exact h1 x hx
theorem sortI_sorted : ∀ ns, (sortI ns).Pairwise (· ≤ ·)
  | [] => List.Pairwise.nil
  | n :: ns => by rw [sortI]; exact insI_sorted n _ (sortI_sorted ns)
theorem sorted_uniq : ∀ (a b : List Int), a.Perm b → a.Pairwise (· ≤ ·) → b.Pairwise (· ≤ ·) → a = b
  | [], b, h, _, _ => h.symm.eq_nil.symm
  | x :: a, [], h, _, _ => by have := h.length_eq; simp at this
  | x :: a, y :: b, h, ha, hb => by
    obtain ⟨a1, a2⟩ := List.pairwise_cons.mp ha
    obtain ⟨b1, b2⟩ := List.pairwise_cons.mp hb
    have e : x = y := by
      have p : x ≤ y := by
        rcases List.mem_cons.mp (h.mem_iff.mpr (List.mem_cons_self ..)) with e | q
        · omega
        · exact a1 y q
      have q : y ≤ x := by
        rcases List.mem_cons.mp (h.mem_iff.mp (List.mem_cons_self ..)) with e | q
        · omega
        · exact b1 x q
      omega
    subst e
    rw [sorted_uniq a b h.cons_inv a2 b2]
theorem rg_sorted (n : Nat) : (rg n).Pairwise (· ≤ ·) := by
  unfold rg
  rw [List.pairwise_map]
  exact List.pairwise_lt_range.imp fun h => by omega
theorem sortI_rg {l : List Int} {n : Nat} : sortI l = rg n ↔ l.Perm (rg n) := by
  constructor
  · intro h
    exact h ▸ (sortI_perm l).symm
  · intro h
    exact sorted_uniq _ _ ((sortI_perm l).trans h) (sortI_sorted l) (rg_sorted n)
/-! what can be shown -/
theorem oStr_ok {α : Type} [Enc α] {x : α} (h : okS (enc x) = true) : oStr (x, ()) = .ok (enc x).shown := if_pos h
theorem sz_ints : ∀ (xs : List Int) (b : Nat), (∀ x ∈ xs, x.natAbs < 2 ^ b) → 0 < b → b ≤ 1920 → plAll (xs.map enc) = true ∧ szAll (xs.map enc) ≤ xs.length * (b + 5) ∧ PyData.depthAll (xs.map enc) = 0
  | [], b, _, _, _ => ⟨rfl, by simp [szAll], by simp [PyData.depthAll]⟩
  | x :: xs, b, h, h0, hb => by
    obtain ⟨i1, i2, i3⟩ := sz_ints xs b (fun y hy => h y (List.mem_cons_of_mem _ hy)) h0 hb
    have hx := h x (List.mem_cons_self ..)
    have hl : x.natAbs.log2 < b := by
      by_cases z : x.natAbs = 0
      · rw [z]; simpa using h0
      · exact (Nat.log2_lt z).mpr hx
    have e : (x :: xs).map (enc (α := Int)) = .int x :: xs.map enc := rfl
    rw [e]
    refine ⟨?_, ?_, ?_⟩
    · rw [plAll, plD, i1, Bool.and_true]
      exact decide_eq_true (by omega)
    · rw [szAll, szD, List.length_cons, Nat.add_mul]
      omega
    · rw [PyData.depthAll, i3, PyData.depth]
      rfl
theorem okS_ints {xs : List Int} (b : Nat) (h : ∀ x ∈ xs, x.natAbs < 2 ^ b) (h0 : 0 < b) (hb : b ≤ 900) (hl : xs.length ≤ 1000) : okS (enc xs) = true := by
  obtain ⟨i1, i2, i3⟩ := sz_ints xs b h h0 (by omega)
  unfold okS
  rw [Bool.and_eq_true, Bool.and_eq_true]
  refine ⟨⟨?_, decide_eq_true ?_⟩, decide_eq_true ?_⟩
  · show plD (.list (xs.map enc)) = true
    rw [plD]; exact i1
  · show (PyData.list (xs.map enc)).depth ≤ 64
    rw [PyData.depth, i3]; decide
  · show szD (.list (xs.map enc)) ≤ 1000000
    rw [szD]
    have : xs.length * (b + 5) ≤ 1000 * 905 := Nat.mul_le_mul hl (by omega)
    omega
end Sq
end

section
namespace Lw
open PySem PySem.Spec L2 Sq
def tab_POWERS : List (Int × List Int) := [(2, [2, 1]), (3, [3, 1]), (4, [2, 2]), (5, [5, 1]), (7, [7, 1]), (8, [2, 3]), (9, [3, 2])]
def tab_HIGHEST : List (Int × List Int) := [(4, [1, 1]), (8, [1, 1, 0]), (9, [2, 0])]
/-- things_on: 0 square, 1 way, 2 row, 3 column -/
def m_things_on : Nat → Fn
  | 0 => fun _ => .bad
  | k + 1 => defn 4 2 [] (sRet [1, 0, 2, 3] (evLc [2, 3] [1] [] (bTup 2 (bCons (bName 2) (bCons (bName 3) bNil))) (iEn (eCons (eVar 1) eNil)) tYes2 (ev2 gIx (ev2 gIx (eVar 0) (eVar 2)) (eVar 3))))
/-- all_unlike: 0 numbers, 1 k, 2 number -/
def m_all_unlike : Nat → Fn
  | 0 => fun _ => .bad
  | k + 1 => defn 3 1 [] (sRet [0, 2, 0] (ev1 gNot (evN gAny (eCons (evLc [1, 2] [0] [] (bTup 2 (bCons (bName 1) (bCons (bName 2) bNil))) (iEn (eCons (eVar 0) eNil)) tYes2 (ev2 gIn (eVar 2) (evSl (eVar 0) oNone (oSome (eVar 1))))) eNil))))
/-- is_way: 0 square, 1 way, 2 column -/
def m_is_way : Nat → Fn
  | 0 => fun _ => .bad
  | k + 1 => defn 3 2 [] (sSeq (sIf (tOr2 (tst (ev2 gNe (evN gLen (eCons (eVar 1) eNil)) (evN gLen (eCons (eVar 0) eNil)))) (tst (evN gAny (eCons (evLc [2] [1] [] (bName 2) (iL (eVar 1)) tYes2 (evOr (ev2 gLt (eVar 2) (eC (.int 0))) (ev2 gGe (eVar 2) (evN gLen (eCons (eVar 0) eNil))))) eNil))))
  (sRet [] (eC (.bool false)))
  sSkip)
  (sRet [0, 1] (evAnd (evCall (m_all_unlike k) [] (eCons (eVar 1) eNil)) (evCall (m_all_unlike k) [] (eCons (evCall (m_things_on k) [] (eCons (eVar 0) (eCons (eVar 1) eNil))) eNil)))))
/-- are_mates: 0 one, 1 other, 2 pairs, 3 row, 4 more -/
def m_are_mates : Nat → Fn
  | 0 => fun _ => .bad
  | k + 1 => defn 5 2 [2, 3, 4] (sSeq (sAsg 2 [] (evN gList eNil))
  (sSeq (sFor (bTup 2 (bCons (bName 3) (bCons (bName 4) bNil))) [0, 1] (iZ (eCons (eVar 0) (eCons (eVar 1) eNil)))
  (sExt 2 (pSlot 2) [3, 4] (evN gZipL (eCons (eVar 3) (eCons (eVar 4) eNil)))))
  (sRet [2] (evCall (m_all_unlike k) [] (eCons (eVar 2) eNil)))))
/-- mate_of: 0 parting, 1 found, 2 number, 3 way, 4 row, 5 column -/
def m_mate_of : Nat → Fn
  | 0 => fun _ => .bad
  | k + 1 => defn 6 1 [1, 2, 3, 4, 5] (sSeq (sAsg 1 [0, 0] (evLc [3] [0] [] (bName 3) (iL (eVar 0)) tYes2 (evLc [3] [0] [] (bName 3) (iL (eVar 0)) tYes2 (eC (.int 0)))))
  (sSeq (sFor (bTup 2 (bCons (bName 2) (bCons (bName 3) bNil))) [0] (iEn (eCons (eVar 0) eNil))
  (sFor (bTup 2 (bCons (bName 4) (bCons (bName 5) bNil))) [3] (iEn (eCons (eVar 3) eNil))
  (sSet 1 [2] (eVar 2) (pIdx 1 (pSlot 1) (eVar 4)) (eVar 5))))
  (sRet [] (eMove 1))))
/-- parting_of: 0 square, 1 mate, 2 number, 3 row -/
def m_parting_of : Nat → Fn
  | 0 => fun _ => .bad
  | k + 1 => defn 4 2 [] (sRet [1, 3, 2] (evLc [2] [] [] (bName 2) (iR1 (eCons (evN gLen (eCons (eVar 0) eNil)) eNil)) tYes2 (evLc [3] [1] [] (bName 3) (iL (eVar 1)) tYes2 (ev2 gIndex (eVar 3) (eVar 2)))))
/-- look_at_field: 0 q -/
def m_look_at_field : Nat → Fn
  | 0 => fun _ => .bad
  | k + 1 => defn 1 1 [] (sIf (tst (ev1 (gINotIn tab_POWERS) (eVar 0)))
  sBad
  sSkip)
/-- digits: 0 number, 1 base, 2 many, 3 found, 4 k -/
def m_digits : Nat → Fn
  | 0 => fun _ => .bad
  | k + 1 => defn 5 3 [0, 3, 4] (sSeq (sAsg 3 [] (evN gList eNil))
  (sSeq (sFor (bName 4) [2] (iR1 (eCons (eVar 2) eNil))
  (sSeq (sApp 3 (pSlot 3) [0, 1] (ev2 gMod (eVar 0) (eVar 1)))
  (sAsg 0 [0, 1] (ev2 gFdiv (eVar 0) (eVar 1)))))
  (sRet [] (eMove 3))))
/-- number_of_digits: 0 figures, 1 base, 2 found, 3 figure -/
def m_number_of_digits : Nat → Fn
  | 0 => fun _ => .bad
  | k + 1 => defn 4 2 [2, 3] (sSeq (sAsg 2 [] (eC (.int 0)))
  (sSeq (sFor (bName 3) [0] (iRv (eCons (eVar 0) eNil))
  (sAsg 2 [2, 1, 3, 1] (ev2 gAdd (ev2 gMul (eVar 2) (eVar 1)) (ev2 gMod (eVar 3) (eVar 1)))))
  (sRet [] (eMove 2))))
def p_plus_1 (k : Nat) : Sx := (sExpr (evCall (m_look_at_field k) [] (eCons (eVar 0) eNil)))
def p_plus_2 (k : Nat) : Sx := (sAsgT (bTup 2 (bCons (bName 3) (bCons (bName 4) bNil))) [0] (ev1 (gIGet tab_POWERS) (eVar 0)))
def p_plus_3 (k : Nat) : Sx := (sAsg 5 [1, 3, 4, 2, 3, 4, 6, 7] (evLc [6, 7] [1, 3, 4, 2, 3, 4] [] (bTup 2 (bCons (bName 6) (bCons (bName 7) bNil))) (iZ (eCons (evCall (m_digits k) [] (eCons (eVar 1) (eCons (eVar 3) (eCons (eVar 4) eNil)))) (eCons (evCall (m_digits k) [] (eCons (eVar 2) (eCons (eVar 3) (eCons (eVar 4) eNil)))) eNil))) tYes2 (ev2 gAdd (eVar 6) (eVar 7))))
def p_plus_4 (k : Nat) : Sx := (sRet [5, 3] (evCall (m_number_of_digits k) [] (eCons (eVar 5) (eCons (eVar 3) eNil))))
/-- plus: 0 q, 1 a, 2 b, 3 base, 4 many, 5 some, 6 one, 7 other -/
def m_plus : Nat → Fn
  | 0 => fun _ => .bad
  | k + 1 => defn 8 3 [3, 4, 5] (sSeq (p_plus_1 k)
  (sSeq (p_plus_2 k)
  (sSeq (p_plus_3 k)
  (p_plus_4 k))))
def p_times_1 (k : Nat) : Sx := (sExpr (evCall (m_look_at_field k) [] (eCons (eVar 0) eNil)))
def p_times_2 (k : Nat) : Sx := (sAsgT (bTup 2 (bCons (bName 3) (bCons (bName 4) bNil))) [0] (ev1 (gIGet tab_POWERS) (eVar 0)))
def p_times_3_t_1 (k : Nat) : Sx := (sRet [1, 2, 0] (ev2 gMod (ev2 gMul (eVar 1) (eVar 2)) (eVar 0)))
def p_times_3 (k : Nat) : Sx := (sIf (tst (ev2 gEq (eVar 4) (eC (.int 1))))
  (p_times_3_t_1 k)
  sSkip)
def p_times_4 (k : Nat) : Sx := (sAsg 5 [4] (ev2 gMul (evN gList (eCons (eC (.int 0)) eNil)) (ev2 gSub (ev2 gMul (eC (.int 2)) (eVar 4)) (eC (.int 1)))))
def p_times_5_1_1 (k : Nat) : Sx := (sSet 5 [5, 6, 8, 7, 9] (ev2 gAdd (ev2 gIx (eVar 5) (ev2 gAdd (eVar 6) (eVar 8))) (ev2 gMul (eVar 7) (eVar 9))) (pSlot 5) (ev2 gAdd (eVar 6) (eVar 8)))
def p_times_5_1 (k : Nat) : Sx := (sFor (bTup 2 (bCons (bName 8) (bCons (bName 9) bNil))) [2, 3, 4] (iEn (eCons (evCall (m_digits k) [] (eCons (eVar 2) (eCons (eVar 3) (eCons (eVar 4) eNil)))) eNil))
  (p_times_5_1_1 k))
def p_times_5 (k : Nat) : Sx := (sFor (bTup 2 (bCons (bName 6) (bCons (bName 7) bNil))) [1, 3, 4] (iEn (eCons (evCall (m_digits k) [] (eCons (eVar 1) (eCons (eVar 3) (eCons (eVar 4) eNil)))) eNil))
  (p_times_5_1 k))
def p_times_6_1_1 (k : Nat) : Sx := (sSet 5 [5, 10, 4, 11, 5, 10, 12] (ev2 gAdd (ev2 gIx (eVar 5) (ev2 gAdd (ev2 gSub (eVar 10) (eVar 4)) (eVar 11))) (ev2 gMul (ev2 gIx (eVar 5) (eVar 10)) (eVar 12))) (pSlot 5) (ev2 gAdd (ev2 gSub (eVar 10) (eVar 4)) (eVar 11)))
def p_times_6_1 (k : Nat) : Sx := (sFor (bTup 2 (bCons (bName 11) (bCons (bName 12) bNil))) [0] (iEnT (eCons (ev1 (gIGet tab_HIGHEST) (eVar 0)) eNil))
  (p_times_6_1_1 k))
def p_times_6 (k : Nat) : Sx := (sFor (bName 10) [4, 4] (iR3 (eCons (ev2 gSub (ev2 gMul (eC (.int 2)) (eVar 4)) (eC (.int 2))) (eCons (ev2 gSub (eVar 4) (eC (.int 1))) (eCons (ev1 gNeg (eC (.int 1))) eNil))))
  (p_times_6_1 k))
def p_times_7 (k : Nat) : Sx := (sRet [5, 3] (evCall (m_number_of_digits k) [] (eCons (evSl (eVar 5) oNone (oSome (eVar 4))) (eCons (eVar 3) eNil))))
/-- times: 0 q, 1 a, 2 b, 3 base, 4 many, 5 found, 6 i, 7 one, 8 j, 9 other, 10 high, 11 k, 12 share -/
def m_times : Nat → Fn
  | 0 => fun _ => .bad
  | k + 1 => defn 13 3 [3, 4, 5, 6, 7, 8, 9, 10, 11, 12] (sSeq (p_times_1 k)
  (sSeq (p_times_2 k)
  (sSeq (p_times_3 k)
  (sSeq (p_times_4 k)
  (sSeq (p_times_5 k)
  (sSeq (p_times_6 k)
  (p_times_7 k)))))))
def p_field_squares_1 (k : Nat) : Sx := (sExpr (evCall (m_look_at_field k) [] (eCons (eVar 0) eNil)))
def p_field_squares_3_1 (k : Nat) : Sx := (sApp 1 (pSlot 1) [0, 0, 0, 0, 2, 3, 4] (evLc [3] [0] [] (bName 3) (iR1 (eCons (eVar 0) eNil)) tYes2 (evLc [4] [0] [] (bName 4) (iR1 (eCons (eVar 0) eNil)) tYes2 (evCall (m_plus k) [] (eCons (eVar 0) (eCons (evCall (m_times k) [] (eCons (eVar 0) (eCons (eVar 2) (eCons (eVar 3) eNil)))) (eCons (eVar 4) eNil)))))))
def p_field_squares_3 (k : Nat) : Sx := (sFor (bName 2) [0] (iR2 (eCons (eC (.int 1)) (eCons (eVar 0) eNil)))
  (p_field_squares_3_1 k))
/-- field_squares: 0 q, 1 found, 2 m, 3 r, 4 c -/
def m_field_squares : Nat → Fn
  | 0 => fun _ => .bad
  | k + 1 => defn 5 1 [1, 2] (sSeq (p_field_squares_1 k)
  (sSeq (sAsg 1 [] (evN gList eNil))
  (sSeq (p_field_squares_3 k)
  (sRet [] (eMove 1)))))
/-- both_of: 0 row, 1 beside, 2 found, 3 u, 4 v -/
def m_both_of : Nat → Fn
  | 0 => fun _ => .bad
  | k + 1 => defn 5 2 [2, 3] (sSeq (sAsg 2 [] (evN gList eNil))
  (sSeq (sFor (bName 3) [0] (iL (eVar 0))
  (sAsg 2 [2, 1, 3, 4] (ev2 gAdd (eVar 2) (evLc [4] [1] [] (bName 4) (iL (eVar 1)) tYes2 (evN gTup (eCons (eVar 3) (eCons (eVar 4) eNil)))))))
  (sRet [] (eMove 2))))
/-- is_set: 0 squares, 1 k, 2 one, 3 other -/
def m_is_set : Nat → Fn
  | 0 => fun _ => .bad
  | k + 1 => defn 4 1 [1, 2, 3] (sSeq (sFor (bTup 2 (bCons (bName 1) (bCons (bName 2) bNil))) [0] (iEn (eCons (eVar 0) eNil))
  (sFor (bName 3) [0] (iL (evSl (eVar 0) oNone (oSome (eVar 1))))
  (sIf (tNot2 (tst (evCall (m_are_mates k) [] (eCons (eVar 2) (eCons (eVar 3) eNil)))))
  (sRet [] (eC (.bool false)))
  sSkip)))
  (sRet [] (eC (.bool true))))
/-- column_of: 0 row, 1 thing, 2 column, 3 other -/
def m_column_of : Nat → Fn
  | 0 => fun _ => .bad
  | k + 1 => defn 4 2 [] (sRet [0, 2] (ev2 gIx (evLc [2, 3] [0] [] (bTup 2 (bCons (bName 2) (bCons (bName 3) bNil))) (iEn (eCons (eVar 0) eNil)) (tst (ev2 gEq (eVar 3) (eVar 1))) (eVar 2)) (eC (.int 0))))
/-- witness: 0 squares, 1 square -/
def m_witness : Nat → Fn
  | 0 => fun _ => .bad
  | k + 1 => defn 2 1 [] (sRet [0, 1, 1] (evLc [1] [0] [] (bName 1) (iL (eVar 0)) tYes2 (evCall (m_column_of k) [] (eCons (ev2 gIx (eVar 1) (eC (.int 0))) (eCons (ev2 gIx (ev2 gIx (eVar 1) (eC (.int 1))) (eC (.int 0))) eNil)))))
/-- _law_mix: 0 _law_cell, 1 _law_turn, 2 _law_number -/
def m_l_mix : Nat → Fn
  | 0 => fun _ => .bad
  | k + 1 => defn 3 2 [2] (sSeq (sAsg 2 [0, 1, 1] (ev2 gMod (ev2 gMul (ev2 gAdd (ev2 gAdd (ev2 gMod (eVar 0) (eC (.int 2147483647))) (ev2 gMul (ev2 gMul (eVar 1) (eVar 1)) (eC (.int 7919)))) (eC (.int 104729))) (eC (.int 48271))) (eC (.int 2147483647))))
  (sRet [2, 2, 1] (ev2 gMod (ev2 gAdd (ev2 gMul (eVar 2) (eVar 2)) (ev2 gMul (eC (.int 69621)) (eVar 1))) (eC (.int 2147483629)))))
def p_l_draws_1 (k : Nat) : Sx := (sAsg 3 [0, 1] (ev2 gAdd (evSl (eVar 0) oNone (oSome (eC (.int 63)))) (evN gList (eCons (eVar 1) eNil))))
def p_l_draws_2 (k : Nat) : Sx := (sAsg 4 [3, 9] (evLc [9] [3] [] (bName 9) (iL (eVar 3)) tYes2 (ev2 gFdiv (eVar 9) (eC (.int 100000)))))
def p_l_draws_4_1 (k : Nat) : Sx := (sAsg 7 [6] (ev2 gMod (eVar 6) (evN gLen (eCons (eVar 3) eNil))))
def p_l_draws_4_2 (k : Nat) : Sx := (sAsg 8 [3, 7, 6] (evCall (m_l_mix k) [] (eCons (ev2 gIx (eVar 3) (eVar 7)) (eCons (eVar 6) eNil))))
def p_l_draws_4_3 (k : Nat) : Sx := (sAsg 8 [8, 8, 6] (ev2 gMod (ev2 gAdd (ev2 gMul (eVar 8) (eVar 8)) (ev2 gMul (eC (.int 7)) (eVar 6))) (eC (.int 2147483587))))
def p_l_draws_4_4_t_1 (k : Nat) : Sx := (sAsg 8 [4, 7] (ev2 gMod (ev2 gIx (eVar 4) (eVar 7)) (eC (.int 2147483587))))
def p_l_draws_4_4_t_2 (k : Nat) : Sx := (sSet 4 [4, 7] (ev2 gFdiv (ev2 gIx (eVar 4) (eVar 7)) (eC (.int 2147483587))) (pSlot 4) (eVar 7))
def p_l_draws_4_4 (k : Nat) : Sx := (sIf (tAnd2 (tst (ev2 gGe (ev2 gIx (eVar 3) (eVar 7)) (ev2 gPow (eC (.int 10)) (eC (.int 18))))) (tst (ev2 gGt (ev2 gIx (eVar 4) (eVar 7)) (eC (.int 0)))))
  (sSeq (p_l_draws_4_4_t_1 k)
  (p_l_draws_4_4_t_2 k))
  sSkip)
def p_l_draws_4 (k : Nat) : Sx := (sFor (bName 6) [1, 2] (iR1 (eCons (ev2 gAdd (eVar 1) (eVar 2)) eNil))
  (sSeq (p_l_draws_4_1 k)
  (sSeq (p_l_draws_4_2 k)
  (sSeq (p_l_draws_4_3 k)
  (sSeq (p_l_draws_4_4 k)
  (sApp 5 (pSlot 5) [8] (eVar 8)))))))
/-- _law_draws: 0 _law_script, 1 _law_turn, 2 _law_many, 3 _law_spots, 4 _law_lefts, 5 _law_found, 6 _law_k, 7 _law_at, 8 _law_number, 9 _law_cell -/
def m_l_draws : Nat → Fn
  | 0 => fun _ => .bad
  | k + 1 => defn 10 3 [3, 4, 5, 6, 7, 8] (sSeq (p_l_draws_1 k)
  (sSeq (p_l_draws_2 k)
  (sSeq (sAsg 5 [] (evN gList eNil))
  (sSeq (p_l_draws_4 k)
  (sRet [5] (evSl (eVar 5) (oSome (eVar 1)) oNone))))))
/-- _law_pop: 0 _law_draws_here -/
def m_l_pop : Nat → Fn
  | 0 => fun _ => .bad
  | k + 1 => defn 1 1 [] (sSeq (sIf (tst (ev2 gEq (eVar 0) (evN gList eNil)))
  (sRet [] (eC (.int 0)))
  sSkip)
  (sRet [] (evPop 0 (pSlot 0))))
/-- product: 0 one, 1 other, 2 b, 3 found, 4 row, 5 beside, 6 u, 7 v -/
def m_product : Nat → Fn
  | 0 => fun _ => .bad
  | k + 1 => defn 8 2 [2, 3, 4, 5] (sSeq (sAsg 2 [] (evN gLen (eCons (eVar 1) eNil)))
  (sSeq (sAsg 3 [] (evN gList eNil))
  (sSeq (sFor (bName 4) [0] (iL (eVar 0))
  (sFor (bName 5) [1] (iL (eVar 1))
  (sApp 3 (pSlot 3) [4, 5, 2, 6, 7] (evLc [6, 7] [4, 5] [] (bTup 2 (bCons (bName 6) (bCons (bName 7) bNil))) (iL (evCall (m_both_of k) [] (eCons (eVar 4) (eCons (eVar 5) eNil)))) tYes2 (ev2 gAdd (ev2 gMul (eVar 2) (eVar 6)) (eVar 7))))))
  (sRet [] (eMove 3)))))
/-- made_set: 0 n -/
def m_made_set : Nat → Fn
  | 0 => fun _ => .bad
  | k + 1 => defn 1 1 [] (sSeq (sIf (tst (ev1 (gIIn tab_POWERS) (eVar 0)))
  (sRet [0] (evCall (m_field_squares k) [] (eCons (eVar 0) eNil)))
  sSkip)
  (sSeq (sIf (tst (ev2 gEq (eVar 0) (eC (.int 6))))
  (sRet [] (evN gList (eCons (evCall (m_product k) [] (eCons (ev2 gIx (evCall (m_field_squares k) [] (eCons (eC (.int 2)) eNil)) (eC (.int 0))) (eCons (ev2 gIx (evCall (m_field_squares k) [] (eCons (eC (.int 3)) eNil)) (eC (.int 0))) eNil))) eNil)))
  sSkip)
  (sRet [] (evN gList (eCons (evN gList (eCons (evN gList (eCons (eC (.int 0)) eNil)) eNil)) eNil)))))
def p_law_1 (k : Nat) : Sx := (sAsg 1 [0] (evCall (m_l_draws k) [] (eCons (eVar 0) (eCons (eC (.int 1)) (eCons (eC (.int 10)) eNil)))))
def p_law_2 (k : Nat) : Sx := (sAsg 2 [] (ev2 gIx (evN gList (eCons (eC (.int 2)) (eCons (eC (.int 3)) (eCons (eC (.int 4)) (eCons (eC (.int 5)) (eCons (eC (.int 7)) (eCons (eC (.int 8)) (eCons (eC (.int 9)) eNil)))))))) (ev2 gMod (evCall (m_l_pop k) [(0, 1)] (eCons (eMove 1) eNil)) (eC (.int 7)))))
def p_law_3 (k : Nat) : Sx := (sAsg 3 [2] (evCall (m_field_squares k) [] (eCons (eVar 2) eNil)))
def p_law_4 (k : Nat) : Sx := (sAsg 4 [3, 2] (ev2 gIx (eVar 3) (ev2 gMod (evCall (m_l_pop k) [(0, 1)] (eCons (eMove 1) eNil)) (ev2 gSub (eVar 2) (eC (.int 1))))))
def p_law_5 (k : Nat) : Sx := (sAsg 5 [3, 2] (ev2 gIx (eVar 3) (ev2 gMod (evCall (m_l_pop k) [(0, 1)] (eCons (eMove 1) eNil)) (ev2 gSub (eVar 2) (eC (.int 1))))))
def p_law_6_t_1 (k : Nat) : Sx := (sAsg 6 [4, 5] (evCall (m_parting_of k) [] (eCons (eVar 4) (eCons (eVar 5) eNil))))
def p_law_6_t_2 (k : Nat) : Sx := (sIf (tOr2 (tst (ev2 gNe (evLc [12] [6] [] (bName 12) (iL (eVar 6)) (tNot2 (tst (evCall (m_is_way k) [] (eCons (eVar 4) (eCons (eVar 12) eNil))))) (eVar 12)) (evN gList eNil))) (tst (ev2 gNe (evCall (m_mate_of k) [] (eCons (eVar 6) eNil)) (eVar 5))))
  (sRet [] (eC (.bool false)))
  sSkip)
def p_law_6 (k : Nat) : Sx := (sIf (tst (ev2 gNe (eVar 4) (eVar 5)))
  (sSeq (p_law_6_t_1 k)
  (p_law_6_t_2 k))
  sSkip)
def p_law_7 (k : Nat) : Sx := (sIf (tst (ev2 gNe (evCall (m_are_mates k) [] (eCons (eVar 4) (eCons (eVar 5) eNil))) (ev2 gNe (eVar 4) (eVar 5))))
  (sRet [] (eC (.bool false)))
  sSkip)
def p_law_8 (k : Nat) : Sx := (sAsg 7 [] (ev2 gAdd (eC (.int 1)) (ev2 gMod (evCall (m_l_pop k) [(0, 1)] (eCons (eMove 1) eNil)) (eC (.int 9)))))
def p_law_9 (k : Nat) : Sx := (sAsg 8 [7] (evCall (m_made_set k) [] (eCons (eVar 7) eNil)))
def p_law_10 (k : Nat) : Sx := (sIf (tst (ev2 gNe (evN gLen (eCons (eVar 8) eNil)) (ev2 gIx (evN gList (eCons (eC (.int 1)) (eCons (eC (.int 1)) (eCons (eC (.int 2)) (eCons (eC (.int 3)) (eCons (eC (.int 4)) (eCons (eC (.int 1)) (eCons (eC (.int 6)) (eCons (eC (.int 7)) (eCons (eC (.int 8)) eNil)))))))))) (ev2 gSub (eVar 7) (eC (.int 1))))))
  (sRet [] (eC (.bool false)))
  sSkip)
def p_law_11_1 (k : Nat) : Sx := (sIf (tst (ev2 gNe (evLc [13] [8] [] (bName 13) (iL (evSl (eVar 8) oNone (oSome (eVar 9)))) (tNot2 (tst (evCall (m_are_mates k) [] (eCons (eVar 10) (eCons (eVar 13) eNil))))) (eVar 13)) (evN gList eNil)))
  (sRet [] (eC (.bool false)))
  sSkip)
def p_law_11 (k : Nat) : Sx := (sFor (bTup 2 (bCons (bName 9) (bCons (bName 10) bNil))) [8] (iEn (eCons (eVar 8) eNil))
  (p_law_11_1 k))
def p_law_12 (k : Nat) : Sx := (sIf (tst (ev2 gEq (eVar 7) (eC (.int 1))))
  (sRet [] (eC (.bool true)))
  sSkip)
def p_law_13 (k : Nat) : Sx := (sAsg 11 [8] (evCall (m_witness k) [] (eCons (eVar 8) eNil)))
def p_law_14 (k : Nat) : Sx := (sRet [] (evAnd (ev2 gIsB (evCall (m_is_set k) [] (eCons (eVar 8) eNil)) (eC (.bool true))) (evAnd (ev2 gNotIn (eC (.int 0)) (eVar 11)) (ev2 gEq (evN gLen (eCons (eVar 11) eNil)) (evN gLen (eCons (evLc [9] [7] [] (bName 9) (iR1 (eCons (eVar 7) eNil)) (tst (ev2 gIn (eVar 9) (eVar 11))) (eVar 9)) eNil))))))
/-- law: 0 _law_script, 1 _law_draws_here, 2 _law_q, 3 _law_squares, 4 _law_one, 5 _law_other, 6 _law_parting, 7 _law_n, 8 _law_made, 9 _law_k, 10 _law_square, 11 _law_told, 12 _law_way, 13 _law_more -/
def m_law : Nat → Fn
  | 0 => fun _ => .bad
  | k + 1 => defn 14 1 [1, 2, 3, 4, 5, 6, 7, 8, 9, 10, 11] (sSeq (p_law_1 k)
  (sSeq (p_law_2 k)
  (sSeq (p_law_3 k)
  (sSeq (p_law_4 k)
  (sSeq (p_law_5 k)
  (sSeq (p_law_6 k)
  (sSeq (p_law_7 k)
  (sSeq (p_law_8 k)
  (sSeq (p_law_9 k)
  (sSeq (p_law_10 k)
  (sSeq (p_law_11 k)
  (sSeq (p_law_12 k)
  (sSeq (p_law_13 k)
  (p_law_14 k))))))))))))))
end Lw
end

section
namespace Lw
open PySem PySem.Spec L2 Sq
/-! ### the text -/
def top (i : Nat) : Stmt := PySem.Challenge.pw_squaremates_k68_whole_field_sets.main.body.getD i (.Pass ⟨0, 0, 0, 0⟩)
abbrev t_things_on : Stmt := top 1
theorem sc_things_on : FnScope ["square", "way", "row", "column"] ["square", "way"] (defScope t_things_on) := ⟨rfl, rfl, rfl, by decide +kernel, rfl, by decide +kernel, by decide +kernel⟩
theorem m_things_on_len : ∀ k xs r, m_things_on k xs = .ok r → xs.length = 2 := by
  intro k xs r h
  cases k with
  | zero => exact nomatch (show (Res.bad : Res (DV × SD)) = .ok r by rw [m_things_on] at h; exact h)
  | succ k => rw [m_things_on] at h; exact defn_len h
abbrev t_all_unlike : Stmt := top 2
theorem sc_all_unlike : FnScope ["numbers", "k", "number"] ["numbers"] (defScope t_all_unlike) := ⟨rfl, rfl, rfl, by decide +kernel, rfl, by decide +kernel, by decide +kernel⟩
theorem m_all_unlike_len : ∀ k xs r, m_all_unlike k xs = .ok r → xs.length = 1 := by
  intro k xs r h
  cases k with
  | zero => exact nomatch (show (Res.bad : Res (DV × SD)) = .ok r by rw [m_all_unlike] at h; exact h)
  | succ k => rw [m_all_unlike] at h; exact defn_len h
abbrev t_is_way : Stmt := top 3
theorem sc_is_way : FnScope ["square", "way", "column"] ["square", "way"] (defScope t_is_way) := ⟨rfl, rfl, rfl, by decide +kernel, rfl, by decide +kernel, by decide +kernel⟩
theorem m_is_way_len : ∀ k xs r, m_is_way k xs = .ok r → xs.length = 2 := by
  intro k xs r h
  cases k with
  | zero => exact nomatch (show (Res.bad : Res (DV × SD)) = .ok r by rw [m_is_way] at h; exact h)
  | succ k => rw [m_is_way] at h; exact defn_len h
abbrev t_are_mates : Stmt := top 5
theorem sc_are_mates : FnScope ["one", "other", "pairs", "row", "more"] ["one", "other"] (defScope t_are_mates) := ⟨rfl, rfl, rfl, by decide +kernel, rfl, by decide +kernel, by decide +kernel⟩
theorem m_are_mates_len : ∀ k xs r, m_are_mates k xs = .ok r → xs.length = 2 := by
  intro k xs r h
  cases k with
  | zero => exact nomatch (show (Res.bad : Res (DV × SD)) = .ok r by rw [m_are_mates] at h; exact h)
  | succ k => rw [m_are_mates] at h; exact defn_len h
abbrev t_mate_of : Stmt := top 6
theorem sc_mate_of : FnScope ["parting", "found", "number", "way", "row", "column"] ["parting"] (defScope t_mate_of) := ⟨rfl, rfl, rfl, by decide +kernel, rfl, by decide +kernel, by decide +kernel⟩
theorem m_mate_of_len : ∀ k xs r, m_mate_of k xs = .ok r → xs.length = 1 := by
  intro k xs r h
  cases k with
  | zero => exact nomatch (show (Res.bad : Res (DV × SD)) = .ok r by rw [m_mate_of] at h; exact h)
  | succ k => rw [m_mate_of] at h; exact defn_len h
abbrev t_parting_of : Stmt := top 7
theorem sc_parting_of : FnScope ["square", "mate", "number", "row"] ["square", "mate"] (defScope t_parting_of) := ⟨rfl, rfl, rfl, by decide +kernel, rfl, by decide +kernel, by decide +kernel⟩
theorem m_parting_of_len : ∀ k xs r, m_parting_of k xs = .ok r → xs.length = 2 := by
  intro k xs r h
  cases k with
  | zero => exact nomatch (show (Res.bad : Res (DV × SD)) = .ok r by rw [m_parting_of] at h; exact h)
  | succ k => rw [m_parting_of] at h; exact defn_len h
abbrev t_look_at_field : Stmt := top 14
theorem sc_look_at_field : FnScope ["q"] ["q"] (defScope t_look_at_field) := ⟨rfl, rfl, rfl, by decide +kernel, rfl, by decide +kernel, by decide +kernel⟩
theorem m_look_at_field_len : ∀ k xs r, m_look_at_field k xs = .ok r → xs.length = 1 := by
  intro k xs r h
  cases k with
  | zero => exact nomatch (show (Res.bad : Res (DV × SD)) = .ok r by rw [m_look_at_field] at h; exact h)
  | succ k => rw [m_look_at_field] at h; exact defn_len h
abbrev t_digits : Stmt := top 15
theorem sc_digits : FnScope ["number", "base", "many", "found", "k"] ["number", "base", "many"] (defScope t_digits) := ⟨rfl, rfl, rfl, by decide +kernel, rfl, by decide +kernel, by decide +kernel⟩
theorem m_digits_len : ∀ k xs r, m_digits k xs = .ok r → xs.length = 3 := by
  intro k xs r h
  cases k with
  | zero => exact nomatch (show (Res.bad : Res (DV × SD)) = .ok r by rw [m_digits] at h; exact h)
  | succ k => rw [m_digits] at h; exact defn_len h
abbrev t_number_of_digits : Stmt := top 16
theorem sc_number_of_digits : FnScope ["figures", "base", "found", "figure"] ["figures", "base"] (defScope t_number_of_digits) := ⟨rfl, rfl, rfl, by decide +kernel, rfl, by decide +kernel, by decide +kernel⟩
theorem m_number_of_digits_len : ∀ k xs r, m_number_of_digits k xs = .ok r → xs.length = 2 := by
  intro k xs r h
  cases k with
  | zero => exact nomatch (show (Res.bad : Res (DV × SD)) = .ok r by rw [m_number_of_digits] at h; exact h)
  | succ k => rw [m_number_of_digits] at h; exact defn_len h
abbrev t_plus : Stmt := top 17
theorem sc_plus : FnScope ["q", "a", "b", "base", "many", "some", "one", "other"] ["q", "a", "b"] (defScope t_plus) := ⟨rfl, rfl, rfl, by decide +kernel, rfl, by decide +kernel, by decide +kernel⟩
theorem m_plus_len : ∀ k xs r, m_plus k xs = .ok r → xs.length = 3 := by
  intro k xs r h
  cases k with
  | zero => exact nomatch (show (Res.bad : Res (DV × SD)) = .ok r by rw [m_plus] at h; exact h)
  | succ k => rw [m_plus] at h; exact defn_len h
abbrev t_times : Stmt := top 18
theorem sc_times : FnScope ["q", "a", "b", "base", "many", "found", "i", "one", "j", "other", "high", "k", "share"] ["q", "a", "b"] (defScope t_times) := ⟨rfl, rfl, rfl, by decide +kernel, rfl, by decide +kernel, by decide +kernel⟩
theorem m_times_len : ∀ k xs r, m_times k xs = .ok r → xs.length = 3 := by
  intro k xs r h
  cases k with
  | zero => exact nomatch (show (Res.bad : Res (DV × SD)) = .ok r by rw [m_times] at h; exact h)
  | succ k => rw [m_times] at h; exact defn_len h
abbrev t_field_squares : Stmt := top 20
theorem sc_field_squares : FnScope ["q", "found", "m", "r", "c"] ["q"] (defScope t_field_squares) := ⟨rfl, rfl, rfl, by decide +kernel, rfl, by decide +kernel, by decide +kernel⟩
theorem m_field_squares_len : ∀ k xs r, m_field_squares k xs = .ok r → xs.length = 1 := by
  intro k xs r h
  cases k with
  | zero => exact nomatch (show (Res.bad : Res (DV × SD)) = .ok r by rw [m_field_squares] at h; exact h)
  | succ k => rw [m_field_squares] at h; exact defn_len h
abbrev t_product : Stmt := top 21
theorem sc_product : FnScope ["one", "other", "b", "found", "row", "beside", "u", "v"] ["one", "other"] (defScope t_product) := ⟨rfl, rfl, rfl, by decide +kernel, rfl, by decide +kernel, by decide +kernel⟩
theorem m_product_len : ∀ k xs r, m_product k xs = .ok r → xs.length = 2 := by
  intro k xs r h
  cases k with
  | zero => exact nomatch (show (Res.bad : Res (DV × SD)) = .ok r by rw [m_product] at h; exact h)
  | succ k => rw [m_product] at h; exact defn_len h
abbrev t_both_of : Stmt := top 22
theorem sc_both_of : FnScope ["row", "beside", "found", "u", "v"] ["row", "beside"] (defScope t_both_of) := ⟨rfl, rfl, rfl, by decide +kernel, rfl, by decide +kernel, by decide +kernel⟩
theorem m_both_of_len : ∀ k xs r, m_both_of k xs = .ok r → xs.length = 2 := by
  intro k xs r h
  cases k with
  | zero => exact nomatch (show (Res.bad : Res (DV × SD)) = .ok r by rw [m_both_of] at h; exact h)
  | succ k => rw [m_both_of] at h; exact defn_len h
abbrev t_made_set : Stmt := top 23
theorem sc_made_set : FnScope ["n"] ["n"] (defScope t_made_set) := ⟨rfl, rfl, rfl, by decide +kernel, rfl, by decide +kernel, by decide +kernel⟩
theorem m_made_set_len : ∀ k xs r, m_made_set k xs = .ok r → xs.length = 1 := by
  intro k xs r h
  cases k with
  | zero => exact nomatch (show (Res.bad : Res (DV × SD)) = .ok r by rw [m_made_set] at h; exact h)
  | succ k => rw [m_made_set] at h; exact defn_len h
abbrev t_is_set : Stmt := top 25
theorem sc_is_set : FnScope ["squares", "k", "one", "other"] ["squares"] (defScope t_is_set) := ⟨rfl, rfl, rfl, by decide +kernel, rfl, by decide +kernel, by decide +kernel⟩
theorem m_is_set_len : ∀ k xs r, m_is_set k xs = .ok r → xs.length = 1 := by
  intro k xs r h
  cases k with
  | zero => exact nomatch (show (Res.bad : Res (DV × SD)) = .ok r by rw [m_is_set] at h; exact h)
  | succ k => rw [m_is_set] at h; exact defn_len h
abbrev t_column_of : Stmt := top 26
theorem sc_column_of : FnScope ["row", "thing", "column", "other"] ["row", "thing"] (defScope t_column_of) := ⟨rfl, rfl, rfl, by decide +kernel, rfl, by decide +kernel, by decide +kernel⟩
theorem m_column_of_len : ∀ k xs r, m_column_of k xs = .ok r → xs.length = 2 := by
  intro k xs r h
  cases k with
  | zero => exact nomatch (show (Res.bad : Res (DV × SD)) = .ok r by rw [m_column_of] at h; exact h)
  | succ k => rw [m_column_of] at h; exact defn_len h
abbrev t_witness : Stmt := top 27
theorem sc_witness : FnScope ["squares", "square"] ["squares"] (defScope t_witness) := ⟨rfl, rfl, rfl, by decide +kernel, rfl, by decide +kernel, by decide +kernel⟩
theorem m_witness_len : ∀ k xs r, m_witness k xs = .ok r → xs.length = 1 := by
  intro k xs r h
  cases k with
  | zero => exact nomatch (show (Res.bad : Res (DV × SD)) = .ok r by rw [m_witness] at h; exact h)
  | succ k => rw [m_witness] at h; exact defn_len h
abbrev t_l_mix : Stmt := top 29
theorem sc_l_mix : FnScope ["_law_cell", "_law_turn", "_law_number"] ["_law_cell", "_law_turn"] (defScope t_l_mix) := ⟨rfl, rfl, rfl, by decide +kernel, rfl, by decide +kernel, by decide +kernel⟩
theorem m_l_mix_len : ∀ k xs r, m_l_mix k xs = .ok r → xs.length = 2 := by
  intro k xs r h
  cases k with
  | zero => exact nomatch (show (Res.bad : Res (DV × SD)) = .ok r by rw [m_l_mix] at h; exact h)
  | succ k => rw [m_l_mix] at h; exact defn_len h
abbrev t_l_draws : Stmt := top 30
theorem sc_l_draws : FnScope ["_law_script", "_law_turn", "_law_many", "_law_spots", "_law_lefts", "_law_found", "_law_k", "_law_at", "_law_number", "_law_cell"] ["_law_script", "_law_turn", "_law_many"] (defScope t_l_draws) := ⟨rfl, rfl, rfl, by decide +kernel, rfl, by decide +kernel, by decide +kernel⟩
theorem m_l_draws_len : ∀ k xs r, m_l_draws k xs = .ok r → xs.length = 3 := by
  intro k xs r h
  cases k with
  | zero => exact nomatch (show (Res.bad : Res (DV × SD)) = .ok r by rw [m_l_draws] at h; exact h)
  | succ k => rw [m_l_draws] at h; exact defn_len h
abbrev t_l_pop : Stmt := top 31
theorem sc_l_pop : FnScope ["_law_draws_here"] ["_law_draws_here"] (defScope t_l_pop) := ⟨rfl, rfl, rfl, by decide +kernel, rfl, by decide +kernel, by decide +kernel⟩
theorem m_l_pop_len : ∀ k xs r, m_l_pop k xs = .ok r → xs.length = 1 := by
  intro k xs r h
  cases k with
  | zero => exact nomatch (show (Res.bad : Res (DV × SD)) = .ok r by rw [m_l_pop] at h; exact h)
  | succ k => rw [m_l_pop] at h; exact defn_len h
abbrev t_law : Stmt := top 32
theorem sc_law : FnScope ["_law_script", "_law_draws_here", "_law_q", "_law_squares", "_law_one", "_law_other", "_law_parting", "_law_n", "_law_made", "_law_k", "_law_square", "_law_told", "_law_way", "_law_more"] ["_law_script"] (defScope t_law) := ⟨rfl, rfl, rfl, by decide +kernel, rfl, by decide +kernel, by decide +kernel⟩
theorem m_law_len : ∀ k xs r, m_law k xs = .ok r → xs.length = 1 := by
  intro k xs r h
  cases k with
  | zero => exact nomatch (show (Res.bad : Res (DV × SD)) = .ok r by rw [m_law] at h; exact h)
  | succ k => rw [m_law] at h; exact defn_len h
/-! ### what the top left -/
structure Tx (w : World) (K : PySem.W.Frag) (mg : Str → Option Value) where
  a_things_on : Addr
  fd_things_on : FuncData
  F_things_on : FnP K "things_on" t_things_on a_things_on fd_things_on
  g_things_on : mg "things_on" = some (.ref a_things_on)
  b_things_on : Binds K fd_things_on ["square", "way"] []
  a_all_unlike : Addr
  fd_all_unlike : FuncData
  F_all_unlike : FnP K "all_unlike" t_all_unlike a_all_unlike fd_all_unlike
  g_all_unlike : mg "all_unlike" = some (.ref a_all_unlike)
  b_all_unlike : Binds K fd_all_unlike ["numbers"] []
  a_is_way : Addr
  fd_is_way : FuncData
  F_is_way : FnP K "is_way" t_is_way a_is_way fd_is_way
  g_is_way : mg "is_way" = some (.ref a_is_way)
  b_is_way : Binds K fd_is_way ["square", "way"] []
  a_are_mates : Addr
  fd_are_mates : FuncData
  F_are_mates : FnP K "are_mates" t_are_mates a_are_mates fd_are_mates
  g_are_mates : mg "are_mates" = some (.ref a_are_mates)
  b_are_mates : Binds K fd_are_mates ["one", "other"] []
  a_mate_of : Addr
  fd_mate_of : FuncData
  F_mate_of : FnP K "mate_of" t_mate_of a_mate_of fd_mate_of
  g_mate_of : mg "mate_of" = some (.ref a_mate_of)
  b_mate_of : Binds K fd_mate_of ["parting"] []
  a_parting_of : Addr
  fd_parting_of : FuncData
  F_parting_of : FnP K "parting_of" t_parting_of a_parting_of fd_parting_of
  g_parting_of : mg "parting_of" = some (.ref a_parting_of)
  b_parting_of : Binds K fd_parting_of ["square", "mate"] []
  a_look_at_field : Addr
  fd_look_at_field : FuncData
  F_look_at_field : FnP K "look_at_field" t_look_at_field a_look_at_field fd_look_at_field
  g_look_at_field : mg "look_at_field" = some (.ref a_look_at_field)
  b_look_at_field : Binds K fd_look_at_field ["q"] []
  a_digits : Addr
  fd_digits : FuncData
  F_digits : FnP K "digits" t_digits a_digits fd_digits
  g_digits : mg "digits" = some (.ref a_digits)
  b_digits : Binds K fd_digits ["number", "base", "many"] []
  a_number_of_digits : Addr
  fd_number_of_digits : FuncData
  F_number_of_digits : FnP K "number_of_digits" t_number_of_digits a_number_of_digits fd_number_of_digits
  g_number_of_digits : mg "number_of_digits" = some (.ref a_number_of_digits)
  b_number_of_digits : Binds K fd_number_of_digits ["figures", "base"] []
  a_plus : Addr
  fd_plus : FuncData
  F_plus : FnP K "plus" t_plus a_plus fd_plus
  g_plus : mg "plus" = some (.ref a_plus)
  b_plus : Binds K fd_plus ["q", "a", "b"] []
  a_times : Addr
  fd_times : FuncData
  F_times : FnP K "times" t_times a_times fd_times
  g_times : mg "times" = some (.ref a_times)
  b_times : Binds K fd_times ["q", "a", "b"] []
  a_field_squares : Addr
  fd_field_squares : FuncData
  F_field_squares : FnP K "field_squares" t_field_squares a_field_squares fd_field_squares
  g_field_squares : mg "field_squares" = some (.ref a_field_squares)
  b_field_squares : Binds K fd_field_squares ["q"] []
  a_product : Addr
  fd_product : FuncData
  F_product : FnP K "product" t_product a_product fd_product
  g_product : mg "product" = some (.ref a_product)
  b_product : Binds K fd_product ["one", "other"] []
  a_both_of : Addr
  fd_both_of : FuncData
  F_both_of : FnP K "both_of" t_both_of a_both_of fd_both_of
  g_both_of : mg "both_of" = some (.ref a_both_of)
  b_both_of : Binds K fd_both_of ["row", "beside"] []
  a_made_set : Addr
  fd_made_set : FuncData
  F_made_set : FnP K "made_set" t_made_set a_made_set fd_made_set
  g_made_set : mg "made_set" = some (.ref a_made_set)
  b_made_set : Binds K fd_made_set ["n"] []
  a_is_set : Addr
  fd_is_set : FuncData
  F_is_set : FnP K "is_set" t_is_set a_is_set fd_is_set
  g_is_set : mg "is_set" = some (.ref a_is_set)
  b_is_set : Binds K fd_is_set ["squares"] []
  a_column_of : Addr
  fd_column_of : FuncData
  F_column_of : FnP K "column_of" t_column_of a_column_of fd_column_of
  g_column_of : mg "column_of" = some (.ref a_column_of)
  b_column_of : Binds K fd_column_of ["row", "thing"] []
  a_witness : Addr
  fd_witness : FuncData
  F_witness : FnP K "witness" t_witness a_witness fd_witness
  g_witness : mg "witness" = some (.ref a_witness)
  b_witness : Binds K fd_witness ["squares"] []
  a_l_mix : Addr
  fd_l_mix : FuncData
  F_l_mix : FnP K "_law_mix" t_l_mix a_l_mix fd_l_mix
  g_l_mix : mg "_law_mix" = some (.ref a_l_mix)
  b_l_mix : Binds K fd_l_mix ["_law_cell", "_law_turn"] []
  a_l_draws : Addr
  fd_l_draws : FuncData
  F_l_draws : FnP K "_law_draws" t_l_draws a_l_draws fd_l_draws
  g_l_draws : mg "_law_draws" = some (.ref a_l_draws)
  b_l_draws : Binds K fd_l_draws ["_law_script", "_law_turn", "_law_many"] []
  a_l_pop : Addr
  fd_l_pop : FuncData
  F_l_pop : FnP K "_law_pop" t_l_pop a_l_pop fd_l_pop
  g_l_pop : mg "_law_pop" = some (.ref a_l_pop)
  b_l_pop : Binds K fd_l_pop ["_law_draws_here"] []
  a_law : Addr
  fd_law : FuncData
  F_law : FnP K "law" t_law a_law fd_law
  g_law : mg "law" = some (.ref a_law)
  b_law : Binds K fd_law ["_law_script"] []
  z_any : mg "any" = none
  z_enumerate : mg "enumerate" = none
  z_len : mg "len" = none
  z_list : mg "list" = none
  z_range : mg "range" = none
  z_reversed : mg "reversed" = none
  z_zip : mg "zip" = none
  k_POWERS : Addr
  c_POWERS : IDict K k_POWERS tab_POWERS
  g_POWERS : mg "POWERS" = some (.ref k_POWERS)
  k_HIGHEST : Addr
  c_HIGHEST : IDict K k_HIGHEST tab_HIGHEST
  g_HIGHEST : mg "HIGHEST" = some (.ref k_HIGHEST)
structure OkAll (P : Program) (w : World) (K : PySem.W.Frag) (mg : Str → Option Value) (base : Heap) (T : Tx w K mg) (k : Nat) : Prop where
  f_things_on : FnG P w K mg base k T.a_things_on T.fd_things_on ["square", "way"] (spF K 2 (m_things_on k))
  f_all_unlike : FnG P w K mg base k T.a_all_unlike T.fd_all_unlike ["numbers"] (spF K 1 (m_all_unlike k))
  f_is_way : FnG P w K mg base k T.a_is_way T.fd_is_way ["square", "way"] (spF K 2 (m_is_way k))
  f_are_mates : FnG P w K mg base k T.a_are_mates T.fd_are_mates ["one", "other"] (spF K 2 (m_are_mates k))
  f_mate_of : FnG P w K mg base k T.a_mate_of T.fd_mate_of ["parting"] (spF K 1 (m_mate_of k))
  f_parting_of : FnG P w K mg base k T.a_parting_of T.fd_parting_of ["square", "mate"] (spF K 2 (m_parting_of k))
  f_look_at_field : FnG P w K mg base k T.a_look_at_field T.fd_look_at_field ["q"] (spF K 1 (m_look_at_field k))
  f_digits : FnG P w K mg base k T.a_digits T.fd_digits ["number", "base", "many"] (spF K 3 (m_digits k))
  f_number_of_digits : FnG P w K mg base k T.a_number_of_digits T.fd_number_of_digits ["figures", "base"] (spF K 2 (m_number_of_digits k))
  f_plus : FnG P w K mg base k T.a_plus T.fd_plus ["q", "a", "b"] (spF K 3 (m_plus k))
  f_times : FnG P w K mg base k T.a_times T.fd_times ["q", "a", "b"] (spF K 3 (m_times k))
  f_field_squares : FnG P w K mg base k T.a_field_squares T.fd_field_squares ["q"] (spF K 1 (m_field_squares k))
  f_product : FnG P w K mg base k T.a_product T.fd_product ["one", "other"] (spF K 2 (m_product k))
  f_both_of : FnG P w K mg base k T.a_both_of T.fd_both_of ["row", "beside"] (spF K 2 (m_both_of k))
  f_made_set : FnG P w K mg base k T.a_made_set T.fd_made_set ["n"] (spF K 1 (m_made_set k))
  f_is_set : FnG P w K mg base k T.a_is_set T.fd_is_set ["squares"] (spF K 1 (m_is_set k))
  f_column_of : FnG P w K mg base k T.a_column_of T.fd_column_of ["row", "thing"] (spF K 2 (m_column_of k))
  f_witness : FnG P w K mg base k T.a_witness T.fd_witness ["squares"] (spF K 1 (m_witness k))
  f_l_mix : FnG P w K mg base k T.a_l_mix T.fd_l_mix ["_law_cell", "_law_turn"] (spF K 2 (m_l_mix k))
  f_l_draws : FnG P w K mg base k T.a_l_draws T.fd_l_draws ["_law_script", "_law_turn", "_law_many"] (spF K 3 (m_l_draws k))
  f_l_pop : FnG P w K mg base k T.a_l_pop T.fd_l_pop ["_law_draws_here"] (spF K 1 (m_l_pop k))
  f_law : FnG P w K mg base k T.a_law T.fd_law ["_law_script"] (spF K 1 (m_law k))
section
variable {P : Program} {w : World} {K : PySem.W.Frag} {mg : Str → Option Value} {base : Heap} {T : Tx w K mg} {k : Nat}
set_option maxHeartbeats 4000000 in
theorem s_things_on (O : OkAll P w K mg base T k) : FnG P w K mg base (k + 1) T.a_things_on T.fd_things_on ["square", "way"] (spF K 2 (m_things_on (k + 1))) := by
  have sc := sc_things_on
  exact fn_stepG T.F_things_on sc rfl rfl fun cdv A outer s H E hr => ⟨_, _, (rs_one (rs_ret (re_lc (own := [("row", 2), ("column", 3)]) (by rfl) sc.nd (ri_enum (by rfl) T.z_enumerate (ra_cons (xv 1) ra_nil) (fun h => pi_enum (by rfl) T.z_enumerate h)) (blkOk_by (by rfl)) (fun _ _ _ _ _ => (rg_tup (by rfl) (rgs_cons (xg 2 sc.nd) (rgs_cons (xg 3 sc.nd) rgs_nil)))) (fun _ _ _ _ _ => rts_nil) (fun _ _ _ _ _ => (re_ix (re_ix (xv 0) (xv 2) (fun _ _ => (by rfl))) (xv 3) (fun _ _ => (by rfl))))))), by rfl⟩
set_option maxHeartbeats 4000000 in
theorem s_all_unlike (O : OkAll P w K mg base T k) : FnG P w K mg base (k + 1) T.a_all_unlike T.fd_all_unlike ["numbers"] (spF K 1 (m_all_unlike (k + 1))) := by
  have sc := sc_all_unlike
  exact fn_stepG T.F_all_unlike sc rfl rfl fun cdv A outer s H E hr => ⟨_, _, (rs_one (rs_ret (re_not (xany T.z_any (ra_cons (re_lc (own := [("k", 1), ("number", 2)]) (by rfl) sc.nd (ri_enum (by rfl) T.z_enumerate (ra_cons (xv 0) ra_nil) (fun h => pi_enum (by rfl) T.z_enumerate h)) (blkOk_by (by rfl)) (fun _ _ _ _ _ => (rg_tup (by rfl) (rgs_cons (xg 1 sc.nd) (rgs_cons (xg 2 sc.nd) rgs_nil)))) (fun _ _ _ _ _ => rts_nil) (fun _ _ _ _ _ => (xin hr.r (xv 2) (re_slice (xv 0) ro_none (ro_some (xv 1)))))) ra_nil))))), by rfl⟩
set_option maxHeartbeats 4000000 in
theorem s_is_way (O : OkAll P w K mg base T k) : FnG P w K mg base (k + 1) T.a_is_way T.fd_is_way ["square", "way"] (spF K 2 (m_is_way (k + 1))) := by
  have sc := sc_is_way
  exact fn_stepG T.F_is_way sc rfl rfl fun cdv A outer s H E hr => ⟨_, _, (rs_cons (rs_if (rt_w (rw_or (zne hr.r (re_flatI (xlen T.z_len (ra_cons (xv 1) ra_nil)) (intV_len _)) (re_flatI (xlen T.z_len (ra_cons (xv 0) ra_nil)) (intV_len _))) (rw_or1 (rt_val (xany T.z_any (ra_cons (re_lc (own := [("column", 2)]) (by rfl) sc.nd (ri_list (xv 1)) (blkOk_by (by rfl)) (fun _ _ _ _ _ => (xg 2 sc.nd)) (fun _ _ _ _ _ => rts_nil) (fun _ _ _ _ _ => (re_or (xlt (xv 2) re_int) (re_one (xge (xv 2) (re_flatI (xlen T.z_len (ra_cons (xv 0) ra_nil)) (intV_len _))))))) ra_nil))))))
  (rs_one (rs_ret re_bl))
  rs_nil)
  (rs_one (rs_ret (re_and (re_callG O.f_all_unlike hr (by rfl) T.g_all_unlike T.F_all_unlike.kp T.b_all_unlike (E := E0) (m_all_unlike_len _) [] (ra_cons (xv 1) ra_nil)) (re_one (re_callG O.f_all_unlike hr (by rfl) T.g_all_unlike T.F_all_unlike.kp T.b_all_unlike (E := E0) (m_all_unlike_len _) [] (ra_cons (re_callG O.f_things_on hr (by rfl) T.g_things_on T.F_things_on.kp T.b_things_on (E := E0) (m_things_on_len _) [] (ra_cons (xv 0) (ra_cons (xv 1) ra_nil))) ra_nil))))))), by rfl⟩
set_option maxHeartbeats 4000000 in
theorem s_are_mates (O : OkAll P w K mg base T k) : FnG P w K mg base (k + 1) T.a_are_mates T.fd_are_mates ["one", "other"] (spF K 2 (m_are_mates (k + 1))) := by
  have sc := sc_are_mates
  exact fn_stepG T.F_are_mates sc rfl rfl fun cdv A outer s H E hr => ⟨_, _, (rs_cons (xset (i := 2) sc.nd (re_list ra_nil))
  (rs_cons (rs_for PassesOwn.never (by rfl) (ri_zip (by rfl) T.z_zip (ra_cons (xv 0) (ra_cons (xv 1) ra_nil)) (fun h => pi_zip (by rfl) T.z_zip h)) (rg_tup (by rfl) (rgs_cons (xg 3 sc.nd) (rgs_cons (xg 4 sc.nd) rgs_nil)))
  (rs_one (rs_extend (xp 2) (re_listZip T.z_list T.z_zip (ra_cons (xv 3) (ra_cons (xv 4) ra_nil))))))
  (rs_one (rs_ret (re_callG O.f_all_unlike hr (by rfl) T.g_all_unlike T.F_all_unlike.kp T.b_all_unlike (E := E0) (m_all_unlike_len _) [] (ra_cons (xv 2) ra_nil)))))), by rfl⟩
set_option maxHeartbeats 4000000 in
theorem s_mate_of (O : OkAll P w K mg base T k) : FnG P w K mg base (k + 1) T.a_mate_of T.fd_mate_of ["parting"] (spF K 1 (m_mate_of (k + 1))) := by
  have sc := sc_mate_of
  exact fn_stepG T.F_mate_of sc rfl rfl fun cdv A outer s H E hr => ⟨_, _, (rs_cons (rs_asgLc (i := 1) (own := [("way", 3)]) (by rfl) sc.nd (by rfl) (by rfl) (sw_true (by rfl) (by rfl) (by rfl) (by rfl)) (ri_list (xv 0)) (blkOk_by (by rfl)) (fun _ _ _ _ _ => (xg 3 sc.nd)) (fun _ _ _ _ _ => rts_nil) (fun _ _ _ _ _ => (re_lc (own := [("way", 3)]) (by rfl) sc.nd (ri_list (xv 0)) (blkOk_by (by rfl)) (fun _ _ _ _ _ => (xg 3 sc.nd)) (fun _ _ _ _ _ => rts_nil) (fun _ _ _ _ _ => re_int))))
  (rs_cons (rs_for PassesOwn.never (by rfl) (ri_enum (by rfl) T.z_enumerate (ra_cons (xv 0) ra_nil) (fun h => pi_enum (by rfl) T.z_enumerate h)) (rg_tup (by rfl) (rgs_cons (xg 2 sc.nd) (rgs_cons (xg 3 sc.nd) rgs_nil)))
  (rs_one (rs_for PassesOwn.never (by rfl) (ri_enum (by rfl) T.z_enumerate (ra_cons (xv 3) ra_nil) (fun h => pi_enum (by rfl) T.z_enumerate h)) (rg_tup (by rfl) (rgs_cons (xg 4 sc.nd) (rgs_cons (xg 5 sc.nd) rgs_nil)))
  (rs_one (rs_setitem (xv 2) (rp_idx (xp 1) (xv 4) (fun _ _ => (by rfl))) (xv 5) (hs := pg_sub (rp_idx (xp 1) (xv 4) (fun _ _ => (by rfl))) (xv 5) set_list))))))
  (rs_one (rs_ret (xm 1))))), by rfl⟩
set_option maxHeartbeats 4000000 in
theorem s_parting_of (O : OkAll P w K mg base T k) : FnG P w K mg base (k + 1) T.a_parting_of T.fd_parting_of ["square", "mate"] (spF K 2 (m_parting_of (k + 1))) := by
  have sc := sc_parting_of
  exact fn_stepG T.F_parting_of sc rfl rfl fun cdv A outer s H E hr => ⟨_, _, (rs_one (rs_ret (re_lc (own := [("number", 2)]) (by rfl) sc.nd (ri_range1 (by rfl) T.z_range (ra_cons (re_flatI (xlen T.z_len (ra_cons (xv 0) ra_nil)) (intV_len _)) ra_nil)) (blkOk_by (by rfl)) (fun _ _ _ _ _ => (xg 2 sc.nd)) (fun _ _ _ _ _ => rts_nil) (fun _ _ _ _ _ => (re_lc (own := [("row", 3)]) (by rfl) sc.nd (ri_list (xv 1)) (blkOk_by (by rfl)) (fun _ _ _ _ _ => (xg 3 sc.nd)) (fun _ _ _ _ _ => rts_nil) (fun _ _ _ _ _ => (re_index hr.r (xv 3) (xv 2)))))))), by rfl⟩
set_option maxHeartbeats 4000000 in
theorem s_look_at_field (O : OkAll P w K mg base T k) : FnG P w K mg base (k + 1) T.a_look_at_field T.fd_look_at_field ["q"] (spF K 1 (m_look_at_field (k + 1))) := by
  have sc := sc_look_at_field
  exact fn_stepG T.F_look_at_field sc rfl rfl fun cdv A outer s H E hr => ⟨_, _, (rs_one (rs_if (zinot T.c_POWERS (by rfl) T.g_POWERS (xv 0))
  (rs_one rs_never)
  rs_nil)), by rfl⟩
set_option maxHeartbeats 4000000 in
theorem s_digits (O : OkAll P w K mg base T k) : FnG P w K mg base (k + 1) T.a_digits T.fd_digits ["number", "base", "many"] (spF K 3 (m_digits (k + 1))) := by
  have sc := sc_digits
  exact fn_stepG T.F_digits sc rfl rfl fun cdv A outer s H E hr => ⟨_, _, (rs_cons (xset (i := 3) sc.nd (re_list ra_nil))
  (rs_cons (rs_for PassesOwn.never (by rfl) (ri_range1 (by rfl) T.z_range (ra_cons (xv 2) ra_nil)) (xg 4 sc.nd)
  (rs_cons (rs_append (xp 3) (xmod (xv 0) (xv 1)))
  (rs_one (xset (i := 0) sc.nd (xfdiv (xv 0) (xv 1))))))
  (rs_one (rs_ret (xm 3))))), by rfl⟩
set_option maxHeartbeats 4000000 in
theorem s_number_of_digits (O : OkAll P w K mg base T k) : FnG P w K mg base (k + 1) T.a_number_of_digits T.fd_number_of_digits ["figures", "base"] (spF K 2 (m_number_of_digits (k + 1))) := by
  have sc := sc_number_of_digits
  exact fn_stepG T.F_number_of_digits sc rfl rfl fun cdv A outer s H E hr => ⟨_, _, (rs_cons (xset (i := 2) sc.nd re_int)
  (rs_cons (rs_for PassesOwn.never (by rfl) (ri_rev (by rfl) T.z_reversed (ra_cons (xv 0) ra_nil) (fun h => pi_reversed (by rfl) T.z_reversed h)) (xg 3 sc.nd)
  (rs_one (xset (i := 2) sc.nd (xadd (xmul (xv 2) (xv 1)) (xmod (xv 3) (xv 1))))))
  (rs_one (rs_ret (xm 2))))), by rfl⟩
set_option maxHeartbeats 4000000 in
theorem s_plus (O : OkAll P w K mg base T k) : FnG P w K mg base (k + 1) T.a_plus T.fd_plus ["q", "a", "b"] (spF K 3 (m_plus (k + 1))) := by
  have sc := sc_plus
  exact fn_stepG T.F_plus sc rfl rfl fun cdv A outer s H E hr => ⟨_, _, (rs_cons (rs_expr (re_callG O.f_look_at_field hr (by rfl) T.g_look_at_field T.F_look_at_field.kp T.b_look_at_field (E := E0) (m_look_at_field_len _) [] (ra_cons (xv 0) ra_nil)))
  (rs_cons (rs_asgT (re_iget T.c_POWERS (by rfl) T.g_POWERS (xv 0) (fun _ _ => (by rfl))) (rg_tup (by rfl) (rgs_cons (xg 3 sc.nd) (rgs_cons (xg 4 sc.nd) rgs_nil))))
  (rs_cons (rs_asgLc (i := 5) (own := [("one", 6), ("other", 7)]) (by rfl) sc.nd (by rfl) (by rfl) (sw_true (by rfl) (by rfl) (by rfl) (by rfl)) (ri_zip (by rfl) T.z_zip (ra_cons (re_callG O.f_digits hr (by rfl) T.g_digits T.F_digits.kp T.b_digits (E := E0) (m_digits_len _) [] (ra_cons (xv 1) (ra_cons (xv 3) (ra_cons (xv 4) ra_nil)))) (ra_cons (re_callG O.f_digits hr (by rfl) T.g_digits T.F_digits.kp T.b_digits (E := E0) (m_digits_len _) [] (ra_cons (xv 2) (ra_cons (xv 3) (ra_cons (xv 4) ra_nil)))) ra_nil)) (fun h => pi_zip (by rfl) T.z_zip h)) (blkOk_by (by rfl)) (fun _ _ _ _ _ => (rg_tup (by rfl) (rgs_cons (xg 6 sc.nd) (rgs_cons (xg 7 sc.nd) rgs_nil)))) (fun _ _ _ _ _ => rts_nil) (fun _ _ _ _ _ => (xadd (xv 6) (xv 7))))
  (rs_one (rs_ret (re_callG O.f_number_of_digits hr (by rfl) T.g_number_of_digits T.F_number_of_digits.kp T.b_number_of_digits (E := E0) (m_number_of_digits_len _) [] (ra_cons (xv 5) (ra_cons (xv 3) ra_nil)))))))), by rfl⟩
set_option maxHeartbeats 4000000 in
theorem s_times (O : OkAll P w K mg base T k) : FnG P w K mg base (k + 1) T.a_times T.fd_times ["q", "a", "b"] (spF K 3 (m_times (k + 1))) := by
  have sc := sc_times
  exact fn_stepG T.F_times sc rfl rfl fun cdv A outer s H E hr => ⟨_, _, (rs_cons (rs_expr (re_callG O.f_look_at_field hr (by rfl) T.g_look_at_field T.F_look_at_field.kp T.b_look_at_field (E := E0) (m_look_at_field_len _) [] (ra_cons (xv 0) ra_nil)))
  (rs_cons (rs_asgT (re_iget T.c_POWERS (by rfl) T.g_POWERS (xv 0) (fun _ _ => (by rfl))) (rg_tup (by rfl) (rgs_cons (xg 3 sc.nd) (rgs_cons (xg 4 sc.nd) rgs_nil))))
  (rs_cons (rs_if (zeq hr.r (xv 4) re_int)
  (rs_one (rs_ret (xmod (xmul (xv 1) (xv 2)) (xv 0))))
  rs_nil)
  (rs_cons (xset (i := 5) sc.nd (xmul (re_list (ra_cons re_int ra_nil)) (xsub (xmul re_int (xv 4)) re_int)))
  (rs_cons (rs_for PassesOwn.never (by rfl) (ri_enum (by rfl) T.z_enumerate (ra_cons (re_callG O.f_digits hr (by rfl) T.g_digits T.F_digits.kp T.b_digits (E := E0) (m_digits_len _) [] (ra_cons (xv 1) (ra_cons (xv 3) (ra_cons (xv 4) ra_nil)))) ra_nil) (fun h => pi_enum (by rfl) T.z_enumerate h)) (rg_tup (by rfl) (rgs_cons (xg 6 sc.nd) (rgs_cons (xg 7 sc.nd) rgs_nil)))
  (rs_one (rs_for PassesOwn.never (by rfl) (ri_enum (by rfl) T.z_enumerate (ra_cons (re_callG O.f_digits hr (by rfl) T.g_digits T.F_digits.kp T.b_digits (E := E0) (m_digits_len _) [] (ra_cons (xv 2) (ra_cons (xv 3) (ra_cons (xv 4) ra_nil)))) ra_nil) (fun h => pi_enum (by rfl) T.z_enumerate h)) (rg_tup (by rfl) (rgs_cons (xg 8 sc.nd) (rgs_cons (xg 9 sc.nd) rgs_nil)))
  (rs_one (rs_setitem (xadd (re_ix (xv 5) (xadd (xv 6) (xv 8)) (fun _ _ => (by rfl))) (xmul (xv 7) (xv 9))) (xp 5) (xadd (xv 6) (xv 8)) (hs := pg_sub (xp 5) (xadd (xv 6) (xv 8)) set_list))))))
  (rs_cons (rs_for PassesOwn.never (by rfl) (ri_range3 (by rfl) T.z_range (ra_cons (xsub (xmul re_int (xv 4)) re_int) (ra_cons (xsub (xv 4) re_int) (ra_cons (re_un un_neg ok_neg re_int) ra_nil)))) (xg 10 sc.nd)
  (rs_one (rs_for PassesOwn.never (by rfl) (ri_enumT (by rfl) T.z_enumerate (ra_cons (re_iget T.c_HIGHEST (by rfl) T.g_HIGHEST (xv 0) (fun _ _ => (by rfl))) ra_nil) (fun h => pi_enumT (by rfl) T.z_enumerate h)) (rg_tup (by rfl) (rgs_cons (xg 11 sc.nd) (rgs_cons (xg 12 sc.nd) rgs_nil)))
  (rs_one (rs_setitem (xadd (re_ix (xv 5) (xadd (xsub (xv 10) (xv 4)) (xv 11)) (fun _ _ => (by rfl))) (xmul (re_ix (xv 5) (xv 10) (fun _ _ => (by rfl))) (xv 12))) (xp 5) (xadd (xsub (xv 10) (xv 4)) (xv 11)) (hs := pg_sub (xp 5) (xadd (xsub (xv 10) (xv 4)) (xv 11)) set_list))))))
  (rs_one (rs_ret (re_callG O.f_number_of_digits hr (by rfl) T.g_number_of_digits T.F_number_of_digits.kp T.b_number_of_digits (E := E0) (m_number_of_digits_len _) [] (ra_cons (re_slice (xv 5) ro_none (ro_some (xv 4))) (ra_cons (xv 3) ra_nil))))))))))), by rfl⟩
set_option maxHeartbeats 4000000 in
theorem s_field_squares (O : OkAll P w K mg base T k) : FnG P w K mg base (k + 1) T.a_field_squares T.fd_field_squares ["q"] (spF K 1 (m_field_squares (k + 1))) := by
  have sc := sc_field_squares
  exact fn_stepG T.F_field_squares sc rfl rfl fun cdv A outer s H E hr => ⟨_, _, (rs_cons (rs_expr (re_callG O.f_look_at_field hr (by rfl) T.g_look_at_field T.F_look_at_field.kp T.b_look_at_field (E := E0) (m_look_at_field_len _) [] (ra_cons (xv 0) ra_nil)))
  (rs_cons (xset (i := 1) sc.nd (re_list ra_nil))
  (rs_cons (rs_for PassesOwn.never (by rfl) (ri_range2 (by rfl) T.z_range (ra_cons re_int (ra_cons (xv 0) ra_nil))) (xg 2 sc.nd)
  (rs_one (rs_append (xp 1) (re_lc (own := [("r", 3)]) (by rfl) sc.nd (ri_range1 (by rfl) T.z_range (ra_cons (xv 0) ra_nil)) (blkOk_by (by rfl)) (fun _ _ _ _ _ => (xg 3 sc.nd)) (fun _ _ _ _ _ => rts_nil) (fun _ _ _ _ _ => (re_lc (own := [("c", 4)]) (by rfl) sc.nd (ri_range1 (by rfl) T.z_range (ra_cons (xv 0) ra_nil)) (blkOk_by (by rfl)) (fun _ _ _ _ _ => (xg 4 sc.nd)) (fun _ _ _ _ _ => rts_nil) (fun _ _ _ _ _ => (re_callG O.f_plus hr (by rfl) T.g_plus T.F_plus.kp T.b_plus (E := E0) (m_plus_len _) [] (ra_cons (xv 0) (ra_cons (re_callG O.f_times hr (by rfl) T.g_times T.F_times.kp T.b_times (E := E0) (m_times_len _) [] (ra_cons (xv 0) (ra_cons (xv 2) (ra_cons (xv 3) ra_nil)))) (ra_cons (xv 4) ra_nil)))))))))))
  (rs_one (rs_ret (xm 1)))))), by rfl⟩
set_option maxHeartbeats 4000000 in
theorem s_product (O : OkAll P w K mg base T k) : FnG P w K mg base (k + 1) T.a_product T.fd_product ["one", "other"] (spF K 2 (m_product (k + 1))) := by
  have sc := sc_product
  exact fn_stepG T.F_product sc rfl rfl fun cdv A outer s H E hr => ⟨_, _, (rs_cons (xset (i := 2) sc.nd (re_flatI (xlen T.z_len (ra_cons (xv 1) ra_nil)) (intV_len _)))
  (rs_cons (xset (i := 3) sc.nd (re_list ra_nil))
  (rs_cons (rs_for PassesOwn.never (by rfl) (ri_list (xv 0)) (xg 4 sc.nd)
  (rs_one (rs_for PassesOwn.never (by rfl) (ri_list (xv 1)) (xg 5 sc.nd)
  (rs_one (rs_append (xp 3) (re_lc (own := [("u", 6), ("v", 7)]) (by rfl) sc.nd (ri_list (re_callG O.f_both_of hr (by rfl) T.g_both_of T.F_both_of.kp T.b_both_of (E := E0) (m_both_of_len _) [] (ra_cons (xv 4) (ra_cons (xv 5) ra_nil)))) (blkOk_by (by rfl)) (fun _ _ _ _ _ => (rg_tup (by rfl) (rgs_cons (xg 6 sc.nd) (rgs_cons (xg 7 sc.nd) rgs_nil)))) (fun _ _ _ _ _ => rts_nil) (fun _ _ _ _ _ => (xadd (xmul (xv 2) (xv 6)) (xv 7)))))))))
  (rs_one (rs_ret (xm 3)))))), by rfl⟩
set_option maxHeartbeats 4000000 in
theorem s_both_of (O : OkAll P w K mg base T k) : FnG P w K mg base (k + 1) T.a_both_of T.fd_both_of ["row", "beside"] (spF K 2 (m_both_of (k + 1))) := by
  have sc := sc_both_of
  exact fn_stepG T.F_both_of sc rfl rfl fun cdv A outer s H E hr => ⟨_, _, (rs_cons (xset (i := 2) sc.nd (re_list ra_nil))
  (rs_cons (rs_for PassesOwn.never (by rfl) (ri_list (xv 0)) (xg 3 sc.nd)
  (rs_one (xset (i := 2) sc.nd (xadd (xv 2) (re_lc (own := [("v", 4)]) (by rfl) sc.nd (ri_list (xv 1)) (blkOk_by (by rfl)) (fun _ _ _ _ _ => (xg 4 sc.nd)) (fun _ _ _ _ _ => rts_nil) (fun _ _ _ _ _ => (re_tup (ra_cons (xv 3) (ra_cons (xv 4) ra_nil)))))))))
  (rs_one (rs_ret (xm 2))))), by rfl⟩
set_option maxHeartbeats 4000000 in
theorem s_made_set (O : OkAll P w K mg base T k) : FnG P w K mg base (k + 1) T.a_made_set T.fd_made_set ["n"] (spF K 1 (m_made_set (k + 1))) := by
  have sc := sc_made_set
  exact fn_stepG T.F_made_set sc rfl rfl fun cdv A outer s H E hr => ⟨_, _, (rs_cons (rs_if (ziin T.c_POWERS (by rfl) T.g_POWERS (xv 0))
  (rs_one (rs_ret (re_callG O.f_field_squares hr (by rfl) T.g_field_squares T.F_field_squares.kp T.b_field_squares (E := E0) (m_field_squares_len _) [] (ra_cons (xv 0) ra_nil))))
  rs_nil)
  (rs_cons (rs_if (zeq hr.r (xv 0) re_int)
  (rs_one (rs_ret (re_list (ra_cons (re_callG O.f_product hr (by rfl) T.g_product T.F_product.kp T.b_product (E := E0) (m_product_len _) [] (ra_cons (re_ix (re_callG O.f_field_squares hr (by rfl) T.g_field_squares T.F_field_squares.kp T.b_field_squares (E := E0) (m_field_squares_len _) [] (ra_cons re_int ra_nil)) re_int (fun _ _ => (by rfl))) (ra_cons (re_ix (re_callG O.f_field_squares hr (by rfl) T.g_field_squares T.F_field_squares.kp T.b_field_squares (E := E0) (m_field_squares_len _) [] (ra_cons re_int ra_nil)) re_int (fun _ _ => (by rfl))) ra_nil))) ra_nil))))
  rs_nil)
  (rs_one (rs_ret (re_list (ra_cons (re_list (ra_cons (re_list (ra_cons re_int ra_nil)) ra_nil)) ra_nil)))))), by rfl⟩
set_option maxHeartbeats 4000000 in
theorem s_is_set (O : OkAll P w K mg base T k) : FnG P w K mg base (k + 1) T.a_is_set T.fd_is_set ["squares"] (spF K 1 (m_is_set (k + 1))) := by
  have sc := sc_is_set
  exact fn_stepG T.F_is_set sc rfl rfl fun cdv A outer s H E hr => ⟨_, _, (rs_cons (rs_for PassesOwn.never (by rfl) (ri_enum (by rfl) T.z_enumerate (ra_cons (xv 0) ra_nil) (fun h => pi_enum (by rfl) T.z_enumerate h)) (rg_tup (by rfl) (rgs_cons (xg 1 sc.nd) (rgs_cons (xg 2 sc.nd) rgs_nil)))
  (rs_one (rs_for PassesOwn.never (by rfl) (ri_list (re_slice (xv 0) ro_none (ro_some (xv 1)))) (xg 3 sc.nd)
  (rs_one (rs_if (rt_not (rt_val (re_callG O.f_are_mates hr (by rfl) T.g_are_mates T.F_are_mates.kp T.b_are_mates (E := E0) (m_are_mates_len _) [] (ra_cons (xv 2) (ra_cons (xv 3) ra_nil)))))
  (rs_one (rs_ret re_bl))
  rs_nil)))))
  (rs_one (rs_ret re_bl))), by rfl⟩
set_option maxHeartbeats 4000000 in
theorem s_column_of (O : OkAll P w K mg base T k) : FnG P w K mg base (k + 1) T.a_column_of T.fd_column_of ["row", "thing"] (spF K 2 (m_column_of (k + 1))) := by
  have sc := sc_column_of
  exact fn_stepG T.F_column_of sc rfl rfl fun cdv A outer s H E hr => ⟨_, _, (rs_one (rs_ret (re_ix (re_lc (own := [("column", 2), ("other", 3)]) (by rfl) sc.nd (ri_enum (by rfl) T.z_enumerate (ra_cons (xv 0) ra_nil) (fun h => pi_enum (by rfl) T.z_enumerate h)) (blkOk_by (by rfl)) (fun _ _ _ _ _ => (rg_tup (by rfl) (rgs_cons (xg 2 sc.nd) (rgs_cons (xg 3 sc.nd) rgs_nil)))) (fun _ _ _ _ _ => (rts_one (zeq hr.r (xv 3) (xv 1)))) (fun _ _ _ _ _ => (xv 2))) re_int (fun _ _ => (by rfl))))), by rfl⟩
set_option maxHeartbeats 4000000 in
theorem s_witness (O : OkAll P w K mg base T k) : FnG P w K mg base (k + 1) T.a_witness T.fd_witness ["squares"] (spF K 1 (m_witness (k + 1))) := by
  have sc := sc_witness
  exact fn_stepG T.F_witness sc rfl rfl fun cdv A outer s H E hr => ⟨_, _, (rs_one (rs_ret (re_lc (own := [("square", 1)]) (by rfl) sc.nd (ri_list (xv 0)) (blkOk_by (by rfl)) (fun _ _ _ _ _ => (xg 1 sc.nd)) (fun _ _ _ _ _ => rts_nil) (fun _ _ _ _ _ => (re_callG O.f_column_of hr (by rfl) T.g_column_of T.F_column_of.kp T.b_column_of (E := E0) (m_column_of_len _) [] (ra_cons (re_ix (xv 1) re_int (fun _ _ => (by rfl))) (ra_cons (re_ix (re_ix (xv 1) re_int (fun _ _ => (by rfl))) re_int (fun _ _ => (by rfl))) ra_nil))))))), by rfl⟩
set_option maxHeartbeats 4000000 in
theorem s_l_mix (O : OkAll P w K mg base T k) : FnG P w K mg base (k + 1) T.a_l_mix T.fd_l_mix ["_law_cell", "_law_turn"] (spF K 2 (m_l_mix (k + 1))) := by
  have sc := sc_l_mix
  exact fn_stepG T.F_l_mix sc rfl rfl fun cdv A outer s H E hr => ⟨_, _, (rs_cons (xset (i := 2) sc.nd (xmod (xmul (xadd (xadd (xmod (xv 0) re_int) (xmul (xmul (xv 1) (xv 1)) re_int)) re_int) re_int) re_int))
  (rs_one (rs_ret (xmod (xadd (xmul (xv 2) (xv 2)) (xmul re_int (xv 1))) re_int)))), by rfl⟩
set_option maxHeartbeats 4000000 in
theorem s_l_draws (O : OkAll P w K mg base T k) : FnG P w K mg base (k + 1) T.a_l_draws T.fd_l_draws ["_law_script", "_law_turn", "_law_many"] (spF K 3 (m_l_draws (k + 1))) := by
  have sc := sc_l_draws
  exact fn_stepG T.F_l_draws sc rfl rfl fun cdv A outer s H E hr => ⟨_, _, (rs_cons (xset (i := 3) sc.nd (xadd (re_slice (xv 0) ro_none (ro_some re_int)) (re_list (ra_cons (xv 1) ra_nil))))
  (rs_cons (rs_asgLc (i := 4) (own := [("_law_cell", 9)]) (by rfl) sc.nd (by rfl) (by rfl) (sw_true (by rfl) (by rfl) (by rfl) (by rfl)) (ri_list (xv 3)) (blkOk_by (by rfl)) (fun _ _ _ _ _ => (xg 9 sc.nd)) (fun _ _ _ _ _ => rts_nil) (fun _ _ _ _ _ => (xfdiv (xv 9) re_int)))
  (rs_cons (xset (i := 5) sc.nd (re_list ra_nil))
  (rs_cons (rs_for PassesOwn.never (by rfl) (ri_range1 (by rfl) T.z_range (ra_cons (xadd (xv 1) (xv 2)) ra_nil)) (xg 6 sc.nd)
  (rs_cons (xset (i := 7) sc.nd (xmod (xv 6) (re_flatI (xlen T.z_len (ra_cons (xv 3) ra_nil)) (intV_len _))))
  (rs_cons (xset (i := 8) sc.nd (re_callG O.f_l_mix hr (by rfl) T.g_l_mix T.F_l_mix.kp T.b_l_mix (E := E0) (m_l_mix_len _) [] (ra_cons (re_ix (xv 3) (xv 7) (fun _ _ => (by rfl))) (ra_cons (xv 6) ra_nil))))
  (rs_cons (xset (i := 8) sc.nd (xmod (xadd (xmul (xv 8) (xv 8)) (xmul re_int (xv 6))) re_int))
  (rs_cons (rs_if (rt_w (rw_and (zge (re_ix (xv 3) (xv 7) (fun _ _ => (by rfl))) (xpow re_int re_int)) (rw_and1 (zgt (re_ix (xv 4) (xv 7) (fun _ _ => (by rfl))) re_int))))
  (rs_cons (xset (i := 8) sc.nd (xmod (re_ix (xv 4) (xv 7) (fun _ _ => (by rfl))) re_int))
  (rs_one (rs_setitem (xfdiv (re_ix (xv 4) (xv 7) (fun _ _ => (by rfl))) re_int) (xp 4) (xv 7) (hs := pg_sub (xp 4) (xv 7) set_list))))
  rs_nil)
  (rs_one (rs_append (xp 5) (xv 8))))))))
  (rs_one (rs_ret (re_slice (xv 5) (ro_some (xv 1)) ro_none))))))), by rfl⟩
set_option maxHeartbeats 4000000 in
theorem s_l_pop (O : OkAll P w K mg base T k) : FnG P w K mg base (k + 1) T.a_l_pop T.fd_l_pop ["_law_draws_here"] (spF K 1 (m_l_pop (k + 1))) := by
  have sc := sc_l_pop
  exact fn_stepG T.F_l_pop sc rfl rfl fun cdv A outer s H E hr => ⟨_, _, (rs_cons (rs_if (zeq hr.r (xv 0) (re_list ra_nil))
  (rs_one (rs_ret re_int))
  rs_nil)
  (rs_one (rs_ret (re_pop (xp 0))))), by rfl⟩
set_option maxHeartbeats 4000000 in
theorem s_law (O : OkAll P w K mg base T k) : FnG P w K mg base (k + 1) T.a_law T.fd_law ["_law_script"] (spF K 1 (m_law (k + 1))) := by
  have sc := sc_law
  exact fn_stepG T.F_law sc rfl rfl fun cdv A outer s H E hr => ⟨_, _, (rs_cons (xset (i := 1) sc.nd (re_callG O.f_l_draws hr (by rfl) T.g_l_draws T.F_l_draws.kp T.b_l_draws (E := E0) (m_l_draws_len _) [] (ra_cons (xv 0) (ra_cons re_int (ra_cons re_int ra_nil)))))
  (rs_cons (xset (i := 2) sc.nd (re_ix (re_list (ra_cons re_int (ra_cons re_int (ra_cons re_int (ra_cons re_int (ra_cons re_int (ra_cons re_int (ra_cons re_int ra_nil)))))))) (xmod (re_callG O.f_l_pop hr (by rfl) T.g_l_pop T.F_l_pop.kp T.b_l_pop (E := E0) (m_l_pop_len _) [(0, 1)] (xio 1 ra_nil)) re_int) (fun _ _ => (by rfl))))
  (rs_cons (xset (i := 3) sc.nd (re_callG O.f_field_squares hr (by rfl) T.g_field_squares T.F_field_squares.kp T.b_field_squares (E := E0) (m_field_squares_len _) [] (ra_cons (xv 2) ra_nil)))
  (rs_cons (xset (i := 4) sc.nd (re_ix (xv 3) (xmod (re_callG O.f_l_pop hr (by rfl) T.g_l_pop T.F_l_pop.kp T.b_l_pop (E := E0) (m_l_pop_len _) [(0, 1)] (xio 1 ra_nil)) (xsub (xv 2) re_int)) (fun _ _ => (by rfl))))
  (rs_cons (xset (i := 5) sc.nd (re_ix (xv 3) (xmod (re_callG O.f_l_pop hr (by rfl) T.g_l_pop T.F_l_pop.kp T.b_l_pop (E := E0) (m_l_pop_len _) [(0, 1)] (xio 1 ra_nil)) (xsub (xv 2) re_int)) (fun _ _ => (by rfl))))
  (rs_cons (rs_if (zne hr.r (xv 4) (xv 5))
  (rs_cons (xset (i := 6) sc.nd (re_callG O.f_parting_of hr (by rfl) T.g_parting_of T.F_parting_of.kp T.b_parting_of (E := E0) (m_parting_of_len _) [] (ra_cons (xv 4) (ra_cons (xv 5) ra_nil))))
  (rs_one (rs_if (rt_w (rw_or (zne hr.r (re_lc (own := [("_law_way", 12)]) (by rfl) sc.nd (ri_list (xv 6)) (blkOk_by (by rfl)) (fun _ _ _ _ _ => (xg 12 sc.nd)) (fun _ _ _ _ _ => (rts_one (rt_not (rt_val (re_callG O.f_is_way hr (by rfl) T.g_is_way T.F_is_way.kp T.b_is_way (E := E0) (m_is_way_len _) [] (ra_cons (xv 4) (ra_cons (xv 12) ra_nil))))))) (fun _ _ _ _ _ => (xv 12))) (re_list ra_nil)) (rw_or1 (zne hr.r (re_callG O.f_mate_of hr (by rfl) T.g_mate_of T.F_mate_of.kp T.b_mate_of (E := E0) (m_mate_of_len _) [] (ra_cons (xv 6) ra_nil)) (xv 5)))))
  (rs_one (rs_ret re_bl))
  rs_nil)))
  rs_nil)
  (rs_cons (rs_if (zne hr.r (re_callG O.f_are_mates hr (by rfl) T.g_are_mates T.F_are_mates.kp T.b_are_mates (E := E0) (m_are_mates_len _) [] (ra_cons (xv 4) (ra_cons (xv 5) ra_nil))) (xne hr.r (xv 4) (xv 5)))
  (rs_one (rs_ret re_bl))
  rs_nil)
  (rs_cons (xset (i := 7) sc.nd (xadd re_int (xmod (re_callG O.f_l_pop hr (by rfl) T.g_l_pop T.F_l_pop.kp T.b_l_pop (E := E0) (m_l_pop_len _) [(0, 1)] (xio 1 ra_nil)) re_int)))
  (rs_cons (xset (i := 8) sc.nd (re_callG O.f_made_set hr (by rfl) T.g_made_set T.F_made_set.kp T.b_made_set (E := E0) (m_made_set_len _) [] (ra_cons (xv 7) ra_nil)))
  (rs_cons (rs_if (zne hr.r (re_flatI (xlen T.z_len (ra_cons (xv 8) ra_nil)) (intV_len _)) (re_ix (re_list (ra_cons re_int (ra_cons re_int (ra_cons re_int (ra_cons re_int (ra_cons re_int (ra_cons re_int (ra_cons re_int (ra_cons re_int (ra_cons re_int ra_nil)))))))))) (xsub (xv 7) re_int) (fun _ _ => (by rfl))))
  (rs_one (rs_ret re_bl))
  rs_nil)
  (rs_cons (rs_for PassesOwn.never (by rfl) (ri_enum (by rfl) T.z_enumerate (ra_cons (xv 8) ra_nil) (fun h => pi_enum (by rfl) T.z_enumerate h)) (rg_tup (by rfl) (rgs_cons (xg 9 sc.nd) (rgs_cons (xg 10 sc.nd) rgs_nil)))
  (rs_one (rs_if (zne hr.r (re_lc (own := [("_law_more", 13)]) (by rfl) sc.nd (ri_list (re_slice (xv 8) ro_none (ro_some (xv 9)))) (blkOk_by (by rfl)) (fun _ _ _ _ _ => (xg 13 sc.nd)) (fun _ _ _ _ _ => (rts_one (rt_not (rt_val (re_callG O.f_are_mates hr (by rfl) T.g_are_mates T.F_are_mates.kp T.b_are_mates (E := E0) (m_are_mates_len _) [] (ra_cons (xv 10) (ra_cons (xv 13) ra_nil))))))) (fun _ _ _ _ _ => (xv 13))) (re_list ra_nil))
  (rs_one (rs_ret re_bl))
  rs_nil)))
  (rs_cons (rs_if (zeq hr.r (xv 7) re_int)
  (rs_one (rs_ret re_bl))
  rs_nil)
  (rs_cons (xset (i := 11) sc.nd (re_callG O.f_witness hr (by rfl) T.g_witness T.F_witness.kp T.b_witness (E := E0) (m_witness_len _) [] (ra_cons (xv 8) ra_nil)))
  (rs_one (rs_ret (re_and (xisB (re_callG O.f_is_set hr (by rfl) T.g_is_set T.F_is_set.kp T.b_is_set (E := E0) (m_is_set_len _) [] (ra_cons (xv 8) ra_nil)) re_bl) (re_and (xnotin hr.r re_int (xv 11)) (re_one (xeq hr.r (re_flatI (xlen T.z_len (ra_cons (xv 11) ra_nil)) (intV_len _)) (re_flatI (xlen T.z_len (ra_cons (re_lc (own := [("_law_k", 9)]) (by rfl) sc.nd (ri_range1 (by rfl) T.z_range (ra_cons (xv 7) ra_nil)) (blkOk_by (by rfl)) (fun _ _ _ _ _ => (xg 9 sc.nd)) (fun _ _ _ _ _ => (rts_one (zin hr.r (xv 9) (xv 11)))) (fun _ _ _ _ _ => (xv 9))) ra_nil)) (intV_len _))))))))))))))))))))), by rfl⟩
theorem all_ok (T : Tx w K mg) : ∀ k, OkAll P w K mg base T k
  | 0 => ⟨fn0G (fun _ => by rw [m_things_on]) rfl, fn0G (fun _ => by rw [m_all_unlike]) rfl, fn0G (fun _ => by rw [m_is_way]) rfl, fn0G (fun _ => by rw [m_are_mates]) rfl, fn0G (fun _ => by rw [m_mate_of]) rfl, fn0G (fun _ => by rw [m_parting_of]) rfl, fn0G (fun _ => by rw [m_look_at_field]) rfl, fn0G (fun _ => by rw [m_digits]) rfl, fn0G (fun _ => by rw [m_number_of_digits]) rfl, fn0G (fun _ => by rw [m_plus]) rfl, fn0G (fun _ => by rw [m_times]) rfl, fn0G (fun _ => by rw [m_field_squares]) rfl, fn0G (fun _ => by rw [m_product]) rfl, fn0G (fun _ => by rw [m_both_of]) rfl, fn0G (fun _ => by rw [m_made_set]) rfl, fn0G (fun _ => by rw [m_is_set]) rfl, fn0G (fun _ => by rw [m_column_of]) rfl, fn0G (fun _ => by rw [m_witness]) rfl, fn0G (fun _ => by rw [m_l_mix]) rfl, fn0G (fun _ => by rw [m_l_draws]) rfl, fn0G (fun _ => by rw [m_l_pop]) rfl, fn0G (fun _ => by rw [m_law]) rfl⟩
  | k + 1 => ⟨s_things_on (all_ok T k), s_all_unlike (all_ok T k), s_is_way (all_ok T k), s_are_mates (all_ok T k), s_mate_of (all_ok T k), s_parting_of (all_ok T k), s_look_at_field (all_ok T k), s_digits (all_ok T k), s_number_of_digits (all_ok T k), s_plus (all_ok T k), s_times (all_ok T k), s_field_squares (all_ok T k), s_product (all_ok T k), s_both_of (all_ok T k), s_made_set (all_ok T k), s_is_set (all_ok T k), s_column_of (all_ok T k), s_witness (all_ok T k), s_l_mix (all_ok T k), s_l_draws (all_ok T k), s_l_pop (all_ok T k), s_law (all_ok T k)⟩
end
/-! ### the head -/
def d_things_on : He.DefD := ⟨("things_on", none), "things_on", "things_on", defArgs t_things_on, defBody t_things_on, defScope t_things_on, [], []⟩
def d_all_unlike : He.DefD := ⟨("all_unlike", none), "all_unlike", "all_unlike", defArgs t_all_unlike, defBody t_all_unlike, defScope t_all_unlike, [], []⟩
def d_is_way : He.DefD := ⟨("is_way", none), "is_way", "is_way", defArgs t_is_way, defBody t_is_way, defScope t_is_way, [], []⟩
def d_are_mates : He.DefD := ⟨("are_mates", none), "are_mates", "are_mates", defArgs t_are_mates, defBody t_are_mates, defScope t_are_mates, [], []⟩
def d_mate_of : He.DefD := ⟨("mate_of", none), "mate_of", "mate_of", defArgs t_mate_of, defBody t_mate_of, defScope t_mate_of, [], []⟩
def d_parting_of : He.DefD := ⟨("parting_of", none), "parting_of", "parting_of", defArgs t_parting_of, defBody t_parting_of, defScope t_parting_of, [], []⟩
def d_look_at_field : He.DefD := ⟨("look_at_field", none), "look_at_field", "look_at_field", defArgs t_look_at_field, defBody t_look_at_field, defScope t_look_at_field, [], []⟩
def d_digits : He.DefD := ⟨("digits", none), "digits", "digits", defArgs t_digits, defBody t_digits, defScope t_digits, [], []⟩
def d_number_of_digits : He.DefD := ⟨("number_of_digits", none), "number_of_digits", "number_of_digits", defArgs t_number_of_digits, defBody t_number_of_digits, defScope t_number_of_digits, [], []⟩
def d_plus : He.DefD := ⟨("plus", none), "plus", "plus", defArgs t_plus, defBody t_plus, defScope t_plus, [], []⟩
def d_times : He.DefD := ⟨("times", none), "times", "times", defArgs t_times, defBody t_times, defScope t_times, [], []⟩
def d_field_squares : He.DefD := ⟨("field_squares", none), "field_squares", "field_squares", defArgs t_field_squares, defBody t_field_squares, defScope t_field_squares, [], []⟩
def d_product : He.DefD := ⟨("product", none), "product", "product", defArgs t_product, defBody t_product, defScope t_product, [], []⟩
def d_both_of : He.DefD := ⟨("both_of", none), "both_of", "both_of", defArgs t_both_of, defBody t_both_of, defScope t_both_of, [], []⟩
def d_made_set : He.DefD := ⟨("made_set", none), "made_set", "made_set", defArgs t_made_set, defBody t_made_set, defScope t_made_set, [], []⟩
def d_is_set : He.DefD := ⟨("is_set", none), "is_set", "is_set", defArgs t_is_set, defBody t_is_set, defScope t_is_set, [], []⟩
def d_column_of : He.DefD := ⟨("column_of", none), "column_of", "column_of", defArgs t_column_of, defBody t_column_of, defScope t_column_of, [], []⟩
def d_witness : He.DefD := ⟨("witness", none), "witness", "witness", defArgs t_witness, defBody t_witness, defScope t_witness, [], []⟩
def d_l_mix : He.DefD := ⟨("_law_mix", none), "_law_mix", "_law_mix", defArgs t_l_mix, defBody t_l_mix, defScope t_l_mix, [], []⟩
def d_l_draws : He.DefD := ⟨("_law_draws", none), "_law_draws", "_law_draws", defArgs t_l_draws, defBody t_l_draws, defScope t_l_draws, [], []⟩
def d_l_pop : He.DefD := ⟨("_law_pop", none), "_law_pop", "_law_pop", defArgs t_l_pop, defBody t_l_pop, defScope t_l_pop, [], []⟩
def d_law : He.DefD := ⟨("law", none), "law", "law", defArgs t_law, defBody t_law, defScope t_law, [], []⟩
def fn : List He.DefD := [d_things_on, d_all_unlike, d_is_way, d_are_mates, d_mate_of, d_parting_of, d_look_at_field, d_digits, d_number_of_digits, d_plus, d_times, d_field_squares, d_product, d_both_of, d_made_set, d_is_set, d_column_of, d_witness, d_l_mix, d_l_draws, d_l_pop, d_law]
def fa : List He.Fa := [.glo "things_on", .glo "all_unlike", .glo "is_way", .glo "are_mates", .glo "mate_of", .glo "parting_of", .glo "look_at_field", .glo "digits", .glo "number_of_digits", .glo "plus", .glo "times", .glo "field_squares", .glo "product", .glo "both_of", .glo "made_set", .glo "is_set", .glo "column_of", .glo "witness", .glo "_law_mix", .glo "_law_draws", .glo "_law_pop", .glo "law", .free "any", .free "enumerate", .free "len", .free "list", .free "range", .free "reversed", .free "zip", .glo "POWERS", .glo "HIGHEST"]
abbrev R : PySem.W.OpenRow := PySem.W.OpenLaw.row PySem.Challenge.rw_squaremates_k68_whole_field_sets
def tbs : List He.Tab := []
def lookB (K : PySem.W.Frag) : Bool := noIntL K && idB K (He.ga K "POWERS") tab_POWERS && idB K (He.ga K "HIGHEST") tab_HIGHEST
abbrev hk : PySem.W.Hook := hookC lookB 4 fa fn tbs
def ob (s : PySem.W.SharedT) : AlC := obsCG lookB 4 fa fn tbs (HandSHeadRun.getT s)
theorem ob_eq (s : PySem.W.SharedT) : ob s = hk.obs s.abs := obsCG_eq (HandSHeadRun.getT_eq s)
theorem look_n {K : PySem.W.Frag} (h : lookB K = true) : noIntL K = true := ((Bool.and_eq_true ..).mp ((Bool.and_eq_true ..).mp h).1).1
theorem look_POWERS {K : PySem.W.Frag} (h : lookB K = true) : idB K (He.ga K "POWERS") tab_POWERS = true := ((Bool.and_eq_true ..).mp ((Bool.and_eq_true ..).mp h).1).2
theorem look_HIGHEST {K : PySem.W.Frag} (h : lookB K = true) : idB K (He.ga K "HIGHEST") tab_HIGHEST = true := ((Bool.and_eq_true ..).mp h).2
def loose : List Str := ["MateError", "NoField", "things_on", "all_unlike", "is_way", "are_mates", "mate_of", "parting_of", "look_at_field", "digits", "number_of_digits", "plus", "times", "field_squares", "product", "both_of", "made_set", "is_set", "column_of", "witness", "_law_mix", "_law_draws", "_law_pop", "POWERS", "HIGHEST"]
theorem run (w : World) : HandSHeadRun.RunEq R (PySem.W.view R.prog [32]) hk ob 4000 loose w := by
  revert w
  refine wfix_all ?_ ?_
  all_goals (intro w os; kernel_rfl)
theorem facts {P : Program} {w : World} {K : PySem.W.Frag} {h : Heap} {mg : Str → Option Value} {f : Addr} (X : K.In h) (G : h.Ns mainGlobals mg) (hfa : mg ("law" : Str) = some (.ref f)) (c : SaysC lookB fa fn tbs w K) :
    ∃ fd : FuncData, (∀ (s : Shared) (v : Value), BindsTo s fd ⟨[v], []⟩ [("_law_script", v)]) ∧ ∀ base : Heap, K.In base → base.Ns mainGlobals mg → FnG P w K mg base 60 f fd ["_law_script"] (spF K 1 (m_law 60)) := by
  have cd := c.d
  obtain ⟨fd_things_on, F_things_on⟩ := cd.def_ 0 (d := d_things_on) rfl
  obtain ⟨fd_all_unlike, F_all_unlike⟩ := cd.def_ 1 (d := d_all_unlike) rfl
  obtain ⟨fd_is_way, F_is_way⟩ := cd.def_ 2 (d := d_is_way) rfl
  obtain ⟨fd_are_mates, F_are_mates⟩ := cd.def_ 3 (d := d_are_mates) rfl
  obtain ⟨fd_mate_of, F_mate_of⟩ := cd.def_ 4 (d := d_mate_of) rfl
  obtain ⟨fd_parting_of, F_parting_of⟩ := cd.def_ 5 (d := d_parting_of) rfl
  obtain ⟨fd_look_at_field, F_look_at_field⟩ := cd.def_ 6 (d := d_look_at_field) rfl
  obtain ⟨fd_digits, F_digits⟩ := cd.def_ 7 (d := d_digits) rfl
  obtain ⟨fd_number_of_digits, F_number_of_digits⟩ := cd.def_ 8 (d := d_number_of_digits) rfl
  obtain ⟨fd_plus, F_plus⟩ := cd.def_ 9 (d := d_plus) rfl
  obtain ⟨fd_times, F_times⟩ := cd.def_ 10 (d := d_times) rfl
  obtain ⟨fd_field_squares, F_field_squares⟩ := cd.def_ 11 (d := d_field_squares) rfl
  obtain ⟨fd_product, F_product⟩ := cd.def_ 12 (d := d_product) rfl
  obtain ⟨fd_both_of, F_both_of⟩ := cd.def_ 13 (d := d_both_of) rfl
  obtain ⟨fd_made_set, F_made_set⟩ := cd.def_ 14 (d := d_made_set) rfl
  obtain ⟨fd_is_set, F_is_set⟩ := cd.def_ 15 (d := d_is_set) rfl
  obtain ⟨fd_column_of, F_column_of⟩ := cd.def_ 16 (d := d_column_of) rfl
  obtain ⟨fd_witness, F_witness⟩ := cd.def_ 17 (d := d_witness) rfl
  obtain ⟨fd_l_mix, F_l_mix⟩ := cd.def_ 18 (d := d_l_mix) rfl
  obtain ⟨fd_l_draws, F_l_draws⟩ := cd.def_ 19 (d := d_l_draws) rfl
  obtain ⟨fd_l_pop, F_l_pop⟩ := cd.def_ 20 (d := d_l_pop) rfl
  obtain ⟨fd_law, F_law⟩ := cd.def_ 21 (d := d_law) rfl
  have e := hfa.symm.trans (He.glo_ok X G (cd.fact 21 (f := .glo "law") rfl))
  cases e
  have b := FunD.bindsA (ps := ["_law_script"]) F_law fun _ _ _ _ _ _ us hl => match us, hl with | [_], _ => rfl
  exact ⟨fd_law, fun s v => b s [v] rfl, fun base _ _ => (all_ok (P := P) (w := w) (base := base) (⟨_, fd_things_on, F_things_on, He.glo_ok X G (cd.fact 0 (f := .glo "things_on") rfl), F_things_on.bindsN (fun _ _ _ _ _ _ us hl => match us, hl with | [_, _], _ => rfl),
    _, fd_all_unlike, F_all_unlike, He.glo_ok X G (cd.fact 1 (f := .glo "all_unlike") rfl), F_all_unlike.bindsN (fun _ _ _ _ _ _ us hl => match us, hl with | [_], _ => rfl),
    _, fd_is_way, F_is_way, He.glo_ok X G (cd.fact 2 (f := .glo "is_way") rfl), F_is_way.bindsN (fun _ _ _ _ _ _ us hl => match us, hl with | [_, _], _ => rfl),
    _, fd_are_mates, F_are_mates, He.glo_ok X G (cd.fact 3 (f := .glo "are_mates") rfl), F_are_mates.bindsN (fun _ _ _ _ _ _ us hl => match us, hl with | [_, _], _ => rfl),
    _, fd_mate_of, F_mate_of, He.glo_ok X G (cd.fact 4 (f := .glo "mate_of") rfl), F_mate_of.bindsN (fun _ _ _ _ _ _ us hl => match us, hl with | [_], _ => rfl),
    _, fd_parting_of, F_parting_of, He.glo_ok X G (cd.fact 5 (f := .glo "parting_of") rfl), F_parting_of.bindsN (fun _ _ _ _ _ _ us hl => match us, hl with | [_, _], _ => rfl),
    _, fd_look_at_field, F_look_at_field, He.glo_ok X G (cd.fact 6 (f := .glo "look_at_field") rfl), F_look_at_field.bindsN (fun _ _ _ _ _ _ us hl => match us, hl with | [_], _ => rfl),
    _, fd_digits, F_digits, He.glo_ok X G (cd.fact 7 (f := .glo "digits") rfl), F_digits.bindsN (fun _ _ _ _ _ _ us hl => match us, hl with | [_, _, _], _ => rfl),
    _, fd_number_of_digits, F_number_of_digits, He.glo_ok X G (cd.fact 8 (f := .glo "number_of_digits") rfl), F_number_of_digits.bindsN (fun _ _ _ _ _ _ us hl => match us, hl with | [_, _], _ => rfl),
    _, fd_plus, F_plus, He.glo_ok X G (cd.fact 9 (f := .glo "plus") rfl), F_plus.bindsN (fun _ _ _ _ _ _ us hl => match us, hl with | [_, _, _], _ => rfl),
    _, fd_times, F_times, He.glo_ok X G (cd.fact 10 (f := .glo "times") rfl), F_times.bindsN (fun _ _ _ _ _ _ us hl => match us, hl with | [_, _, _], _ => rfl),
    _, fd_field_squares, F_field_squares, He.glo_ok X G (cd.fact 11 (f := .glo "field_squares") rfl), F_field_squares.bindsN (fun _ _ _ _ _ _ us hl => match us, hl with | [_], _ => rfl),
    _, fd_product, F_product, He.glo_ok X G (cd.fact 12 (f := .glo "product") rfl), F_product.bindsN (fun _ _ _ _ _ _ us hl => match us, hl with | [_, _], _ => rfl),
    _, fd_both_of, F_both_of, He.glo_ok X G (cd.fact 13 (f := .glo "both_of") rfl), F_both_of.bindsN (fun _ _ _ _ _ _ us hl => match us, hl with | [_, _], _ => rfl),
    _, fd_made_set, F_made_set, He.glo_ok X G (cd.fact 14 (f := .glo "made_set") rfl), F_made_set.bindsN (fun _ _ _ _ _ _ us hl => match us, hl with | [_], _ => rfl),
    _, fd_is_set, F_is_set, He.glo_ok X G (cd.fact 15 (f := .glo "is_set") rfl), F_is_set.bindsN (fun _ _ _ _ _ _ us hl => match us, hl with | [_], _ => rfl),
    _, fd_column_of, F_column_of, He.glo_ok X G (cd.fact 16 (f := .glo "column_of") rfl), F_column_of.bindsN (fun _ _ _ _ _ _ us hl => match us, hl with | [_, _], _ => rfl),
    _, fd_witness, F_witness, He.glo_ok X G (cd.fact 17 (f := .glo "witness") rfl), F_witness.bindsN (fun _ _ _ _ _ _ us hl => match us, hl with | [_], _ => rfl),
    _, fd_l_mix, F_l_mix, He.glo_ok X G (cd.fact 18 (f := .glo "_law_mix") rfl), F_l_mix.bindsN (fun _ _ _ _ _ _ us hl => match us, hl with | [_, _], _ => rfl),
    _, fd_l_draws, F_l_draws, He.glo_ok X G (cd.fact 19 (f := .glo "_law_draws") rfl), F_l_draws.bindsN (fun _ _ _ _ _ _ us hl => match us, hl with | [_, _, _], _ => rfl),
    _, fd_l_pop, F_l_pop, He.glo_ok X G (cd.fact 20 (f := .glo "_law_pop") rfl), F_l_pop.bindsN (fun _ _ _ _ _ _ us hl => match us, hl with | [_], _ => rfl),
    _, fd_law, F_law, He.glo_ok X G (cd.fact 21 (f := .glo "law") rfl), F_law.bindsN (fun _ _ _ _ _ _ us hl => match us, hl with | [_], _ => rfl),
    He.free_ok X G (cd.fact 22 (f := .free "any") rfl),
    He.free_ok X G (cd.fact 23 (f := .free "enumerate") rfl),
    He.free_ok X G (cd.fact 24 (f := .free "len") rfl),
    He.free_ok X G (cd.fact 25 (f := .free "list") rfl),
    He.free_ok X G (cd.fact 26 (f := .free "range") rfl),
    He.free_ok X G (cd.fact 27 (f := .free "reversed") rfl),
    He.free_ok X G (cd.fact 28 (f := .free "zip") rfl),
    _, idB_ok (look_POWERS c.b), He.glo_ok X G (cd.fact 29 (f := .glo "POWERS") rfl),
    _, idB_ok (look_HIGHEST c.b), He.glo_ok X G (cd.fact 30 (f := .glo "HIGHEST") rfl)⟩ : Tx w K mg) 60).f_law⟩
end Lw
end

section
namespace Lw
open PySem PySem.Spec L2 Sq
abbrev E_all_unlike := Option (List (Int × Int)) × Option Int × Option (Int × Int) × Unit
/-- all_unlike: 0 numbers, 1 k, 2 number -/
def f_all_unlike : Nat → (List (Int × Int)) × Unit → Res Bool
  | 0 => fun _ => .bad
  | k + 1 => tDef E_all_unlike (.bad)
    (sRe (p1 oNot (pN oAny (psCons (pLc (pN oEnum (psCons (pV Sl.z) psNil)) (tT2 (tsCons (tN (Sl.s Sl.z)) (tsCons (tN (Sl.s (Sl.s Sl.z))) tsNil))) pYes (p2 oIn (pV (Sl.s (Sl.s Sl.z))) (pSl (pV Sl.z) poNone (poSome (pV (Sl.s Sl.z)))))) psNil))))
abbrev E_column_of := Option (List Int) × Option Int × Option Int × Option Int × Unit
/-- column_of: 0 row, 1 thing, 2 column, 3 other -/
def f_column_of : Nat → (List Int) × Int × Unit → Res Int
  | 0 => fun _ => .bad
  | k + 1 => tDef E_column_of (.bad)
    (sRe (p2 oIx (pLc (pN oEnum (psCons (pV Sl.z) psNil)) (tT2 (tsCons (tN (Sl.s (Sl.s Sl.z))) (tsCons (tN (Sl.s (Sl.s (Sl.s Sl.z)))) tsNil))) (p2 oEq (pV (Sl.s (Sl.s (Sl.s Sl.z)))) (pV (Sl.s Sl.z))) (pV (Sl.s (Sl.s Sl.z)))) (pC (0 : Int))))
abbrev E_both_of := Option (List Int) × Option (List Int) × Option (List (Int × Int)) × Option Int × Option Int × Unit
/-- both_of: 0 row, 1 beside, 2 found, 3 u, 4 v -/
def f_both_of : Nat → (List Int) × (List Int) × Unit → Res (List (Int × Int))
  | 0 => fun _ => .bad
  | k + 1 => tDef E_both_of (.bad)
    (sThen (sLet (Sl.s (Sl.s Sl.z)) (pLst (plNil (α := (Int × Int)))))
    (sThen (sLoop (pV Sl.z) (tN (Sl.s (Sl.s (Sl.s Sl.z))))
    (sLet (Sl.s (Sl.s Sl.z)) (p2 oCat (pV (Sl.s (Sl.s Sl.z))) (pLc (pV (Sl.s Sl.z)) (tN (Sl.s (Sl.s (Sl.s (Sl.s Sl.z))))) pYes (pN oT2 (psCons (pV (Sl.s (Sl.s (Sl.s Sl.z)))) (psCons (pV (Sl.s (Sl.s (Sl.s (Sl.s Sl.z))))) psNil)))))))
    (sReE (eM (Sl.s (Sl.s Sl.z))))))
abbrev E_number_of_digits := Option (List Int) × Option Int × Option Int × Option Int × Unit
/-- number_of_digits: 0 figures, 1 base, 2 found, 3 figure -/
def f_number_of_digits : Nat → (List Int) × Int × Unit → Res Int
  | 0 => fun _ => .bad
  | k + 1 => tDef E_number_of_digits (.bad)
    (sThen (sLet (Sl.s (Sl.s Sl.z)) (pC (0 : Int)))
    (sThen (sLoop (pN oRvd (psCons (pV Sl.z) psNil)) (tN (Sl.s (Sl.s (Sl.s Sl.z))))
    (sLet (Sl.s (Sl.s Sl.z)) (p2 oAdd (p2 oMul (pV (Sl.s (Sl.s Sl.z))) (pV (Sl.s Sl.z))) (p2 oMod (pV (Sl.s (Sl.s (Sl.s Sl.z)))) (pV (Sl.s Sl.z))))))
    (sReE (eM (Sl.s (Sl.s Sl.z))))))
abbrev E_digits := Option Int × Option Int × Option Int × Option (List Int) × Option Int × Unit
/-- digits: 0 number, 1 base, 2 many, 3 found, 4 k -/
def f_digits : Nat → Int × Int × Int × Unit → Res (List Int)
  | 0 => fun _ => .bad
  | k + 1 => tDef E_digits (.bad)
    (sThen (sLet (Sl.s (Sl.s (Sl.s Sl.z))) (pLst (plNil (α := Int))))
    (sThen (sLoop (pN oRg1 (psCons (pV (Sl.s (Sl.s Sl.z))) psNil)) (tN (Sl.s (Sl.s (Sl.s (Sl.s Sl.z)))))
    (sThen (sApd (Sl.s (Sl.s (Sl.s Sl.z))) Pl.ze (paZ (Sl.s (Sl.s (Sl.s Sl.z)))) (eP (p2 oMod (pV Sl.z) (pV (Sl.s Sl.z)))))
    (sLet Sl.z (p2 oFdiv (pV Sl.z) (pV (Sl.s Sl.z))))))
    (sReE (eM (Sl.s (Sl.s (Sl.s Sl.z)))))))
abbrev E_look_at_field := Option Int × Unit
/-- look_at_field: 0 q -/
def f_look_at_field : Nat → Int × Unit → Res Unit
  | 0 => fun _ => .bad
  | k + 1 => tDef E_look_at_field (.ok ())
    (sCond (p1 (oINotIn tab_POWERS) (pV Sl.z))
    (fun _ => .bad)
    sNop)
abbrev E_times := Option Int × Option Int × Option Int × Option Int × Option Int × Option (List Int) × Option Int × Option Int × Option Int × Option Int × Option Int × Option Int × Option Int × Unit
def t_times_2 (k : Nat) : E_times → Res (TF Int × E_times) := (sBind (tT2 (tsCons (tN (Sl.s (Sl.s (Sl.s Sl.z)))) (tsCons (tN (Sl.s (Sl.s (Sl.s (Sl.s Sl.z))))) tsNil))) (p1 (oIGet2 tab_POWERS) (pV Sl.z)))
def t_times_3_t_1 (k : Nat) : E_times → Res (TF Int × E_times) := (sRe (p2 oMod (p2 oMul (pV (Sl.s Sl.z)) (pV (Sl.s (Sl.s Sl.z)))) (pV Sl.z)))
def t_times_3 (k : Nat) : E_times → Res (TF Int × E_times) := (sCond (p2 oEq (pV (Sl.s (Sl.s (Sl.s (Sl.s Sl.z))))) (pC (1 : Int)))
  (t_times_3_t_1 k)
  sNop)
def t_times_4 (k : Nat) : E_times → Res (TF Int × E_times) := (sLet (Sl.s (Sl.s (Sl.s (Sl.s (Sl.s Sl.z))))) (p2 oRep (pLst (plCons (pC (0 : Int)) (plNil (α := Int)))) (p2 oSub (p2 oMul (pC (2 : Int)) (pV (Sl.s (Sl.s (Sl.s (Sl.s Sl.z)))))) (pC (1 : Int)))))
def t_times_5_1_1 (k : Nat) : E_times → Res (TF Int × E_times) := (sPut (Sl.s (Sl.s (Sl.s (Sl.s (Sl.s Sl.z))))) Pl.ze (eP (p2 oAdd (p2 oIx (pV (Sl.s (Sl.s (Sl.s (Sl.s (Sl.s Sl.z)))))) (p2 oAdd (pV (Sl.s (Sl.s (Sl.s (Sl.s (Sl.s (Sl.s Sl.z))))))) (pV (Sl.s (Sl.s (Sl.s (Sl.s (Sl.s (Sl.s (Sl.s (Sl.s Sl.z))))))))))) (p2 oMul (pV (Sl.s (Sl.s (Sl.s (Sl.s (Sl.s (Sl.s (Sl.s Sl.z)))))))) (pV (Sl.s (Sl.s (Sl.s (Sl.s (Sl.s (Sl.s (Sl.s (Sl.s (Sl.s Sl.z))))))))))))) (paZ (Sl.s (Sl.s (Sl.s (Sl.s (Sl.s Sl.z)))))) (eP (p2 oAdd (pV (Sl.s (Sl.s (Sl.s (Sl.s (Sl.s (Sl.s Sl.z))))))) (pV (Sl.s (Sl.s (Sl.s (Sl.s (Sl.s (Sl.s (Sl.s (Sl.s Sl.z))))))))))))
def t_times_5_1 (k : Nat) : E_times → Res (TF Int × E_times) := (sLoop (pN oEnum (psCons (pN (f_digits k) (psCons (pV (Sl.s (Sl.s Sl.z))) (psCons (pV (Sl.s (Sl.s (Sl.s Sl.z)))) (psCons (pV (Sl.s (Sl.s (Sl.s (Sl.s Sl.z))))) psNil)))) psNil)) (tT2 (tsCons (tN (Sl.s (Sl.s (Sl.s (Sl.s (Sl.s (Sl.s (Sl.s (Sl.s Sl.z))))))))) (tsCons (tN (Sl.s (Sl.s (Sl.s (Sl.s (Sl.s (Sl.s (Sl.s (Sl.s (Sl.s Sl.z)))))))))) tsNil)))
  (t_times_5_1_1 k))
def t_times_5 (k : Nat) : E_times → Res (TF Int × E_times) := (sLoop (pN oEnum (psCons (pN (f_digits k) (psCons (pV (Sl.s Sl.z)) (psCons (pV (Sl.s (Sl.s (Sl.s Sl.z)))) (psCons (pV (Sl.s (Sl.s (Sl.s (Sl.s Sl.z))))) psNil)))) psNil)) (tT2 (tsCons (tN (Sl.s (Sl.s (Sl.s (Sl.s (Sl.s (Sl.s Sl.z))))))) (tsCons (tN (Sl.s (Sl.s (Sl.s (Sl.s (Sl.s (Sl.s (Sl.s Sl.z)))))))) tsNil)))
  (t_times_5_1 k))
def t_times_6_1_1 (k : Nat) : E_times → Res (TF Int × E_times) := (sPut (Sl.s (Sl.s (Sl.s (Sl.s (Sl.s Sl.z))))) Pl.ze (eP (p2 oAdd (p2 oIx (pV (Sl.s (Sl.s (Sl.s (Sl.s (Sl.s Sl.z)))))) (p2 oAdd (p2 oSub (pV (Sl.s (Sl.s (Sl.s (Sl.s (Sl.s (Sl.s (Sl.s (Sl.s (Sl.s (Sl.s Sl.z))))))))))) (pV (Sl.s (Sl.s (Sl.s (Sl.s Sl.z)))))) (pV (Sl.s (Sl.s (Sl.s (Sl.s (Sl.s (Sl.s (Sl.s (Sl.s (Sl.s (Sl.s (Sl.s Sl.z)))))))))))))) (p2 oMul (p2 oIx (pV (Sl.s (Sl.s (Sl.s (Sl.s (Sl.s Sl.z)))))) (pV (Sl.s (Sl.s (Sl.s (Sl.s (Sl.s (Sl.s (Sl.s (Sl.s (Sl.s (Sl.s Sl.z)))))))))))) (pV (Sl.s (Sl.s (Sl.s (Sl.s (Sl.s (Sl.s (Sl.s (Sl.s (Sl.s (Sl.s (Sl.s (Sl.s Sl.z)))))))))))))))) (paZ (Sl.s (Sl.s (Sl.s (Sl.s (Sl.s Sl.z)))))) (eP (p2 oAdd (p2 oSub (pV (Sl.s (Sl.s (Sl.s (Sl.s (Sl.s (Sl.s (Sl.s (Sl.s (Sl.s (Sl.s Sl.z))))))))))) (pV (Sl.s (Sl.s (Sl.s (Sl.s Sl.z)))))) (pV (Sl.s (Sl.s (Sl.s (Sl.s (Sl.s (Sl.s (Sl.s (Sl.s (Sl.s (Sl.s (Sl.s Sl.z)))))))))))))))
def t_times_6_1 (k : Nat) : E_times → Res (TF Int × E_times) := (sLoop (p1 (oIEnum tab_HIGHEST) (pV Sl.z)) (tT2 (tsCons (tN (Sl.s (Sl.s (Sl.s (Sl.s (Sl.s (Sl.s (Sl.s (Sl.s (Sl.s (Sl.s (Sl.s Sl.z)))))))))))) (tsCons (tN (Sl.s (Sl.s (Sl.s (Sl.s (Sl.s (Sl.s (Sl.s (Sl.s (Sl.s (Sl.s (Sl.s (Sl.s Sl.z))))))))))))) tsNil)))
  (t_times_6_1_1 k))
def t_times_6 (k : Nat) : E_times → Res (TF Int × E_times) := (sLoop (pN oRg3 (psCons (p2 oSub (p2 oMul (pC (2 : Int)) (pV (Sl.s (Sl.s (Sl.s (Sl.s Sl.z)))))) (pC (2 : Int))) (psCons (p2 oSub (pV (Sl.s (Sl.s (Sl.s (Sl.s Sl.z))))) (pC (1 : Int))) (psCons (p1 oNeg (pC (1 : Int))) psNil)))) (tN (Sl.s (Sl.s (Sl.s (Sl.s (Sl.s (Sl.s (Sl.s (Sl.s (Sl.s (Sl.s Sl.z)))))))))))
  (t_times_6_1 k))
def t_times_7 (k : Nat) : E_times → Res (TF Int × E_times) := (sRe (pN (f_number_of_digits k) (psCons (pSl (pV (Sl.s (Sl.s (Sl.s (Sl.s (Sl.s Sl.z)))))) poNone (poSome (pV (Sl.s (Sl.s (Sl.s (Sl.s Sl.z))))))) (psCons (pV (Sl.s (Sl.s (Sl.s Sl.z)))) psNil))))
/-- times: 0 q, 1 a, 2 b, 3 base, 4 many, 5 found, 6 i, 7 one, 8 j, 9 other, 10 high, 11 k, 12 share -/
def f_times : Nat → Int × Int × Int × Unit → Res Int
  | 0 => fun _ => .bad
  | k + 1 => tDef E_times (.bad)
    (sThen (sDo (pN (f_look_at_field k) (psCons (pV Sl.z) psNil)))
    (sThen (t_times_2 k)
    (sThen (t_times_3 k)
    (sThen (t_times_4 k)
    (sThen (t_times_5 k)
    (sThen (t_times_6 k)
    (t_times_7 k)))))))
abbrev E_l_pop := Option (List Int) × Unit
/-- _law_pop: 0 _law_draws_here -/
def f_l_pop : Nat → (List Int) × Unit → Res (Int × (List Int))
  | 0 => fun _ => .bad
  | k + 1 => tDef1 E_l_pop Sl.z (.bad)
    (sThen (sCond (p2 oEq (pV Sl.z) (pLst (plNil (α := Int))))
    (sRe (pC (0 : Int)))
    sNop)
    (sReE (ePop Sl.z Pl.ze (paZ Sl.z))))
abbrev E_mate_of := Option (List (List Int)) × Option (List (List Int)) × Option Int × Option (List Int) × Option Int × Option Int × Unit
/-- mate_of: 0 parting, 1 found, 2 number, 3 way, 4 row, 5 column -/
def f_mate_of : Nat → (List (List Int)) × Unit → Res (List (List Int))
  | 0 => fun _ => .bad
  | k + 1 => tDef E_mate_of (.bad)
    (sThen (sLet (Sl.s Sl.z) (pLc (pV Sl.z) (tN (Sl.s (Sl.s (Sl.s Sl.z)))) pYes (pLc (pV Sl.z) (tN (Sl.s (Sl.s (Sl.s Sl.z)))) pYes (pC (0 : Int)))))
    (sThen (sLoop (pN oEnum (psCons (pV Sl.z) psNil)) (tT2 (tsCons (tN (Sl.s (Sl.s Sl.z))) (tsCons (tN (Sl.s (Sl.s (Sl.s Sl.z)))) tsNil)))
    (sLoop (pN oEnum (psCons (pV (Sl.s (Sl.s (Sl.s Sl.z)))) psNil)) (tT2 (tsCons (tN (Sl.s (Sl.s (Sl.s (Sl.s Sl.z))))) (tsCons (tN (Sl.s (Sl.s (Sl.s (Sl.s (Sl.s Sl.z)))))) tsNil)))
    (sPut (Sl.s Sl.z) (Pl.up Pl.ze) (eP (pV (Sl.s (Sl.s Sl.z)))) (paI (Sl.s Sl.z) Pl.ze (paZ (Sl.s Sl.z)) (eP (pV (Sl.s (Sl.s (Sl.s (Sl.s Sl.z))))))) (eP (pV (Sl.s (Sl.s (Sl.s (Sl.s (Sl.s Sl.z))))))))))
    (sReE (eM (Sl.s Sl.z)))))
abbrev E_all_unlike_2 := Option (List Int) × Option Int × Option Int × Unit
/-- all_unlike: 0 numbers, 1 k, 2 number -/
def f_all_unlike_2 : Nat → (List Int) × Unit → Res Bool
  | 0 => fun _ => .bad
  | k + 1 => tDef E_all_unlike_2 (.bad)
    (sRe (p1 oNot (pN oAny (psCons (pLc (pN oEnum (psCons (pV Sl.z) psNil)) (tT2 (tsCons (tN (Sl.s Sl.z)) (tsCons (tN (Sl.s (Sl.s Sl.z))) tsNil))) pYes (p2 oIn (pV (Sl.s (Sl.s Sl.z))) (pSl (pV Sl.z) poNone (poSome (pV (Sl.s Sl.z)))))) psNil))))
abbrev E_things_on := Option (List (List Int)) × Option (List Int) × Option Int × Option Int × Unit
/-- things_on: 0 square, 1 way, 2 row, 3 column -/
def f_things_on : Nat → (List (List Int)) × (List Int) × Unit → Res (List Int)
  | 0 => fun _ => .bad
  | k + 1 => tDef E_things_on (.bad)
    (sRe (pLc (pN oEnum (psCons (pV (Sl.s Sl.z)) psNil)) (tT2 (tsCons (tN (Sl.s (Sl.s Sl.z))) (tsCons (tN (Sl.s (Sl.s (Sl.s Sl.z)))) tsNil))) pYes (p2 oIx (p2 oIx (pV Sl.z) (pV (Sl.s (Sl.s Sl.z)))) (pV (Sl.s (Sl.s (Sl.s Sl.z)))))))
abbrev E_parting_of := Option (List (List Int)) × Option (List (List Int)) × Option Int × Option (List Int) × Unit
/-- parting_of: 0 square, 1 mate, 2 number, 3 row -/
def f_parting_of : Nat → (List (List Int)) × (List (List Int)) × Unit → Res (List (List Int))
  | 0 => fun _ => .bad
  | k + 1 => tDef E_parting_of (.bad)
    (sRe (pLc (pN oRg1 (psCons (pN oLen (psCons (pV Sl.z) psNil)) psNil)) (tN (Sl.s (Sl.s Sl.z))) pYes (pLc (pV (Sl.s Sl.z)) (tN (Sl.s (Sl.s (Sl.s Sl.z)))) pYes (p2 oIndex (pV (Sl.s (Sl.s (Sl.s Sl.z)))) (pV (Sl.s (Sl.s Sl.z)))))))
abbrev E_l_mix := Option Int × Option Int × Option Int × Unit
/-- _law_mix: 0 _law_cell, 1 _law_turn, 2 _law_number -/
def f_l_mix : Nat → Int × Int × Unit → Res Int
  | 0 => fun _ => .bad
  | k + 1 => tDef E_l_mix (.bad)
    (sThen (sLet (Sl.s (Sl.s Sl.z)) (p2 oMod (p2 oMul (p2 oAdd (p2 oAdd (p2 oMod (pV Sl.z) (pC (2147483647 : Int))) (p2 oMul (p2 oMul (pV (Sl.s Sl.z)) (pV (Sl.s Sl.z))) (pC (7919 : Int)))) (pC (104729 : Int))) (pC (48271 : Int))) (pC (2147483647 : Int))))
    (sRe (p2 oMod (p2 oAdd (p2 oMul (pV (Sl.s (Sl.s Sl.z))) (pV (Sl.s (Sl.s Sl.z)))) (p2 oMul (pC (69621 : Int)) (pV (Sl.s Sl.z)))) (pC (2147483629 : Int)))))
abbrev E_are_mates := Option (List (List Int)) × Option (List (List Int)) × Option (List (Int × Int)) × Option (List Int) × Option (List Int) × Unit
/-- are_mates: 0 one, 1 other, 2 pairs, 3 row, 4 more -/
def f_are_mates : Nat → (List (List Int)) × (List (List Int)) × Unit → Res Bool
  | 0 => fun _ => .bad
  | k + 1 => tDef E_are_mates (.bad)
    (sThen (sLet (Sl.s (Sl.s Sl.z)) (pLst (plNil (α := (Int × Int)))))
    (sThen (sLoop (pN oZip (psCons (pV Sl.z) (psCons (pV (Sl.s Sl.z)) psNil))) (tT2 (tsCons (tN (Sl.s (Sl.s (Sl.s Sl.z)))) (tsCons (tN (Sl.s (Sl.s (Sl.s (Sl.s Sl.z))))) tsNil)))
    (sExd (Sl.s (Sl.s Sl.z)) Pl.ze (paZ (Sl.s (Sl.s Sl.z))) (eP (pN oZipL (psCons (pV (Sl.s (Sl.s (Sl.s Sl.z)))) (psCons (pV (Sl.s (Sl.s (Sl.s (Sl.s Sl.z))))) psNil))))))
    (sRe (pN (f_all_unlike k) (psCons (pV (Sl.s (Sl.s Sl.z))) psNil)))))
abbrev E_witness := Option (List (List (List Int))) × Option (List (List Int)) × Unit
/-- witness: 0 squares, 1 square -/
def f_witness : Nat → (List (List (List Int))) × Unit → Res (List Int)
  | 0 => fun _ => .bad
  | k + 1 => tDef E_witness (.bad)
    (sRe (pLc (pV Sl.z) (tN (Sl.s Sl.z)) pYes (pN (f_column_of k) (psCons (p2 oIx (pV (Sl.s Sl.z)) (pC (0 : Int))) (psCons (p2 oIx (p2 oIx (pV (Sl.s Sl.z)) (pC (1 : Int))) (pC (0 : Int))) psNil)))))
abbrev E_product := Option (List (List Int)) × Option (List (List Int)) × Option Int × Option (List (List Int)) × Option (List Int) × Option (List Int) × Option Int × Option Int × Unit
/-- product: 0 one, 1 other, 2 b, 3 found, 4 row, 5 beside, 6 u, 7 v -/
def f_product : Nat → (List (List Int)) × (List (List Int)) × Unit → Res (List (List Int))
  | 0 => fun _ => .bad
  | k + 1 => tDef E_product (.bad)
    (sThen (sLet (Sl.s (Sl.s Sl.z)) (pN oLen (psCons (pV (Sl.s Sl.z)) psNil)))
    (sThen (sLet (Sl.s (Sl.s (Sl.s Sl.z))) (pLst (plNil (α := (List Int)))))
    (sThen (sLoop (pV Sl.z) (tN (Sl.s (Sl.s (Sl.s (Sl.s Sl.z)))))
    (sLoop (pV (Sl.s Sl.z)) (tN (Sl.s (Sl.s (Sl.s (Sl.s (Sl.s Sl.z))))))
    (sApd (Sl.s (Sl.s (Sl.s Sl.z))) Pl.ze (paZ (Sl.s (Sl.s (Sl.s Sl.z)))) (eP (pLc (pN (f_both_of k) (psCons (pV (Sl.s (Sl.s (Sl.s (Sl.s Sl.z))))) (psCons (pV (Sl.s (Sl.s (Sl.s (Sl.s (Sl.s Sl.z)))))) psNil))) (tT2 (tsCons (tN (Sl.s (Sl.s (Sl.s (Sl.s (Sl.s (Sl.s Sl.z))))))) (tsCons (tN (Sl.s (Sl.s (Sl.s (Sl.s (Sl.s (Sl.s (Sl.s Sl.z)))))))) tsNil))) pYes (p2 oAdd (p2 oMul (pV (Sl.s (Sl.s Sl.z))) (pV (Sl.s (Sl.s (Sl.s (Sl.s (Sl.s (Sl.s Sl.z)))))))) (pV (Sl.s (Sl.s (Sl.s (Sl.s (Sl.s (Sl.s (Sl.s Sl.z))))))))))))))
    (sReE (eM (Sl.s (Sl.s (Sl.s Sl.z))))))))
abbrev E_plus := Option Int × Option Int × Option Int × Option Int × Option Int × Option (List Int) × Option Int × Option Int × Unit
def t_plus_2 (k : Nat) : E_plus → Res (TF Int × E_plus) := (sBind (tT2 (tsCons (tN (Sl.s (Sl.s (Sl.s Sl.z)))) (tsCons (tN (Sl.s (Sl.s (Sl.s (Sl.s Sl.z))))) tsNil))) (p1 (oIGet2 tab_POWERS) (pV Sl.z)))
def t_plus_3 (k : Nat) : E_plus → Res (TF Int × E_plus) := (sLet (Sl.s (Sl.s (Sl.s (Sl.s (Sl.s Sl.z))))) (pLc (pN oZip (psCons (pN (f_digits k) (psCons (pV (Sl.s Sl.z)) (psCons (pV (Sl.s (Sl.s (Sl.s Sl.z)))) (psCons (pV (Sl.s (Sl.s (Sl.s (Sl.s Sl.z))))) psNil)))) (psCons (pN (f_digits k) (psCons (pV (Sl.s (Sl.s Sl.z))) (psCons (pV (Sl.s (Sl.s (Sl.s Sl.z)))) (psCons (pV (Sl.s (Sl.s (Sl.s (Sl.s Sl.z))))) psNil)))) psNil))) (tT2 (tsCons (tN (Sl.s (Sl.s (Sl.s (Sl.s (Sl.s (Sl.s Sl.z))))))) (tsCons (tN (Sl.s (Sl.s (Sl.s (Sl.s (Sl.s (Sl.s (Sl.s Sl.z)))))))) tsNil))) pYes (p2 oAdd (pV (Sl.s (Sl.s (Sl.s (Sl.s (Sl.s (Sl.s Sl.z))))))) (pV (Sl.s (Sl.s (Sl.s (Sl.s (Sl.s (Sl.s (Sl.s Sl.z)))))))))))
def t_plus_4 (k : Nat) : E_plus → Res (TF Int × E_plus) := (sRe (pN (f_number_of_digits k) (psCons (pV (Sl.s (Sl.s (Sl.s (Sl.s (Sl.s Sl.z)))))) (psCons (pV (Sl.s (Sl.s (Sl.s Sl.z)))) psNil))))
/-- plus: 0 q, 1 a, 2 b, 3 base, 4 many, 5 some, 6 one, 7 other -/
def f_plus : Nat → Int × Int × Int × Unit → Res Int
  | 0 => fun _ => .bad
  | k + 1 => tDef E_plus (.bad)
    (sThen (sDo (pN (f_look_at_field k) (psCons (pV Sl.z) psNil)))
    (sThen (t_plus_2 k)
    (sThen (t_plus_3 k)
    (t_plus_4 k))))
abbrev E_is_way := Option (List (List Int)) × Option (List Int) × Option Int × Unit
/-- is_way: 0 square, 1 way, 2 column -/
def f_is_way : Nat → (List (List Int)) × (List Int) × Unit → Res Bool
  | 0 => fun _ => .bad
  | k + 1 => tDef E_is_way (.bad)
    (sThen (sCond (pOr (p2 oNe (pN oLen (psCons (pV (Sl.s Sl.z)) psNil)) (pN oLen (psCons (pV Sl.z) psNil))) (pN oAny (psCons (pLc (pV (Sl.s Sl.z)) (tN (Sl.s (Sl.s Sl.z))) pYes (pOr (p2 oLt (pV (Sl.s (Sl.s Sl.z))) (pC (0 : Int))) (p2 oGe (pV (Sl.s (Sl.s Sl.z))) (pN oLen (psCons (pV Sl.z) psNil))))) psNil)))
    (sRe (pC false))
    sNop)
    (sRe (pAnd (pN (f_all_unlike_2 k) (psCons (pV (Sl.s Sl.z)) psNil)) (pN (f_all_unlike_2 k) (psCons (pN (f_things_on k) (psCons (pV Sl.z) (psCons (pV (Sl.s Sl.z)) psNil))) psNil)))))
abbrev E_l_draws := Option (List Int) × Option Int × Option Int × Option (List Int) × Option (List Int) × Option (List Int) × Option Int × Option Int × Option Int × Option Int × Unit
def t_l_draws_1 (k : Nat) : E_l_draws → Res (TF (List Int) × E_l_draws) := (sLet (Sl.s (Sl.s (Sl.s Sl.z))) (p2 oCat (pSl (pV Sl.z) poNone (poSome (pC (63 : Int)))) (pLst (plCons (pV (Sl.s Sl.z)) (plNil (α := Int))))))
def t_l_draws_2 (k : Nat) : E_l_draws → Res (TF (List Int) × E_l_draws) := (sLet (Sl.s (Sl.s (Sl.s (Sl.s Sl.z)))) (pLc (pV (Sl.s (Sl.s (Sl.s Sl.z)))) (tN (Sl.s (Sl.s (Sl.s (Sl.s (Sl.s (Sl.s (Sl.s (Sl.s (Sl.s Sl.z)))))))))) pYes (p2 oFdiv (pV (Sl.s (Sl.s (Sl.s (Sl.s (Sl.s (Sl.s (Sl.s (Sl.s (Sl.s Sl.z)))))))))) (pC (100000 : Int)))))
def t_l_draws_3 (k : Nat) : E_l_draws → Res (TF (List Int) × E_l_draws) := (sLet (Sl.s (Sl.s (Sl.s (Sl.s (Sl.s Sl.z))))) (pLst (plNil (α := Int))))
def t_l_draws_4_1 (k : Nat) : E_l_draws → Res (TF (List Int) × E_l_draws) := (sLet (Sl.s (Sl.s (Sl.s (Sl.s (Sl.s (Sl.s (Sl.s Sl.z))))))) (p2 oMod (pV (Sl.s (Sl.s (Sl.s (Sl.s (Sl.s (Sl.s Sl.z))))))) (pN oLen (psCons (pV (Sl.s (Sl.s (Sl.s Sl.z)))) psNil))))
def t_l_draws_4_2 (k : Nat) : E_l_draws → Res (TF (List Int) × E_l_draws) := (sLet (Sl.s (Sl.s (Sl.s (Sl.s (Sl.s (Sl.s (Sl.s (Sl.s Sl.z)))))))) (pN (f_l_mix k) (psCons (p2 oIx (pV (Sl.s (Sl.s (Sl.s Sl.z)))) (pV (Sl.s (Sl.s (Sl.s (Sl.s (Sl.s (Sl.s (Sl.s Sl.z))))))))) (psCons (pV (Sl.s (Sl.s (Sl.s (Sl.s (Sl.s (Sl.s Sl.z))))))) psNil))))
def t_l_draws_4_3 (k : Nat) : E_l_draws → Res (TF (List Int) × E_l_draws) := (sLet (Sl.s (Sl.s (Sl.s (Sl.s (Sl.s (Sl.s (Sl.s (Sl.s Sl.z)))))))) (p2 oMod (p2 oAdd (p2 oMul (pV (Sl.s (Sl.s (Sl.s (Sl.s (Sl.s (Sl.s (Sl.s (Sl.s Sl.z))))))))) (pV (Sl.s (Sl.s (Sl.s (Sl.s (Sl.s (Sl.s (Sl.s (Sl.s Sl.z)))))))))) (p2 oMul (pC (7 : Int)) (pV (Sl.s (Sl.s (Sl.s (Sl.s (Sl.s (Sl.s Sl.z))))))))) (pC (2147483587 : Int))))
def t_l_draws_4_4_t_1 (k : Nat) : E_l_draws → Res (TF (List Int) × E_l_draws) := (sLet (Sl.s (Sl.s (Sl.s (Sl.s (Sl.s (Sl.s (Sl.s (Sl.s Sl.z)))))))) (p2 oMod (p2 oIx (pV (Sl.s (Sl.s (Sl.s (Sl.s Sl.z))))) (pV (Sl.s (Sl.s (Sl.s (Sl.s (Sl.s (Sl.s (Sl.s Sl.z))))))))) (pC (2147483587 : Int))))
def t_l_draws_4_4_t_2 (k : Nat) : E_l_draws → Res (TF (List Int) × E_l_draws) := (sPut (Sl.s (Sl.s (Sl.s (Sl.s Sl.z)))) Pl.ze (eP (p2 oFdiv (p2 oIx (pV (Sl.s (Sl.s (Sl.s (Sl.s Sl.z))))) (pV (Sl.s (Sl.s (Sl.s (Sl.s (Sl.s (Sl.s (Sl.s Sl.z))))))))) (pC (2147483587 : Int)))) (paZ (Sl.s (Sl.s (Sl.s (Sl.s Sl.z))))) (eP (pV (Sl.s (Sl.s (Sl.s (Sl.s (Sl.s (Sl.s (Sl.s Sl.z))))))))))
def t_l_draws_4_4 (k : Nat) : E_l_draws → Res (TF (List Int) × E_l_draws) := (sCond (pAnd (p2 oGe (p2 oIx (pV (Sl.s (Sl.s (Sl.s Sl.z)))) (pV (Sl.s (Sl.s (Sl.s (Sl.s (Sl.s (Sl.s (Sl.s Sl.z))))))))) (p2 oPow (pC (10 : Int)) (pC (18 : Int)))) (p2 oGt (p2 oIx (pV (Sl.s (Sl.s (Sl.s (Sl.s Sl.z))))) (pV (Sl.s (Sl.s (Sl.s (Sl.s (Sl.s (Sl.s (Sl.s Sl.z))))))))) (pC (0 : Int))))
  (sThen (t_l_draws_4_4_t_1 k)
  (t_l_draws_4_4_t_2 k))
  sNop)
def t_l_draws_4_5 (k : Nat) : E_l_draws → Res (TF (List Int) × E_l_draws) := (sApd (Sl.s (Sl.s (Sl.s (Sl.s (Sl.s Sl.z))))) Pl.ze (paZ (Sl.s (Sl.s (Sl.s (Sl.s (Sl.s Sl.z)))))) (eP (pV (Sl.s (Sl.s (Sl.s (Sl.s (Sl.s (Sl.s (Sl.s (Sl.s Sl.z)))))))))))
def t_l_draws_4 (k : Nat) : E_l_draws → Res (TF (List Int) × E_l_draws) := (sLoop (pN oRg1 (psCons (p2 oAdd (pV (Sl.s Sl.z)) (pV (Sl.s (Sl.s Sl.z)))) psNil)) (tN (Sl.s (Sl.s (Sl.s (Sl.s (Sl.s (Sl.s Sl.z)))))))
  (sThen (t_l_draws_4_1 k)
  (sThen (t_l_draws_4_2 k)
  (sThen (t_l_draws_4_3 k)
  (sThen (t_l_draws_4_4 k)
  (t_l_draws_4_5 k))))))
def t_l_draws_5 (k : Nat) : E_l_draws → Res (TF (List Int) × E_l_draws) := (sRe (pSl (pV (Sl.s (Sl.s (Sl.s (Sl.s (Sl.s Sl.z)))))) (poSome (pV (Sl.s Sl.z))) poNone))
/-- _law_draws: 0 _law_script, 1 _law_turn, 2 _law_many, 3 _law_spots, 4 _law_lefts, 5 _law_found, 6 _law_k, 7 _law_at, 8 _law_number, 9 _law_cell -/
def f_l_draws : Nat → (List Int) × Int × Int × Unit → Res (List Int)
  | 0 => fun _ => .bad
  | k + 1 => tDef E_l_draws (.bad)
    (sThen (t_l_draws_1 k)
    (sThen (t_l_draws_2 k)
    (sThen (t_l_draws_3 k)
    (sThen (t_l_draws_4 k)
    (t_l_draws_5 k)))))
abbrev E_is_set := Option (List (List (List Int))) × Option Int × Option (List (List Int)) × Option (List (List Int)) × Unit
/-- is_set: 0 squares, 1 k, 2 one, 3 other -/
def f_is_set : Nat → (List (List (List Int))) × Unit → Res Bool
  | 0 => fun _ => .bad
  | k + 1 => tDef E_is_set (.bad)
    (sThen (sLoop (pN oEnum (psCons (pV Sl.z) psNil)) (tT2 (tsCons (tN (Sl.s Sl.z)) (tsCons (tN (Sl.s (Sl.s Sl.z))) tsNil)))
    (sLoop (pSl (pV Sl.z) poNone (poSome (pV (Sl.s Sl.z)))) (tN (Sl.s (Sl.s (Sl.s Sl.z))))
    (sCond (pNot (pN (f_are_mates k) (psCons (pV (Sl.s (Sl.s Sl.z))) (psCons (pV (Sl.s (Sl.s (Sl.s Sl.z)))) psNil))))
    (sRe (pC false))
    sNop)))
    (sRe (pC true)))
abbrev E_field_squares := Option Int × Option (List (List (List Int))) × Option Int × Option Int × Option Int × Unit
def t_field_squares_3_1 (k : Nat) : E_field_squares → Res (TF (List (List (List Int))) × E_field_squares) := (sApd (Sl.s Sl.z) Pl.ze (paZ (Sl.s Sl.z)) (eP (pLc (pN oRg1 (psCons (pV Sl.z) psNil)) (tN (Sl.s (Sl.s (Sl.s Sl.z)))) pYes (pLc (pN oRg1 (psCons (pV Sl.z) psNil)) (tN (Sl.s (Sl.s (Sl.s (Sl.s Sl.z))))) pYes (pN (f_plus k) (psCons (pV Sl.z) (psCons (pN (f_times k) (psCons (pV Sl.z) (psCons (pV (Sl.s (Sl.s Sl.z))) (psCons (pV (Sl.s (Sl.s (Sl.s Sl.z)))) psNil)))) (psCons (pV (Sl.s (Sl.s (Sl.s (Sl.s Sl.z))))) psNil))))))))
def t_field_squares_3 (k : Nat) : E_field_squares → Res (TF (List (List (List Int))) × E_field_squares) := (sLoop (pN oRg2 (psCons (pC (1 : Int)) (psCons (pV Sl.z) psNil))) (tN (Sl.s (Sl.s Sl.z)))
  (t_field_squares_3_1 k))
/-- field_squares: 0 q, 1 found, 2 m, 3 r, 4 c -/
def f_field_squares : Nat → Int × Unit → Res (List (List (List Int)))
  | 0 => fun _ => .bad
  | k + 1 => tDef E_field_squares (.bad)
    (sThen (sDo (pN (f_look_at_field k) (psCons (pV Sl.z) psNil)))
    (sThen (sLet (Sl.s Sl.z) (pLst (plNil (α := (List (List Int))))))
    (sThen (t_field_squares_3 k)
    (sReE (eM (Sl.s Sl.z))))))
abbrev E_made_set := Option Int × Unit
/-- made_set: 0 n -/
def f_made_set : Nat → Int × Unit → Res (List (List (List Int)))
  | 0 => fun _ => .bad
  | k + 1 => tDef E_made_set (.bad)
    (sThen (sCond (p1 (oIIn tab_POWERS) (pV Sl.z))
    (sRe (pN (f_field_squares k) (psCons (pV Sl.z) psNil)))
    sNop)
    (sThen (sCond (p2 oEq (pV Sl.z) (pC (6 : Int)))
    (sRe (pLst (plCons (pN (f_product k) (psCons (p2 oIx (pN (f_field_squares k) (psCons (pC (2 : Int)) psNil)) (pC (0 : Int))) (psCons (p2 oIx (pN (f_field_squares k) (psCons (pC (3 : Int)) psNil)) (pC (0 : Int))) psNil))) (plNil (α := (List (List Int)))))))
    sNop)
    (sRe (pLst (plCons (pLst (plCons (pLst (plCons (pC (0 : Int)) (plNil (α := Int)))) (plNil (α := (List Int))))) (plNil (α := (List (List Int)))))))))
abbrev E_law := Option (List Int) × Option (List Int) × Option Int × Option (List (List (List Int))) × Option (List (List Int)) × Option (List (List Int)) × Option (List (List Int)) × Option Int × Option (List (List (List Int))) × Option Int × Option (List (List Int)) × Option (List Int) × Option (List Int) × Option (List (List Int)) × Unit
def t_law_1 (k : Nat) : E_law → Res (TF Bool × E_law) := (sLet (Sl.s Sl.z) (pN (f_l_draws k) (psCons (pV Sl.z) (psCons (pC (1 : Int)) (psCons (pC (10 : Int)) psNil)))))
def t_law_2 (k : Nat) : E_law → Res (TF Bool × E_law) := (sLetE (Sl.s (Sl.s Sl.z)) (e2_ oIx (eP (pLst (plCons (pC (2 : Int)) (plCons (pC (3 : Int)) (plCons (pC (4 : Int)) (plCons (pC (5 : Int)) (plCons (pC (7 : Int)) (plCons (pC (8 : Int)) (plCons (pC (9 : Int)) (plNil (α := Int))))))))))) (e2_ oMod (eCall1 (Sl.s Sl.z) (f_l_pop k) (esCons (eM (Sl.s Sl.z)) (esP psNil))) (eP (pC (7 : Int))))))
def t_law_3 (k : Nat) : E_law → Res (TF Bool × E_law) := (sLet (Sl.s (Sl.s (Sl.s Sl.z))) (pN (f_field_squares k) (psCons (pV (Sl.s (Sl.s Sl.z))) psNil)))
def t_law_4 (k : Nat) : E_law → Res (TF Bool × E_law) := (sLetE (Sl.s (Sl.s (Sl.s (Sl.s Sl.z)))) (e2_ oIx (eP (pV (Sl.s (Sl.s (Sl.s Sl.z))))) (e2_ oMod (eCall1 (Sl.s Sl.z) (f_l_pop k) (esCons (eM (Sl.s Sl.z)) (esP psNil))) (eP (p2 oSub (pV (Sl.s (Sl.s Sl.z))) (pC (1 : Int)))))))
def t_law_5 (k : Nat) : E_law → Res (TF Bool × E_law) := (sLetE (Sl.s (Sl.s (Sl.s (Sl.s (Sl.s Sl.z))))) (e2_ oIx (eP (pV (Sl.s (Sl.s (Sl.s Sl.z))))) (e2_ oMod (eCall1 (Sl.s Sl.z) (f_l_pop k) (esCons (eM (Sl.s Sl.z)) (esP psNil))) (eP (p2 oSub (pV (Sl.s (Sl.s Sl.z))) (pC (1 : Int)))))))
def t_law_6_t_1 (k : Nat) : E_law → Res (TF Bool × E_law) := (sLet (Sl.s (Sl.s (Sl.s (Sl.s (Sl.s (Sl.s Sl.z)))))) (pN (f_parting_of k) (psCons (pV (Sl.s (Sl.s (Sl.s (Sl.s Sl.z))))) (psCons (pV (Sl.s (Sl.s (Sl.s (Sl.s (Sl.s Sl.z)))))) psNil))))
def t_law_6_t_2 (k : Nat) : E_law → Res (TF Bool × E_law) := (sCond (pOr (p2 oNe (pLc (pV (Sl.s (Sl.s (Sl.s (Sl.s (Sl.s (Sl.s Sl.z))))))) (tN (Sl.s (Sl.s (Sl.s (Sl.s (Sl.s (Sl.s (Sl.s (Sl.s (Sl.s (Sl.s (Sl.s (Sl.s Sl.z))))))))))))) (pNot (pN (f_is_way k) (psCons (pV (Sl.s (Sl.s (Sl.s (Sl.s Sl.z))))) (psCons (pV (Sl.s (Sl.s (Sl.s (Sl.s (Sl.s (Sl.s (Sl.s (Sl.s (Sl.s (Sl.s (Sl.s (Sl.s Sl.z))))))))))))) psNil)))) (pV (Sl.s (Sl.s (Sl.s (Sl.s (Sl.s (Sl.s (Sl.s (Sl.s (Sl.s (Sl.s (Sl.s (Sl.s Sl.z)))))))))))))) (pLst (plNil (α := (List Int))))) (p2 oNe (pN (f_mate_of k) (psCons (pV (Sl.s (Sl.s (Sl.s (Sl.s (Sl.s (Sl.s Sl.z))))))) psNil)) (pV (Sl.s (Sl.s (Sl.s (Sl.s (Sl.s Sl.z))))))))
  (sRe (pC false))
  sNop)
def t_law_6 (k : Nat) : E_law → Res (TF Bool × E_law) := (sCond (p2 oNe (pV (Sl.s (Sl.s (Sl.s (Sl.s Sl.z))))) (pV (Sl.s (Sl.s (Sl.s (Sl.s (Sl.s Sl.z)))))))
  (sThen (t_law_6_t_1 k)
  (t_law_6_t_2 k))
  sNop)
def t_law_7 (k : Nat) : E_law → Res (TF Bool × E_law) := (sCond (p2 oNe (pN (f_are_mates k) (psCons (pV (Sl.s (Sl.s (Sl.s (Sl.s Sl.z))))) (psCons (pV (Sl.s (Sl.s (Sl.s (Sl.s (Sl.s Sl.z)))))) psNil))) (p2 oNe (pV (Sl.s (Sl.s (Sl.s (Sl.s Sl.z))))) (pV (Sl.s (Sl.s (Sl.s (Sl.s (Sl.s Sl.z))))))))
  (sRe (pC false))
  sNop)
def t_law_8 (k : Nat) : E_law → Res (TF Bool × E_law) := (sLetE (Sl.s (Sl.s (Sl.s (Sl.s (Sl.s (Sl.s (Sl.s Sl.z))))))) (e2_ oAdd (eP (pC (1 : Int))) (e2_ oMod (eCall1 (Sl.s Sl.z) (f_l_pop k) (esCons (eM (Sl.s Sl.z)) (esP psNil))) (eP (pC (9 : Int))))))
def t_law_9 (k : Nat) : E_law → Res (TF Bool × E_law) := (sLet (Sl.s (Sl.s (Sl.s (Sl.s (Sl.s (Sl.s (Sl.s (Sl.s Sl.z)))))))) (pN (f_made_set k) (psCons (pV (Sl.s (Sl.s (Sl.s (Sl.s (Sl.s (Sl.s (Sl.s Sl.z)))))))) psNil)))
def t_law_10 (k : Nat) : E_law → Res (TF Bool × E_law) := (sCond (p2 oNe (pN oLen (psCons (pV (Sl.s (Sl.s (Sl.s (Sl.s (Sl.s (Sl.s (Sl.s (Sl.s Sl.z))))))))) psNil)) (p2 oIx (pLst (plCons (pC (1 : Int)) (plCons (pC (1 : Int)) (plCons (pC (2 : Int)) (plCons (pC (3 : Int)) (plCons (pC (4 : Int)) (plCons (pC (1 : Int)) (plCons (pC (6 : Int)) (plCons (pC (7 : Int)) (plCons (pC (8 : Int)) (plNil (α := Int)))))))))))) (p2 oSub (pV (Sl.s (Sl.s (Sl.s (Sl.s (Sl.s (Sl.s (Sl.s Sl.z)))))))) (pC (1 : Int)))))
  (sRe (pC false))
  sNop)
def t_law_11_1 (k : Nat) : E_law → Res (TF Bool × E_law) := (sCond (p2 oNe (pLc (pSl (pV (Sl.s (Sl.s (Sl.s (Sl.s (Sl.s (Sl.s (Sl.s (Sl.s Sl.z))))))))) poNone (poSome (pV (Sl.s (Sl.s (Sl.s (Sl.s (Sl.s (Sl.s (Sl.s (Sl.s (Sl.s Sl.z)))))))))))) (tN (Sl.s (Sl.s (Sl.s (Sl.s (Sl.s (Sl.s (Sl.s (Sl.s (Sl.s (Sl.s (Sl.s (Sl.s (Sl.s Sl.z)))))))))))))) (pNot (pN (f_are_mates k) (psCons (pV (Sl.s (Sl.s (Sl.s (Sl.s (Sl.s (Sl.s (Sl.s (Sl.s (Sl.s (Sl.s Sl.z))))))))))) (psCons (pV (Sl.s (Sl.s (Sl.s (Sl.s (Sl.s (Sl.s (Sl.s (Sl.s (Sl.s (Sl.s (Sl.s (Sl.s (Sl.s Sl.z)))))))))))))) psNil)))) (pV (Sl.s (Sl.s (Sl.s (Sl.s (Sl.s (Sl.s (Sl.s (Sl.s (Sl.s (Sl.s (Sl.s (Sl.s (Sl.s Sl.z))))))))))))))) (pLst (plNil (α := (List (List Int))))))
  (sRe (pC false))
  sNop)
def t_law_11 (k : Nat) : E_law → Res (TF Bool × E_law) := (sLoop (pN oEnum (psCons (pV (Sl.s (Sl.s (Sl.s (Sl.s (Sl.s (Sl.s (Sl.s (Sl.s Sl.z))))))))) psNil)) (tT2 (tsCons (tN (Sl.s (Sl.s (Sl.s (Sl.s (Sl.s (Sl.s (Sl.s (Sl.s (Sl.s Sl.z)))))))))) (tsCons (tN (Sl.s (Sl.s (Sl.s (Sl.s (Sl.s (Sl.s (Sl.s (Sl.s (Sl.s (Sl.s Sl.z))))))))))) tsNil)))
  (t_law_11_1 k))
def t_law_12 (k : Nat) : E_law → Res (TF Bool × E_law) := (sCond (p2 oEq (pV (Sl.s (Sl.s (Sl.s (Sl.s (Sl.s (Sl.s (Sl.s Sl.z)))))))) (pC (1 : Int)))
  (sRe (pC true))
  sNop)
def t_law_13 (k : Nat) : E_law → Res (TF Bool × E_law) := (sLet (Sl.s (Sl.s (Sl.s (Sl.s (Sl.s (Sl.s (Sl.s (Sl.s (Sl.s (Sl.s (Sl.s Sl.z))))))))))) (pN (f_witness k) (psCons (pV (Sl.s (Sl.s (Sl.s (Sl.s (Sl.s (Sl.s (Sl.s (Sl.s Sl.z))))))))) psNil)))
def t_law_14 (k : Nat) : E_law → Res (TF Bool × E_law) := (sRe (pAnd (p2 oIsB (pN (f_is_set k) (psCons (pV (Sl.s (Sl.s (Sl.s (Sl.s (Sl.s (Sl.s (Sl.s (Sl.s Sl.z))))))))) psNil)) (pC true)) (pAnd (p2 oNotIn (pC (0 : Int)) (pV (Sl.s (Sl.s (Sl.s (Sl.s (Sl.s (Sl.s (Sl.s (Sl.s (Sl.s (Sl.s (Sl.s Sl.z))))))))))))) (p2 oEq (pN oLen (psCons (pV (Sl.s (Sl.s (Sl.s (Sl.s (Sl.s (Sl.s (Sl.s (Sl.s (Sl.s (Sl.s (Sl.s Sl.z)))))))))))) psNil)) (pN oLen (psCons (pLc (pN oRg1 (psCons (pV (Sl.s (Sl.s (Sl.s (Sl.s (Sl.s (Sl.s (Sl.s Sl.z)))))))) psNil)) (tN (Sl.s (Sl.s (Sl.s (Sl.s (Sl.s (Sl.s (Sl.s (Sl.s (Sl.s Sl.z)))))))))) (p2 oIn (pV (Sl.s (Sl.s (Sl.s (Sl.s (Sl.s (Sl.s (Sl.s (Sl.s (Sl.s Sl.z)))))))))) (pV (Sl.s (Sl.s (Sl.s (Sl.s (Sl.s (Sl.s (Sl.s (Sl.s (Sl.s (Sl.s (Sl.s Sl.z))))))))))))) (pV (Sl.s (Sl.s (Sl.s (Sl.s (Sl.s (Sl.s (Sl.s (Sl.s (Sl.s Sl.z))))))))))) psNil))))))
/-- law: 0 _law_script, 1 _law_draws_here, 2 _law_q, 3 _law_squares, 4 _law_one, 5 _law_other, 6 _law_parting, 7 _law_n, 8 _law_made, 9 _law_k, 10 _law_square, 11 _law_told, 12 _law_way, 13 _law_more -/
def f_law : Nat → (List Int) × Unit → Res Bool
  | 0 => fun _ => .bad
  | k + 1 => tDef E_law (.bad)
    (sThen (t_law_1 k)
    (sThen (t_law_2 k)
    (sThen (t_law_3 k)
    (sThen (t_law_4 k)
    (sThen (t_law_5 k)
    (sThen (t_law_6 k)
    (sThen (t_law_7 k)
    (sThen (t_law_8 k)
    (sThen (t_law_9 k)
    (sThen (t_law_10 k)
    (sThen (t_law_11 k)
    (sThen (t_law_12 k)
    (sThen (t_law_13 k)
    (t_law_14 k))))))))))))))
end Lw
end

section
namespace Lw
open PySem PySem.Spec L2 Sq
set_option maxHeartbeats 4000000 in
theorem l_all_unlike : ∀ k, LF [0] 0 (f_all_unlike k) (m_all_unlike k)
  | 0 => ⟨fun _ _ _ => trivial⟩
  | k + 1 => lf_of (δr := []) (δn := []) (δk := []) trivial (.inr rfl)
    (LS.pre (δ := [0, 0, 0]) (ls_ret (lp1 o_not (lpN o_any (lps_cons (lp_lc (li_en (lps_cons (lp_v Sl.z) lps_nil)) (lb_t2 (lbs_cons (lb_n (Sl.s Sl.z)) (lbs_cons (lb_n (Sl.s (Sl.s Sl.z))) lbs_nil))) lt_yes (lp2 o_in (lp_v (Sl.s (Sl.s Sl.z))) (lp_sl (lp_v Sl.z) lo_none (lo_some (lp_v (Sl.s Sl.z)))))) lps_nil))))) rfl rfl
set_option maxHeartbeats 4000000 in
theorem l_column_of : ∀ k, LF [0, 0] 9 (f_column_of k) (m_column_of k)
  | 0 => ⟨fun _ _ _ => trivial⟩
  | k + 1 => lf_of (δr := []) (δn := []) (δk := []) trivial (.inr rfl)
    (LS.pre (δ := [0, 0, 0, 0]) (ls_ret (lp2 o_ix (lp_lc (li_en (lps_cons (lp_v Sl.z) lps_nil)) (lb_t2 (lbs_cons (lb_n (Sl.s (Sl.s Sl.z))) (lbs_cons (lb_n (Sl.s (Sl.s (Sl.s Sl.z)))) lbs_nil))) (lt_val (lp2 o_eq (lp_v (Sl.s (Sl.s (Sl.s Sl.z)))) (lp_v (Sl.s Sl.z)))) (lp_v (Sl.s (Sl.s Sl.z)))) lp_int))) rfl rfl
set_option maxHeartbeats 4000000 in
theorem l_both_of : ∀ k, LF [0, 0] 9 (f_both_of k) (m_both_of k)
  | 0 => ⟨fun _ _ _ => trivial⟩
  | k + 1 => lf_of (δr := []) (δn := []) (δk := []) trivial (.inr rfl)
    (LS.pre (δ := [0, 0, 0, 0, 0]) (ls_seq (LS.mono (δ' := [0, 0, 10, 0, 0]) (ls_let (Sl.s (Sl.s Sl.z)) (lp_lst (lpl_nil (m := 9)))))
    (ls_seq (LS.mono (δ' := [0, 0, 10, 0, 0]) (ls_for [0, 0, 10, 0, 0] (li_l (lp_v Sl.z)) (lb_n (Sl.s (Sl.s (Sl.s Sl.z))))
    (LS.pre (δ := [0, 0, 10, 0, 0]) (LS.mono (δ' := [0, 0, 10, 0, 0]) (ls_let (Sl.s (Sl.s Sl.z)) (lp2 o_cat (lp_v (Sl.s (Sl.s Sl.z))) (lp_lc (li_l (lp_v (Sl.s Sl.z))) (lb_n (Sl.s (Sl.s (Sl.s (Sl.s Sl.z))))) lt_yes (lpN op_t2 (lps_cons (lp_v (Sl.s (Sl.s (Sl.s Sl.z)))) (lps_cons (lp_v (Sl.s (Sl.s (Sl.s (Sl.s Sl.z))))) lps_nil))))))))))
    (ls_retE (le_m (Sl.s (Sl.s Sl.z))))))) rfl rfl
set_option maxHeartbeats 4000000 in
theorem l_number_of_digits : ∀ k, LF [0, 0] 0 (f_number_of_digits k) (m_number_of_digits k)
  | 0 => ⟨fun _ _ _ => trivial⟩
  | k + 1 => lf_of (δr := []) (δn := []) (δk := []) trivial (.inr rfl)
    (LS.pre (δ := [0, 0, 0, 0]) (ls_seq (LS.mono (δ' := [0, 0, 0, 0]) (ls_let (Sl.s (Sl.s Sl.z)) lp_int))
    (ls_seq (LS.mono (δ' := [0, 0, 0, 0]) (ls_for [0, 0, 0, 0] (li_rv (lps_cons (lp_v Sl.z) lps_nil)) (lb_n (Sl.s (Sl.s (Sl.s Sl.z))))
    (LS.pre (δ := [0, 0, 0, 0]) (LS.mono (δ' := [0, 0, 0, 0]) (ls_let (Sl.s (Sl.s Sl.z)) (lp2 o_add (lp2 o_mul (lp_v (Sl.s (Sl.s Sl.z))) (lp_v (Sl.s Sl.z))) (lp2 o_mod (lp_v (Sl.s (Sl.s (Sl.s Sl.z)))) (lp_v (Sl.s Sl.z)))))))))
    (ls_retE (le_m (Sl.s (Sl.s Sl.z))))))) rfl rfl
set_option maxHeartbeats 4000000 in
theorem l_digits : ∀ k, LF [0, 0, 0] 9 (f_digits k) (m_digits k)
  | 0 => ⟨fun _ _ _ => trivial⟩
  | k + 1 => lf_of (δr := []) (δn := []) (δk := []) trivial (.inr rfl)
    (LS.pre (δ := [0, 0, 0, 0, 0]) (ls_seq (LS.mono (δ' := [0, 0, 0, 10, 0]) (ls_let (Sl.s (Sl.s (Sl.s Sl.z))) (lp_lst (lpl_nil (m := 9)))))
    (ls_seq (LS.mono (δ' := [0, 0, 0, 10, 0]) (ls_for [0, 0, 0, 10, 0] (li_r1 (lps_cons (lp_v (Sl.s (Sl.s Sl.z))) lps_nil)) (lb_n (Sl.s (Sl.s (Sl.s (Sl.s Sl.z)))))
    (LS.pre (δ := [0, 0, 0, 10, 0]) (ls_seq (LS.mono (δ' := [0, 0, 0, 10, 0]) (ls_app (Sl.s (Sl.s (Sl.s Sl.z))) Pl.ze (lpa_z (Sl.s (Sl.s (Sl.s Sl.z)))) (LP.e (lp2 o_mod (lp_v Sl.z) (lp_v (Sl.s Sl.z))))))
    (LS.mono (δ' := [0, 0, 0, 10, 0]) (ls_let Sl.z (lp2 o_fdiv (lp_v Sl.z) (lp_v (Sl.s Sl.z)))))))))
    (ls_retE (le_m (Sl.s (Sl.s (Sl.s Sl.z)))))))) rfl rfl
set_option maxHeartbeats 4000000 in
theorem l_look_at_field : ∀ k, LF [0] 0 (f_look_at_field k) (m_look_at_field k)
  | 0 => ⟨fun _ _ _ => trivial⟩
  | k + 1 => lf_of (δr := []) (δn := [0]) (δk := []) ⟨rfl, trivial⟩ (.inl rfl)
    (LS.pre (δ := [0]) (LS.mono (δ' := [0]) (ls_if (lt_val (lp1 o_iNotIn (lp_v Sl.z)))
    (LS.pre (δ := [0]) ls_bad)
    (LS.pre (δ := [0]) ls_skip)))) rfl rfl
set_option maxHeartbeats 4000000 in
theorem l_times : ∀ k, LF [0, 0, 0] 0 (f_times k) (m_times k)
  | 0 => ⟨fun _ _ _ => trivial⟩
  | k + 1 => lf_of (δr := []) (δn := []) (δk := []) trivial (.inr rfl)
    (LS.pre (δ := [0, 0, 0, 0, 0, 0, 0, 0, 0, 0, 0, 0, 0]) (ls_seq (LS.mono (δ' := [0, 0, 0, 0, 0, 0, 0, 0, 0, 0, 0, 0, 0]) (ls_do (lp_call (l_look_at_field k) (lps_cons (lp_v Sl.z) lps_nil))))
    (ls_seq (LS.mono (δ' := [0, 0, 0, 0, 0, 0, 0, 0, 0, 0, 0, 0, 0]) (ls_bind (lp1 o_iget2 (lp_v Sl.z)) (lb_t2 (lbs_cons (lb_n (Sl.s (Sl.s (Sl.s Sl.z)))) (lbs_cons (lb_n (Sl.s (Sl.s (Sl.s (Sl.s Sl.z))))) lbs_nil)))))
    (ls_seq (LS.mono (δ' := [0, 0, 0, 0, 0, 0, 0, 0, 0, 0, 0, 0, 0]) (ls_if (lt_val (lp2 o_eq (lp_v (Sl.s (Sl.s (Sl.s (Sl.s Sl.z))))) lp_int))
    (LS.pre (δ := [0, 0, 0, 0, 0, 0, 0, 0, 0, 0, 0, 0, 0]) (ls_ret (lp2 o_mod (lp2 o_mul (lp_v (Sl.s Sl.z)) (lp_v (Sl.s (Sl.s Sl.z)))) (lp_v Sl.z))))
    (LS.pre (δ := [0, 0, 0, 0, 0, 0, 0, 0, 0, 0, 0, 0, 0]) ls_skip)))
    (ls_seq (LS.mono (δ' := [0, 0, 0, 0, 0, 10, 0, 0, 0, 0, 0, 0, 0]) (ls_let (Sl.s (Sl.s (Sl.s (Sl.s (Sl.s Sl.z))))) (lp2 (o_rep (α := Int) rfl (by decide)) (lp_lst (lpl_cons (LP.mono (m' := 0) lp_int (by decide)) lpl_nil)) (lp2 o_sub (lp2 o_mul lp_int (lp_v (Sl.s (Sl.s (Sl.s (Sl.s Sl.z)))))) lp_int))))
    (ls_seq (LS.mono (δ' := [0, 0, 0, 0, 0, 10, 0, 0, 0, 0, 0, 0, 0]) (ls_for [0, 0, 0, 0, 0, 10, 0, 0, 0, 0, 0, 0, 0] (li_en (lps_cons (lp_call (l_digits k) (lps_cons (lp_v (Sl.s Sl.z)) (lps_cons (lp_v (Sl.s (Sl.s (Sl.s Sl.z)))) (lps_cons (lp_v (Sl.s (Sl.s (Sl.s (Sl.s Sl.z))))) lps_nil)))) lps_nil)) (lb_t2 (lbs_cons (lb_n (Sl.s (Sl.s (Sl.s (Sl.s (Sl.s (Sl.s Sl.z))))))) (lbs_cons (lb_n (Sl.s (Sl.s (Sl.s (Sl.s (Sl.s (Sl.s (Sl.s Sl.z)))))))) lbs_nil)))
    (LS.pre (δ := [0, 0, 0, 0, 0, 10, 0, 0, 0, 0, 0, 0, 0]) (LS.mono (δ' := [0, 0, 0, 0, 0, 10, 0, 0, 0, 0, 0, 0, 0]) (ls_for [0, 0, 0, 0, 0, 10, 0, 0, 0, 0, 0, 0, 0] (li_en (lps_cons (lp_call (l_digits k) (lps_cons (lp_v (Sl.s (Sl.s Sl.z))) (lps_cons (lp_v (Sl.s (Sl.s (Sl.s Sl.z)))) (lps_cons (lp_v (Sl.s (Sl.s (Sl.s (Sl.s Sl.z))))) lps_nil)))) lps_nil)) (lb_t2 (lbs_cons (lb_n (Sl.s (Sl.s (Sl.s (Sl.s (Sl.s (Sl.s (Sl.s (Sl.s Sl.z))))))))) (lbs_cons (lb_n (Sl.s (Sl.s (Sl.s (Sl.s (Sl.s (Sl.s (Sl.s (Sl.s (Sl.s Sl.z)))))))))) lbs_nil)))
    (LS.pre (δ := [0, 0, 0, 0, 0, 10, 0, 0, 0, 0, 0, 0, 0]) (LS.mono (δ' := [0, 0, 0, 0, 0, 10, 0, 0, 0, 0, 0, 0, 0]) (ls_put (Sl.s (Sl.s (Sl.s (Sl.s (Sl.s Sl.z))))) Pl.ze (LP.e (lp2 o_add (lp2 o_ix (lp_v (Sl.s (Sl.s (Sl.s (Sl.s (Sl.s Sl.z)))))) (lp2 o_add (lp_v (Sl.s (Sl.s (Sl.s (Sl.s (Sl.s (Sl.s Sl.z))))))) (lp_v (Sl.s (Sl.s (Sl.s (Sl.s (Sl.s (Sl.s (Sl.s (Sl.s Sl.z))))))))))) (lp2 o_mul (lp_v (Sl.s (Sl.s (Sl.s (Sl.s (Sl.s (Sl.s (Sl.s Sl.z)))))))) (lp_v (Sl.s (Sl.s (Sl.s (Sl.s (Sl.s (Sl.s (Sl.s (Sl.s (Sl.s Sl.z))))))))))))) (lpa_z (Sl.s (Sl.s (Sl.s (Sl.s (Sl.s Sl.z)))))) (LP.e (lp2 o_add (lp_v (Sl.s (Sl.s (Sl.s (Sl.s (Sl.s (Sl.s Sl.z))))))) (lp_v (Sl.s (Sl.s (Sl.s (Sl.s (Sl.s (Sl.s (Sl.s (Sl.s Sl.z)))))))))))))))))))
    (ls_seq (LS.mono (δ' := [0, 0, 0, 0, 0, 10, 0, 0, 0, 0, 0, 0, 0]) (ls_for [0, 0, 0, 0, 0, 10, 0, 0, 0, 0, 0, 0, 0] (li_r3 (lps_cons (lp2 o_sub (lp2 o_mul lp_int (lp_v (Sl.s (Sl.s (Sl.s (Sl.s Sl.z)))))) lp_int) (lps_cons (lp2 o_sub (lp_v (Sl.s (Sl.s (Sl.s (Sl.s Sl.z))))) lp_int) (lps_cons (lp1 o_neg lp_int) lps_nil)))) (lb_n (Sl.s (Sl.s (Sl.s (Sl.s (Sl.s (Sl.s (Sl.s (Sl.s (Sl.s (Sl.s Sl.z)))))))))))
    (LS.pre (δ := [0, 0, 0, 0, 0, 10, 0, 0, 0, 0, 0, 0, 0]) (LS.mono (δ' := [0, 0, 0, 0, 0, 10, 0, 0, 0, 0, 0, 0, 0]) (ls_for [0, 0, 0, 0, 0, 10, 0, 0, 0, 0, 0, 0, 0] (li_enT (lp_v Sl.z)) (lb_t2 (lbs_cons (lb_n (Sl.s (Sl.s (Sl.s (Sl.s (Sl.s (Sl.s (Sl.s (Sl.s (Sl.s (Sl.s (Sl.s Sl.z)))))))))))) (lbs_cons (lb_n (Sl.s (Sl.s (Sl.s (Sl.s (Sl.s (Sl.s (Sl.s (Sl.s (Sl.s (Sl.s (Sl.s (Sl.s Sl.z))))))))))))) lbs_nil)))
    (LS.pre (δ := [0, 0, 0, 0, 0, 10, 0, 0, 0, 0, 0, 0, 0]) (LS.mono (δ' := [0, 0, 0, 0, 0, 10, 0, 0, 0, 0, 0, 0, 0]) (ls_put (Sl.s (Sl.s (Sl.s (Sl.s (Sl.s Sl.z))))) Pl.ze (LP.e (lp2 o_add (lp2 o_ix (lp_v (Sl.s (Sl.s (Sl.s (Sl.s (Sl.s Sl.z)))))) (lp2 o_add (lp2 o_sub (lp_v (Sl.s (Sl.s (Sl.s (Sl.s (Sl.s (Sl.s (Sl.s (Sl.s (Sl.s (Sl.s Sl.z))))))))))) (lp_v (Sl.s (Sl.s (Sl.s (Sl.s Sl.z)))))) (lp_v (Sl.s (Sl.s (Sl.s (Sl.s (Sl.s (Sl.s (Sl.s (Sl.s (Sl.s (Sl.s (Sl.s Sl.z)))))))))))))) (lp2 o_mul (lp2 o_ix (lp_v (Sl.s (Sl.s (Sl.s (Sl.s (Sl.s Sl.z)))))) (lp_v (Sl.s (Sl.s (Sl.s (Sl.s (Sl.s (Sl.s (Sl.s (Sl.s (Sl.s (Sl.s Sl.z)))))))))))) (lp_v (Sl.s (Sl.s (Sl.s (Sl.s (Sl.s (Sl.s (Sl.s (Sl.s (Sl.s (Sl.s (Sl.s (Sl.s Sl.z)))))))))))))))) (lpa_z (Sl.s (Sl.s (Sl.s (Sl.s (Sl.s Sl.z)))))) (LP.e (lp2 o_add (lp2 o_sub (lp_v (Sl.s (Sl.s (Sl.s (Sl.s (Sl.s (Sl.s (Sl.s (Sl.s (Sl.s (Sl.s Sl.z))))))))))) (lp_v (Sl.s (Sl.s (Sl.s (Sl.s Sl.z)))))) (lp_v (Sl.s (Sl.s (Sl.s (Sl.s (Sl.s (Sl.s (Sl.s (Sl.s (Sl.s (Sl.s (Sl.s Sl.z))))))))))))))))))))))
    (ls_ret (lp_call (l_number_of_digits k) (lps_cons (lp_sl (lp_v (Sl.s (Sl.s (Sl.s (Sl.s (Sl.s Sl.z)))))) lo_none (lo_some (lp_v (Sl.s (Sl.s (Sl.s (Sl.s Sl.z))))))) (lps_cons (lp_v (Sl.s (Sl.s (Sl.s Sl.z)))) lps_nil))))))))))) rfl rfl
set_option maxHeartbeats 4000000 in
theorem l_l_pop : ∀ k, LF1 [1] 0 0 (f_l_pop k) (m_l_pop k)
  | 0 => ⟨fun _ _ _ => trivial⟩
  | k + 1 => lf1_of (δr := [1]) (δn := []) (δk := []) Sl.z trivial (.inr rfl)
    (LS.pre (δ := [1]) (ls_seq (LS.mono (δ' := [1]) (ls_if (lt_val (lp2 o_eq (lp_v Sl.z) (lp_lst (lpl_nil (m := 9)))))
    (LS.pre (δ := [1]) (ls_ret lp_int))
    (LS.pre (δ := [1]) ls_skip)))
    (ls_retE (le_pop Sl.z Pl.ze (lpa_z Sl.z))))) rfl rfl (by decide) (by decide) (by decide) (.inl rfl)
set_option maxHeartbeats 4000000 in
theorem l_mate_of : ∀ k, LF [0] 9 (f_mate_of k) (m_mate_of k)
  | 0 => ⟨fun _ _ _ => trivial⟩
  | k + 1 => lf_of (δr := []) (δn := []) (δk := []) trivial (.inr rfl)
    (LS.pre (δ := [0, 0, 0, 0, 0, 0]) (ls_seq (LS.mono (δ' := [0, 10, 0, 0, 0, 0]) (ls_let (Sl.s Sl.z) (lp_lc (li_l (lp_v Sl.z)) (lb_n (Sl.s (Sl.s (Sl.s Sl.z)))) lt_yes (lp_lc (li_l (lp_v Sl.z)) (lb_n (Sl.s (Sl.s (Sl.s Sl.z)))) lt_yes lp_int))))
    (ls_seq (LS.mono (δ' := [0, 10, 0, 0, 0, 0]) (ls_for [0, 10, 0, 0, 0, 0] (li_en (lps_cons (lp_v Sl.z) lps_nil)) (lb_t2 (lbs_cons (lb_n (Sl.s (Sl.s Sl.z))) (lbs_cons (lb_n (Sl.s (Sl.s (Sl.s Sl.z)))) lbs_nil)))
    (LS.pre (δ := [0, 10, 0, 0, 0, 0]) (LS.mono (δ' := [0, 10, 0, 0, 0, 0]) (ls_for [0, 10, 0, 0, 0, 0] (li_en (lps_cons (lp_v (Sl.s (Sl.s (Sl.s Sl.z)))) lps_nil)) (lb_t2 (lbs_cons (lb_n (Sl.s (Sl.s (Sl.s (Sl.s Sl.z))))) (lbs_cons (lb_n (Sl.s (Sl.s (Sl.s (Sl.s (Sl.s Sl.z)))))) lbs_nil)))
    (LS.pre (δ := [0, 10, 0, 0, 0, 0]) (LS.mono (δ' := [0, 10, 0, 0, 0, 0]) (ls_put (Sl.s Sl.z) (Pl.up Pl.ze) (LP.e (lp_v (Sl.s (Sl.s Sl.z)))) (lpa_i (Sl.s Sl.z) Pl.ze (lpa_z (Sl.s Sl.z)) (LP.e (lp_v (Sl.s (Sl.s (Sl.s (Sl.s Sl.z))))))) (LP.e (lp_v (Sl.s (Sl.s (Sl.s (Sl.s (Sl.s Sl.z)))))))))))))))
    (ls_retE (le_m (Sl.s Sl.z)))))) rfl rfl
set_option maxHeartbeats 4000000 in
theorem l_all_unlike_2 : ∀ k, LF [0] 0 (f_all_unlike_2 k) (m_all_unlike k)
  | 0 => ⟨fun _ _ _ => trivial⟩
  | k + 1 => lf_of (δr := []) (δn := []) (δk := []) trivial (.inr rfl)
    (LS.pre (δ := [0, 0, 0]) (ls_ret (lp1 o_not (lpN o_any (lps_cons (lp_lc (li_en (lps_cons (lp_v Sl.z) lps_nil)) (lb_t2 (lbs_cons (lb_n (Sl.s Sl.z)) (lbs_cons (lb_n (Sl.s (Sl.s Sl.z))) lbs_nil))) lt_yes (lp2 o_in (lp_v (Sl.s (Sl.s Sl.z))) (lp_sl (lp_v Sl.z) lo_none (lo_some (lp_v (Sl.s Sl.z)))))) lps_nil))))) rfl rfl
set_option maxHeartbeats 4000000 in
theorem l_things_on : ∀ k, LF [0, 0] 9 (f_things_on k) (m_things_on k)
  | 0 => ⟨fun _ _ _ => trivial⟩
  | k + 1 => lf_of (δr := []) (δn := []) (δk := []) trivial (.inr rfl)
    (LS.pre (δ := [0, 0, 0, 0]) (ls_ret (lp_lc (li_en (lps_cons (lp_v (Sl.s Sl.z)) lps_nil)) (lb_t2 (lbs_cons (lb_n (Sl.s (Sl.s Sl.z))) (lbs_cons (lb_n (Sl.s (Sl.s (Sl.s Sl.z)))) lbs_nil))) lt_yes (lp2 o_ix (lp2 o_ix (lp_v Sl.z) (lp_v (Sl.s (Sl.s Sl.z)))) (lp_v (Sl.s (Sl.s (Sl.s Sl.z)))))))) rfl rfl
set_option maxHeartbeats 4000000 in
theorem l_parting_of : ∀ k, LF [0, 0] 9 (f_parting_of k) (m_parting_of k)
  | 0 => ⟨fun _ _ _ => trivial⟩
  | k + 1 => lf_of (δr := []) (δn := []) (δk := []) trivial (.inr rfl)
    (LS.pre (δ := [0, 0, 0, 0]) (ls_ret (lp_lc (li_r1 (lps_cons (lpN o_len (lps_cons (lp_v Sl.z) lps_nil)) lps_nil)) (lb_n (Sl.s (Sl.s Sl.z))) lt_yes (lp_lc (li_l (lp_v (Sl.s Sl.z))) (lb_n (Sl.s (Sl.s (Sl.s Sl.z)))) lt_yes (lp2 o_index (lp_v (Sl.s (Sl.s (Sl.s Sl.z)))) (lp_v (Sl.s (Sl.s Sl.z)))))))) rfl rfl
set_option maxHeartbeats 4000000 in
theorem l_l_mix : ∀ k, LF [0, 0] 0 (f_l_mix k) (m_l_mix k)
  | 0 => ⟨fun _ _ _ => trivial⟩
  | k + 1 => lf_of (δr := []) (δn := []) (δk := []) trivial (.inr rfl)
    (LS.pre (δ := [0, 0, 0]) (ls_seq (LS.mono (δ' := [0, 0, 0]) (ls_let (Sl.s (Sl.s Sl.z)) (lp2 o_mod (lp2 o_mul (lp2 o_add (lp2 o_add (lp2 o_mod (lp_v Sl.z) lp_int) (lp2 o_mul (lp2 o_mul (lp_v (Sl.s Sl.z)) (lp_v (Sl.s Sl.z))) lp_int)) lp_int) lp_int) lp_int)))
    (ls_ret (lp2 o_mod (lp2 o_add (lp2 o_mul (lp_v (Sl.s (Sl.s Sl.z))) (lp_v (Sl.s (Sl.s Sl.z)))) (lp2 o_mul lp_int (lp_v (Sl.s Sl.z)))) lp_int)))) rfl rfl
set_option maxHeartbeats 4000000 in
theorem l_are_mates : ∀ k, LF [0, 0] 0 (f_are_mates k) (m_are_mates k)
  | 0 => ⟨fun _ _ _ => trivial⟩
  | k + 1 => lf_of (δr := []) (δn := []) (δk := []) trivial (.inr rfl)
    (LS.pre (δ := [0, 0, 0, 0, 0]) (ls_seq (LS.mono (δ' := [0, 0, 10, 0, 0]) (ls_let (Sl.s (Sl.s Sl.z)) (lp_lst (lpl_nil (m := 9)))))
    (ls_seq (LS.mono (δ' := [0, 0, 10, 0, 0]) (ls_for [0, 0, 10, 0, 0] (li_z (lps_cons (lp_v Sl.z) (lps_cons (lp_v (Sl.s Sl.z)) lps_nil))) (lb_t2 (lbs_cons (lb_n (Sl.s (Sl.s (Sl.s Sl.z)))) (lbs_cons (lb_n (Sl.s (Sl.s (Sl.s (Sl.s Sl.z))))) lbs_nil)))
    (LS.pre (δ := [0, 0, 10, 0, 0]) (LS.mono (δ' := [0, 0, 10, 0, 0]) (ls_ext (Sl.s (Sl.s Sl.z)) Pl.ze (lpa_z (Sl.s (Sl.s Sl.z))) (LP.e (lpN o_zipL (lps_cons (lp_v (Sl.s (Sl.s (Sl.s Sl.z)))) (lps_cons (lp_v (Sl.s (Sl.s (Sl.s (Sl.s Sl.z))))) lps_nil)))))))))
    (ls_ret (lp_call (l_all_unlike k) (lps_cons (lp_v (Sl.s (Sl.s Sl.z))) lps_nil)))))) rfl rfl
set_option maxHeartbeats 4000000 in
theorem l_witness : ∀ k, LF [0] 9 (f_witness k) (m_witness k)
  | 0 => ⟨fun _ _ _ => trivial⟩
  | k + 1 => lf_of (δr := []) (δn := []) (δk := []) trivial (.inr rfl)
    (LS.pre (δ := [0, 0]) (ls_ret (lp_lc (li_l (lp_v Sl.z)) (lb_n (Sl.s Sl.z)) lt_yes (lp_call (l_column_of k) (lps_cons (lp2 o_ix (lp_v (Sl.s Sl.z)) lp_int) (lps_cons (lp2 o_ix (lp2 o_ix (lp_v (Sl.s Sl.z)) lp_int) lp_int) lps_nil)))))) rfl rfl
set_option maxHeartbeats 4000000 in
theorem l_product : ∀ k, LF [0, 0] 9 (f_product k) (m_product k)
  | 0 => ⟨fun _ _ _ => trivial⟩
  | k + 1 => lf_of (δr := []) (δn := []) (δk := []) trivial (.inr rfl)
    (LS.pre (δ := [0, 0, 0, 0, 0, 0, 0, 0]) (ls_seq (LS.mono (δ' := [0, 0, 0, 0, 0, 0, 0, 0]) (ls_let (Sl.s (Sl.s Sl.z)) (lpN o_len (lps_cons (lp_v (Sl.s Sl.z)) lps_nil))))
    (ls_seq (LS.mono (δ' := [0, 0, 0, 10, 0, 0, 0, 0]) (ls_let (Sl.s (Sl.s (Sl.s Sl.z))) (lp_lst (lpl_nil (m := 9)))))
    (ls_seq (LS.mono (δ' := [0, 0, 0, 10, 0, 0, 0, 0]) (ls_for [0, 0, 0, 10, 0, 0, 0, 0] (li_l (lp_v Sl.z)) (lb_n (Sl.s (Sl.s (Sl.s (Sl.s Sl.z)))))
    (LS.pre (δ := [0, 0, 0, 10, 0, 0, 0, 0]) (LS.mono (δ' := [0, 0, 0, 10, 0, 0, 0, 0]) (ls_for [0, 0, 0, 10, 0, 0, 0, 0] (li_l (lp_v (Sl.s Sl.z))) (lb_n (Sl.s (Sl.s (Sl.s (Sl.s (Sl.s Sl.z))))))
    (LS.pre (δ := [0, 0, 0, 10, 0, 0, 0, 0]) (LS.mono (δ' := [0, 0, 0, 10, 0, 0, 0, 0]) (ls_app (Sl.s (Sl.s (Sl.s Sl.z))) Pl.ze (lpa_z (Sl.s (Sl.s (Sl.s Sl.z)))) (LP.e (lp_lc (li_l (lp_call (l_both_of k) (lps_cons (lp_v (Sl.s (Sl.s (Sl.s (Sl.s Sl.z))))) (lps_cons (lp_v (Sl.s (Sl.s (Sl.s (Sl.s (Sl.s Sl.z)))))) lps_nil)))) (lb_t2 (lbs_cons (lb_n (Sl.s (Sl.s (Sl.s (Sl.s (Sl.s (Sl.s Sl.z))))))) (lbs_cons (lb_n (Sl.s (Sl.s (Sl.s (Sl.s (Sl.s (Sl.s (Sl.s Sl.z)))))))) lbs_nil))) lt_yes (lp2 o_add (lp2 o_mul (lp_v (Sl.s (Sl.s Sl.z))) (lp_v (Sl.s (Sl.s (Sl.s (Sl.s (Sl.s (Sl.s Sl.z)))))))) (lp_v (Sl.s (Sl.s (Sl.s (Sl.s (Sl.s (Sl.s (Sl.s Sl.z)))))))))))))))))))
    (ls_retE (le_m (Sl.s (Sl.s (Sl.s Sl.z))))))))) rfl rfl
set_option maxHeartbeats 4000000 in
theorem l_plus : ∀ k, LF [0, 0, 0] 0 (f_plus k) (m_plus k)
  | 0 => ⟨fun _ _ _ => trivial⟩
  | k + 1 => lf_of (δr := []) (δn := []) (δk := []) trivial (.inr rfl)
    (LS.pre (δ := [0, 0, 0, 0, 0, 0, 0, 0]) (ls_seq (LS.mono (δ' := [0, 0, 0, 0, 0, 0, 0, 0]) (ls_do (lp_call (l_look_at_field k) (lps_cons (lp_v Sl.z) lps_nil))))
    (ls_seq (LS.mono (δ' := [0, 0, 0, 0, 0, 0, 0, 0]) (ls_bind (lp1 o_iget2 (lp_v Sl.z)) (lb_t2 (lbs_cons (lb_n (Sl.s (Sl.s (Sl.s Sl.z)))) (lbs_cons (lb_n (Sl.s (Sl.s (Sl.s (Sl.s Sl.z))))) lbs_nil)))))
    (ls_seq (LS.mono (δ' := [0, 0, 0, 0, 0, 10, 0, 0]) (ls_let (Sl.s (Sl.s (Sl.s (Sl.s (Sl.s Sl.z))))) (lp_lc (li_z (lps_cons (lp_call (l_digits k) (lps_cons (lp_v (Sl.s Sl.z)) (lps_cons (lp_v (Sl.s (Sl.s (Sl.s Sl.z)))) (lps_cons (lp_v (Sl.s (Sl.s (Sl.s (Sl.s Sl.z))))) lps_nil)))) (lps_cons (lp_call (l_digits k) (lps_cons (lp_v (Sl.s (Sl.s Sl.z))) (lps_cons (lp_v (Sl.s (Sl.s (Sl.s Sl.z)))) (lps_cons (lp_v (Sl.s (Sl.s (Sl.s (Sl.s Sl.z))))) lps_nil)))) lps_nil))) (lb_t2 (lbs_cons (lb_n (Sl.s (Sl.s (Sl.s (Sl.s (Sl.s (Sl.s Sl.z))))))) (lbs_cons (lb_n (Sl.s (Sl.s (Sl.s (Sl.s (Sl.s (Sl.s (Sl.s Sl.z)))))))) lbs_nil))) lt_yes (lp2 o_add (lp_v (Sl.s (Sl.s (Sl.s (Sl.s (Sl.s (Sl.s Sl.z))))))) (lp_v (Sl.s (Sl.s (Sl.s (Sl.s (Sl.s (Sl.s (Sl.s Sl.z))))))))))))
    (ls_ret (lp_call (l_number_of_digits k) (lps_cons (lp_v (Sl.s (Sl.s (Sl.s (Sl.s (Sl.s Sl.z)))))) (lps_cons (lp_v (Sl.s (Sl.s (Sl.s Sl.z)))) lps_nil)))))))) rfl rfl
set_option maxHeartbeats 4000000 in
theorem l_is_way : ∀ k, LF [0, 0] 0 (f_is_way k) (m_is_way k)
  | 0 => ⟨fun _ _ _ => trivial⟩
  | k + 1 => lf_of (δr := []) (δn := []) (δk := []) trivial (.inr rfl)
    (LS.pre (δ := [0, 0, 0]) (ls_seq (LS.mono (δ' := [0, 0, 0]) (ls_if (lt_or (lt_val (lp2 o_ne (lpN o_len (lps_cons (lp_v (Sl.s Sl.z)) lps_nil)) (lpN o_len (lps_cons (lp_v Sl.z) lps_nil)))) (lt_val (lpN o_any (lps_cons (lp_lc (li_l (lp_v (Sl.s Sl.z))) (lb_n (Sl.s (Sl.s Sl.z))) lt_yes (lp_or (lp2 o_lt (lp_v (Sl.s (Sl.s Sl.z))) lp_int) (lp2 o_ge (lp_v (Sl.s (Sl.s Sl.z))) (lpN o_len (lps_cons (lp_v Sl.z) lps_nil))))) lps_nil))))
    (LS.pre (δ := [0, 0, 0]) (ls_ret lp_bl))
    (LS.pre (δ := [0, 0, 0]) ls_skip)))
    (ls_ret (lp_and (lp_call (l_all_unlike_2 k) (lps_cons (lp_v (Sl.s Sl.z)) lps_nil)) (lp_call (l_all_unlike_2 k) (lps_cons (lp_call (l_things_on k) (lps_cons (lp_v Sl.z) (lps_cons (lp_v (Sl.s Sl.z)) lps_nil))) lps_nil)))))) rfl rfl
set_option maxHeartbeats 4000000 in
theorem l_l_draws : ∀ k, LF [0, 0, 0] 9 (f_l_draws k) (m_l_draws k)
  | 0 => ⟨fun _ _ _ => trivial⟩
  | k + 1 => lf_of (δr := []) (δn := []) (δk := []) trivial (.inr rfl)
    (LS.pre (δ := [0, 0, 0, 0, 0, 0, 0, 0, 0, 0]) (ls_seq (LS.mono (δ' := [0, 0, 0, 10, 0, 0, 0, 0, 0, 0]) (ls_let (Sl.s (Sl.s (Sl.s Sl.z))) (lp2 o_cat (lp_sl (lp_v Sl.z) lo_none (lo_some lp_int)) (lp_lst (lpl_cons (LP.mono (m' := 0) (lp_v (Sl.s Sl.z)) (by decide)) lpl_nil)))))
    (ls_seq (LS.mono (δ' := [0, 0, 0, 10, 10, 0, 0, 0, 0, 0]) (ls_let (Sl.s (Sl.s (Sl.s (Sl.s Sl.z)))) (lp_lc (li_l (lp_v (Sl.s (Sl.s (Sl.s Sl.z))))) (lb_n (Sl.s (Sl.s (Sl.s (Sl.s (Sl.s (Sl.s (Sl.s (Sl.s (Sl.s Sl.z)))))))))) lt_yes (lp2 o_fdiv (lp_v (Sl.s (Sl.s (Sl.s (Sl.s (Sl.s (Sl.s (Sl.s (Sl.s (Sl.s Sl.z)))))))))) lp_int))))
    (ls_seq (LS.mono (δ' := [0, 0, 0, 10, 10, 10, 0, 0, 0, 0]) (ls_let (Sl.s (Sl.s (Sl.s (Sl.s (Sl.s Sl.z))))) (lp_lst (lpl_nil (m := 9)))))
    (ls_seq (LS.mono (δ' := [0, 0, 0, 10, 10, 10, 0, 0, 0, 0]) (ls_for [0, 0, 0, 10, 10, 10, 0, 0, 0, 0] (li_r1 (lps_cons (lp2 o_add (lp_v (Sl.s Sl.z)) (lp_v (Sl.s (Sl.s Sl.z)))) lps_nil)) (lb_n (Sl.s (Sl.s (Sl.s (Sl.s (Sl.s (Sl.s Sl.z)))))))
    (LS.pre (δ := [0, 0, 0, 10, 10, 10, 0, 0, 0, 0]) (ls_seq (LS.mono (δ' := [0, 0, 0, 10, 10, 10, 0, 0, 0, 0]) (ls_let (Sl.s (Sl.s (Sl.s (Sl.s (Sl.s (Sl.s (Sl.s Sl.z))))))) (lp2 o_mod (lp_v (Sl.s (Sl.s (Sl.s (Sl.s (Sl.s (Sl.s Sl.z))))))) (lpN o_len (lps_cons (lp_v (Sl.s (Sl.s (Sl.s Sl.z)))) lps_nil)))))
    (ls_seq (LS.mono (δ' := [0, 0, 0, 10, 10, 10, 0, 0, 0, 0]) (ls_let (Sl.s (Sl.s (Sl.s (Sl.s (Sl.s (Sl.s (Sl.s (Sl.s Sl.z)))))))) (lp_call (l_l_mix k) (lps_cons (lp2 o_ix (lp_v (Sl.s (Sl.s (Sl.s Sl.z)))) (lp_v (Sl.s (Sl.s (Sl.s (Sl.s (Sl.s (Sl.s (Sl.s Sl.z))))))))) (lps_cons (lp_v (Sl.s (Sl.s (Sl.s (Sl.s (Sl.s (Sl.s Sl.z))))))) lps_nil)))))
    (ls_seq (LS.mono (δ' := [0, 0, 0, 10, 10, 10, 0, 0, 0, 0]) (ls_let (Sl.s (Sl.s (Sl.s (Sl.s (Sl.s (Sl.s (Sl.s (Sl.s Sl.z)))))))) (lp2 o_mod (lp2 o_add (lp2 o_mul (lp_v (Sl.s (Sl.s (Sl.s (Sl.s (Sl.s (Sl.s (Sl.s (Sl.s Sl.z))))))))) (lp_v (Sl.s (Sl.s (Sl.s (Sl.s (Sl.s (Sl.s (Sl.s (Sl.s Sl.z)))))))))) (lp2 o_mul lp_int (lp_v (Sl.s (Sl.s (Sl.s (Sl.s (Sl.s (Sl.s Sl.z))))))))) lp_int)))
    (ls_seq (LS.mono (δ' := [0, 0, 0, 10, 10, 10, 0, 0, 0, 0]) (ls_if (lt_and (lt_val (lp2 o_ge (lp2 o_ix (lp_v (Sl.s (Sl.s (Sl.s Sl.z)))) (lp_v (Sl.s (Sl.s (Sl.s (Sl.s (Sl.s (Sl.s (Sl.s Sl.z))))))))) (lp2 o_pow lp_int lp_int))) (lt_val (lp2 o_gt (lp2 o_ix (lp_v (Sl.s (Sl.s (Sl.s (Sl.s Sl.z))))) (lp_v (Sl.s (Sl.s (Sl.s (Sl.s (Sl.s (Sl.s (Sl.s Sl.z))))))))) lp_int)))
    (LS.pre (δ := [0, 0, 0, 10, 10, 10, 0, 0, 0, 0]) (ls_seq (LS.mono (δ' := [0, 0, 0, 10, 10, 10, 0, 0, 0, 0]) (ls_let (Sl.s (Sl.s (Sl.s (Sl.s (Sl.s (Sl.s (Sl.s (Sl.s Sl.z)))))))) (lp2 o_mod (lp2 o_ix (lp_v (Sl.s (Sl.s (Sl.s (Sl.s Sl.z))))) (lp_v (Sl.s (Sl.s (Sl.s (Sl.s (Sl.s (Sl.s (Sl.s Sl.z))))))))) lp_int)))
    (LS.mono (δ' := [0, 0, 0, 10, 10, 10, 0, 0, 0, 0]) (ls_put (Sl.s (Sl.s (Sl.s (Sl.s Sl.z)))) Pl.ze (LP.e (lp2 o_fdiv (lp2 o_ix (lp_v (Sl.s (Sl.s (Sl.s (Sl.s Sl.z))))) (lp_v (Sl.s (Sl.s (Sl.s (Sl.s (Sl.s (Sl.s (Sl.s Sl.z))))))))) lp_int)) (lpa_z (Sl.s (Sl.s (Sl.s (Sl.s Sl.z))))) (LP.e (lp_v (Sl.s (Sl.s (Sl.s (Sl.s (Sl.s (Sl.s (Sl.s Sl.z)))))))))))))
    (LS.pre (δ := [0, 0, 0, 10, 10, 10, 0, 0, 0, 0]) ls_skip)))
    (LS.mono (δ' := [0, 0, 0, 10, 10, 10, 0, 0, 0, 0]) (ls_app (Sl.s (Sl.s (Sl.s (Sl.s (Sl.s Sl.z))))) Pl.ze (lpa_z (Sl.s (Sl.s (Sl.s (Sl.s (Sl.s Sl.z)))))) (LP.e (lp_v (Sl.s (Sl.s (Sl.s (Sl.s (Sl.s (Sl.s (Sl.s (Sl.s Sl.z)))))))))))))))))))
    (ls_ret (lp_sl (lp_v (Sl.s (Sl.s (Sl.s (Sl.s (Sl.s Sl.z)))))) (lo_some (lp_v (Sl.s Sl.z))) lo_none))))))) rfl rfl
set_option maxHeartbeats 4000000 in
theorem l_is_set : ∀ k, LF [0] 0 (f_is_set k) (m_is_set k)
  | 0 => ⟨fun _ _ _ => trivial⟩
  | k + 1 => lf_of (δr := []) (δn := []) (δk := []) trivial (.inr rfl)
    (LS.pre (δ := [0, 0, 0, 0]) (ls_seq (LS.mono (δ' := [0, 0, 0, 0]) (ls_for [0, 0, 0, 0] (li_en (lps_cons (lp_v Sl.z) lps_nil)) (lb_t2 (lbs_cons (lb_n (Sl.s Sl.z)) (lbs_cons (lb_n (Sl.s (Sl.s Sl.z))) lbs_nil)))
    (LS.pre (δ := [0, 0, 0, 0]) (LS.mono (δ' := [0, 0, 0, 0]) (ls_for [0, 0, 0, 0] (li_l (lp_sl (lp_v Sl.z) lo_none (lo_some (lp_v (Sl.s Sl.z))))) (lb_n (Sl.s (Sl.s (Sl.s Sl.z))))
    (LS.pre (δ := [0, 0, 0, 0]) (LS.mono (δ' := [0, 0, 0, 0]) (ls_if (lt_not (lt_val (lp_call (l_are_mates k) (lps_cons (lp_v (Sl.s (Sl.s Sl.z))) (lps_cons (lp_v (Sl.s (Sl.s (Sl.s Sl.z)))) lps_nil)))))
    (LS.pre (δ := [0, 0, 0, 0]) (ls_ret lp_bl))
    (LS.pre (δ := [0, 0, 0, 0]) ls_skip)))))))))
    (ls_ret lp_bl))) rfl rfl
set_option maxHeartbeats 4000000 in
theorem l_field_squares : ∀ k, LF [0] 9 (f_field_squares k) (m_field_squares k)
  | 0 => ⟨fun _ _ _ => trivial⟩
  | k + 1 => lf_of (δr := []) (δn := []) (δk := []) trivial (.inr rfl)
    (LS.pre (δ := [0, 0, 0, 0, 0]) (ls_seq (LS.mono (δ' := [0, 0, 0, 0, 0]) (ls_do (lp_call (l_look_at_field k) (lps_cons (lp_v Sl.z) lps_nil))))
    (ls_seq (LS.mono (δ' := [0, 10, 0, 0, 0]) (ls_let (Sl.s Sl.z) (lp_lst (lpl_nil (m := 9)))))
    (ls_seq (LS.mono (δ' := [0, 10, 0, 0, 0]) (ls_for [0, 10, 0, 0, 0] (li_r2 (lps_cons lp_int (lps_cons (lp_v Sl.z) lps_nil))) (lb_n (Sl.s (Sl.s Sl.z)))
    (LS.pre (δ := [0, 10, 0, 0, 0]) (LS.mono (δ' := [0, 10, 0, 0, 0]) (ls_app (Sl.s Sl.z) Pl.ze (lpa_z (Sl.s Sl.z)) (LP.e (lp_lc (li_r1 (lps_cons (lp_v Sl.z) lps_nil)) (lb_n (Sl.s (Sl.s (Sl.s Sl.z)))) lt_yes (lp_lc (li_r1 (lps_cons (lp_v Sl.z) lps_nil)) (lb_n (Sl.s (Sl.s (Sl.s (Sl.s Sl.z))))) lt_yes (lp_call (l_plus k) (lps_cons (lp_v Sl.z) (lps_cons (lp_call (l_times k) (lps_cons (lp_v Sl.z) (lps_cons (lp_v (Sl.s (Sl.s Sl.z))) (lps_cons (lp_v (Sl.s (Sl.s (Sl.s Sl.z)))) lps_nil)))) (lps_cons (lp_v (Sl.s (Sl.s (Sl.s (Sl.s Sl.z))))) lps_nil))))))))))))
    (ls_retE (le_m (Sl.s Sl.z))))))) rfl rfl
set_option maxHeartbeats 4000000 in
theorem l_made_set : ∀ k, LF [0] 9 (f_made_set k) (m_made_set k)
  | 0 => ⟨fun _ _ _ => trivial⟩
  | k + 1 => lf_of (δr := []) (δn := []) (δk := []) trivial (.inr rfl)
    (LS.pre (δ := [0]) (ls_seq (LS.mono (δ' := [0]) (ls_if (lt_val (lp1 o_iIn (lp_v Sl.z)))
    (LS.pre (δ := [0]) (ls_ret (lp_call (l_field_squares k) (lps_cons (lp_v Sl.z) lps_nil))))
    (LS.pre (δ := [0]) ls_skip)))
    (ls_seq (LS.mono (δ' := [0]) (ls_if (lt_val (lp2 o_eq (lp_v Sl.z) lp_int))
    (LS.pre (δ := [0]) (ls_ret (lp_lst (lpl_cons (LP.mono (m' := 9) (lp_call (l_product k) (lps_cons (lp2 o_ix (lp_call (l_field_squares k) (lps_cons lp_int lps_nil)) lp_int) (lps_cons (lp2 o_ix (lp_call (l_field_squares k) (lps_cons lp_int lps_nil)) lp_int) lps_nil))) (by decide)) lpl_nil))))
    (LS.pre (δ := [0]) ls_skip)))
    (ls_ret (lp_lst (lpl_cons (LP.mono (m' := 9) (lp_lst (lpl_cons (LP.mono (m' := 9) (lp_lst (lpl_cons (LP.mono (m' := 0) lp_int (by decide)) lpl_nil)) (by decide)) lpl_nil)) (by decide)) lpl_nil)))))) rfl rfl
set_option maxHeartbeats 4000000 in
theorem l_law : ∀ k, LF [0] 0 (f_law k) (m_law k)
  | 0 => ⟨fun _ _ _ => trivial⟩
  | k + 1 => lf_of (δr := []) (δn := []) (δk := []) trivial (.inr rfl)
    (LS.pre (δ := [0, 0, 0, 0, 0, 0, 0, 0, 0, 0, 0, 0, 0, 0]) (ls_seq (LS.mono (δ' := [0, 9, 0, 0, 0, 0, 0, 0, 0, 0, 0, 0, 0, 0]) (ls_let (Sl.s Sl.z) (lp_call (l_l_draws k) (lps_cons (lp_v Sl.z) (lps_cons lp_int (lps_cons lp_int lps_nil))))))
    (ls_seq (LS.mono (δ' := [0, 1, 9, 0, 0, 0, 0, 0, 0, 0, 0, 0, 0, 0]) (ls_letE (Sl.s (Sl.s Sl.z)) (le2 o_ix (LP.e (lp_lst (lpl_cons (LP.mono (m' := 0) lp_int (by decide)) (lpl_cons (LP.mono (m' := 0) lp_int (by decide)) (lpl_cons (LP.mono (m' := 0) lp_int (by decide)) (lpl_cons (LP.mono (m' := 0) lp_int (by decide)) (lpl_cons (LP.mono (m' := 0) lp_int (by decide)) (lpl_cons (LP.mono (m' := 0) lp_int (by decide)) (lpl_cons (LP.mono (m' := 0) lp_int (by decide)) lpl_nil))))))))) (le2 o_mod (le_call1 (Sl.s Sl.z) (l_l_pop k) (les_cons (le_m (Sl.s Sl.z)) (LPs.e lps_nil))) (LP.e lp_int)))))
    (ls_seq (LS.mono (δ' := [0, 1, 9, 9, 0, 0, 0, 0, 0, 0, 0, 0, 0, 0]) (ls_let (Sl.s (Sl.s (Sl.s Sl.z))) (lp_call (l_field_squares k) (lps_cons (lp_v (Sl.s (Sl.s Sl.z))) lps_nil))))
    (ls_seq (LS.mono (δ' := [0, 1, 0, 0, 0, 0, 0, 0, 0, 0, 0, 0, 0, 0]) (ls_letE (Sl.s (Sl.s (Sl.s (Sl.s Sl.z)))) (le2 o_ix (LP.e (lp_v (Sl.s (Sl.s (Sl.s Sl.z))))) (le2 o_mod (le_call1 (Sl.s Sl.z) (l_l_pop k) (les_cons (le_m (Sl.s Sl.z)) (LPs.e lps_nil))) (LP.e (lp2 o_sub (lp_v (Sl.s (Sl.s Sl.z))) lp_int))))))
    (ls_seq (LS.mono (δ' := [0, 1, 0, 0, 0, 0, 0, 0, 0, 0, 0, 0, 0, 0]) (ls_letE (Sl.s (Sl.s (Sl.s (Sl.s (Sl.s Sl.z))))) (le2 o_ix (LP.e (lp_v (Sl.s (Sl.s (Sl.s Sl.z))))) (le2 o_mod (le_call1 (Sl.s Sl.z) (l_l_pop k) (les_cons (le_m (Sl.s Sl.z)) (LPs.e lps_nil))) (LP.e (lp2 o_sub (lp_v (Sl.s (Sl.s Sl.z))) lp_int))))))
    (ls_seq (LS.mono (δ' := [0, 1, 0, 0, 0, 0, 0, 0, 0, 0, 0, 0, 0, 0]) (ls_if (lt_val (lp2 o_ne (lp_v (Sl.s (Sl.s (Sl.s (Sl.s Sl.z))))) (lp_v (Sl.s (Sl.s (Sl.s (Sl.s (Sl.s Sl.z))))))))
    (LS.mono (δ' := [0, 1, 0, 0, 0, 0, 0, 0, 0, 0, 0, 0, 0, 0]) (LS.pre (δ := [0, 1, 0, 0, 0, 0, 0, 0, 0, 0, 0, 0, 0, 0]) (ls_seq (LS.mono (δ' := [0, 1, 0, 0, 0, 0, 9, 0, 0, 0, 0, 0, 0, 0]) (ls_let (Sl.s (Sl.s (Sl.s (Sl.s (Sl.s (Sl.s Sl.z)))))) (lp_call (l_parting_of k) (lps_cons (lp_v (Sl.s (Sl.s (Sl.s (Sl.s Sl.z))))) (lps_cons (lp_v (Sl.s (Sl.s (Sl.s (Sl.s (Sl.s Sl.z)))))) lps_nil)))))
    (LS.mono (δ' := [0, 1, 0, 0, 0, 0, 9, 0, 0, 0, 0, 0, 0, 0]) (ls_if (lt_or (lt_val (lp2 o_ne (lp_lc (li_l (lp_v (Sl.s (Sl.s (Sl.s (Sl.s (Sl.s (Sl.s Sl.z)))))))) (lb_n (Sl.s (Sl.s (Sl.s (Sl.s (Sl.s (Sl.s (Sl.s (Sl.s (Sl.s (Sl.s (Sl.s (Sl.s Sl.z))))))))))))) (lt_not (lt_val (lp_call (l_is_way k) (lps_cons (lp_v (Sl.s (Sl.s (Sl.s (Sl.s Sl.z))))) (lps_cons (lp_v (Sl.s (Sl.s (Sl.s (Sl.s (Sl.s (Sl.s (Sl.s (Sl.s (Sl.s (Sl.s (Sl.s (Sl.s Sl.z))))))))))))) lps_nil))))) (lp_v (Sl.s (Sl.s (Sl.s (Sl.s (Sl.s (Sl.s (Sl.s (Sl.s (Sl.s (Sl.s (Sl.s (Sl.s Sl.z)))))))))))))) (lp_lst (lpl_nil (m := 9))))) (lt_val (lp2 o_ne (lp_call (l_mate_of k) (lps_cons (lp_v (Sl.s (Sl.s (Sl.s (Sl.s (Sl.s (Sl.s Sl.z))))))) lps_nil)) (lp_v (Sl.s (Sl.s (Sl.s (Sl.s (Sl.s Sl.z)))))))))
    (LS.pre (δ := [0, 1, 0, 0, 0, 0, 9, 0, 0, 0, 0, 0, 0, 0]) (ls_ret lp_bl))
    (LS.pre (δ := [0, 1, 0, 0, 0, 0, 9, 0, 0, 0, 0, 0, 0, 0]) ls_skip))))))
    (LS.pre (δ := [0, 1, 0, 0, 0, 0, 0, 0, 0, 0, 0, 0, 0, 0]) ls_skip)))
    (ls_seq (LS.mono (δ' := [0, 1, 0, 0, 0, 0, 0, 0, 0, 0, 0, 0, 0, 0]) (ls_if (lt_val (lp2 o_ne (lp_call (l_are_mates k) (lps_cons (lp_v (Sl.s (Sl.s (Sl.s (Sl.s Sl.z))))) (lps_cons (lp_v (Sl.s (Sl.s (Sl.s (Sl.s (Sl.s Sl.z)))))) lps_nil))) (lp2 o_ne (lp_v (Sl.s (Sl.s (Sl.s (Sl.s Sl.z))))) (lp_v (Sl.s (Sl.s (Sl.s (Sl.s (Sl.s Sl.z)))))))))
    (LS.pre (δ := [0, 1, 0, 0, 0, 0, 0, 0, 0, 0, 0, 0, 0, 0]) (ls_ret lp_bl))
    (LS.pre (δ := [0, 1, 0, 0, 0, 0, 0, 0, 0, 0, 0, 0, 0, 0]) ls_skip)))
    (ls_seq (LS.mono (δ' := [0, 1, 0, 0, 0, 0, 0, 0, 0, 0, 0, 0, 0, 0]) (ls_letE (Sl.s (Sl.s (Sl.s (Sl.s (Sl.s (Sl.s (Sl.s Sl.z))))))) (le2 o_add (LP.e lp_int) (le2 o_mod (le_call1 (Sl.s Sl.z) (l_l_pop k) (les_cons (le_m (Sl.s Sl.z)) (LPs.e lps_nil))) (LP.e lp_int)))))
    (ls_seq (LS.mono (δ' := [0, 1, 0, 0, 0, 0, 0, 0, 9, 0, 0, 0, 0, 0]) (ls_let (Sl.s (Sl.s (Sl.s (Sl.s (Sl.s (Sl.s (Sl.s (Sl.s Sl.z)))))))) (lp_call (l_made_set k) (lps_cons (lp_v (Sl.s (Sl.s (Sl.s (Sl.s (Sl.s (Sl.s (Sl.s Sl.z)))))))) lps_nil))))
    (ls_seq (LS.mono (δ' := [0, 1, 0, 0, 0, 0, 0, 0, 9, 0, 0, 0, 0, 0]) (ls_if (lt_val (lp2 o_ne (lpN o_len (lps_cons (lp_v (Sl.s (Sl.s (Sl.s (Sl.s (Sl.s (Sl.s (Sl.s (Sl.s Sl.z))))))))) lps_nil)) (lp2 o_ix (lp_lst (lpl_cons (LP.mono (m' := 0) lp_int (by decide)) (lpl_cons (LP.mono (m' := 0) lp_int (by decide)) (lpl_cons (LP.mono (m' := 0) lp_int (by decide)) (lpl_cons (LP.mono (m' := 0) lp_int (by decide)) (lpl_cons (LP.mono (m' := 0) lp_int (by decide)) (lpl_cons (LP.mono (m' := 0) lp_int (by decide)) (lpl_cons (LP.mono (m' := 0) lp_int (by decide)) (lpl_cons (LP.mono (m' := 0) lp_int (by decide)) (lpl_cons (LP.mono (m' := 0) lp_int (by decide)) lpl_nil)))))))))) (lp2 o_sub (lp_v (Sl.s (Sl.s (Sl.s (Sl.s (Sl.s (Sl.s (Sl.s Sl.z)))))))) lp_int))))
    (LS.pre (δ := [0, 1, 0, 0, 0, 0, 0, 0, 9, 0, 0, 0, 0, 0]) (ls_ret lp_bl))
    (LS.pre (δ := [0, 1, 0, 0, 0, 0, 0, 0, 9, 0, 0, 0, 0, 0]) ls_skip)))
    (ls_seq (LS.mono (δ' := [0, 1, 0, 0, 0, 0, 0, 0, 0, 0, 0, 0, 0, 0]) (ls_for [0, 1, 0, 0, 0, 0, 0, 0, 0, 0, 0, 0, 0, 0] (li_en (lps_cons (lp_v (Sl.s (Sl.s (Sl.s (Sl.s (Sl.s (Sl.s (Sl.s (Sl.s Sl.z))))))))) lps_nil)) (lb_t2 (lbs_cons (lb_n (Sl.s (Sl.s (Sl.s (Sl.s (Sl.s (Sl.s (Sl.s (Sl.s (Sl.s Sl.z)))))))))) (lbs_cons (lb_n (Sl.s (Sl.s (Sl.s (Sl.s (Sl.s (Sl.s (Sl.s (Sl.s (Sl.s (Sl.s Sl.z))))))))))) lbs_nil)))
    (LS.pre (δ := [0, 1, 0, 0, 0, 0, 0, 0, 0, 0, 0, 0, 0, 0]) (LS.mono (δ' := [0, 1, 0, 0, 0, 0, 0, 0, 0, 0, 0, 0, 0, 0]) (ls_if (lt_val (lp2 o_ne (lp_lc (li_l (lp_sl (lp_v (Sl.s (Sl.s (Sl.s (Sl.s (Sl.s (Sl.s (Sl.s (Sl.s Sl.z))))))))) lo_none (lo_some (lp_v (Sl.s (Sl.s (Sl.s (Sl.s (Sl.s (Sl.s (Sl.s (Sl.s (Sl.s Sl.z))))))))))))) (lb_n (Sl.s (Sl.s (Sl.s (Sl.s (Sl.s (Sl.s (Sl.s (Sl.s (Sl.s (Sl.s (Sl.s (Sl.s (Sl.s Sl.z)))))))))))))) (lt_not (lt_val (lp_call (l_are_mates k) (lps_cons (lp_v (Sl.s (Sl.s (Sl.s (Sl.s (Sl.s (Sl.s (Sl.s (Sl.s (Sl.s (Sl.s Sl.z))))))))))) (lps_cons (lp_v (Sl.s (Sl.s (Sl.s (Sl.s (Sl.s (Sl.s (Sl.s (Sl.s (Sl.s (Sl.s (Sl.s (Sl.s (Sl.s Sl.z)))))))))))))) lps_nil))))) (lp_v (Sl.s (Sl.s (Sl.s (Sl.s (Sl.s (Sl.s (Sl.s (Sl.s (Sl.s (Sl.s (Sl.s (Sl.s (Sl.s Sl.z))))))))))))))) (lp_lst (lpl_nil (m := 9)))))
    (LS.pre (δ := [0, 1, 0, 0, 0, 0, 0, 0, 0, 0, 0, 0, 0, 0]) (ls_ret lp_bl))
    (LS.pre (δ := [0, 1, 0, 0, 0, 0, 0, 0, 0, 0, 0, 0, 0, 0]) ls_skip))))))
    (ls_seq (LS.mono (δ' := [0, 1, 0, 0, 0, 0, 0, 0, 0, 0, 0, 0, 0, 0]) (ls_if (lt_val (lp2 o_eq (lp_v (Sl.s (Sl.s (Sl.s (Sl.s (Sl.s (Sl.s (Sl.s Sl.z)))))))) lp_int))
    (LS.pre (δ := [0, 1, 0, 0, 0, 0, 0, 0, 0, 0, 0, 0, 0, 0]) (ls_ret lp_bl))
    (LS.pre (δ := [0, 1, 0, 0, 0, 0, 0, 0, 0, 0, 0, 0, 0, 0]) ls_skip)))
    (ls_seq (LS.mono (δ' := [0, 1, 0, 0, 0, 0, 0, 0, 0, 0, 0, 9, 0, 0]) (ls_let (Sl.s (Sl.s (Sl.s (Sl.s (Sl.s (Sl.s (Sl.s (Sl.s (Sl.s (Sl.s (Sl.s Sl.z))))))))))) (lp_call (l_witness k) (lps_cons (lp_v (Sl.s (Sl.s (Sl.s (Sl.s (Sl.s (Sl.s (Sl.s (Sl.s Sl.z))))))))) lps_nil))))
    (ls_ret (lp_and (lp2 o_isB (lp_call (l_is_set k) (lps_cons (lp_v (Sl.s (Sl.s (Sl.s (Sl.s (Sl.s (Sl.s (Sl.s (Sl.s Sl.z))))))))) lps_nil)) lp_bl) (lp_and (lp2 o_notin lp_int (lp_v (Sl.s (Sl.s (Sl.s (Sl.s (Sl.s (Sl.s (Sl.s (Sl.s (Sl.s (Sl.s (Sl.s Sl.z))))))))))))) (lp2 o_eq (lpN o_len (lps_cons (lp_v (Sl.s (Sl.s (Sl.s (Sl.s (Sl.s (Sl.s (Sl.s (Sl.s (Sl.s (Sl.s (Sl.s Sl.z)))))))))))) lps_nil)) (lpN o_len (lps_cons (lp_lc (li_r1 (lps_cons (lp_v (Sl.s (Sl.s (Sl.s (Sl.s (Sl.s (Sl.s (Sl.s Sl.z)))))))) lps_nil)) (lb_n (Sl.s (Sl.s (Sl.s (Sl.s (Sl.s (Sl.s (Sl.s (Sl.s (Sl.s Sl.z)))))))))) (lt_val (lp2 o_in (lp_v (Sl.s (Sl.s (Sl.s (Sl.s (Sl.s (Sl.s (Sl.s (Sl.s (Sl.s Sl.z)))))))))) (lp_v (Sl.s (Sl.s (Sl.s (Sl.s (Sl.s (Sl.s (Sl.s (Sl.s (Sl.s (Sl.s (Sl.s Sl.z)))))))))))))) (lp_v (Sl.s (Sl.s (Sl.s (Sl.s (Sl.s (Sl.s (Sl.s (Sl.s (Sl.s Sl.z))))))))))) lps_nil)))))))))))))))))))) rfl rfl
end Lw
end

section
namespace Lw
open PySem PySem.Spec L2 Sq
open Sq.Enc (enc hm wf)
/-! ### drawn numbers -/
def Dr (ds : List Int) : Prop := ds.length ≤ 1000 ∧ ∀ d ∈ ds, 0 ≤ d ∧ d < 2147483587
theorem lo64_md (x : Int) {m : Int} (h : 0 < m) (h2 : m < 2 ^ 64) : lo64 (x % m) = true := by
  have h3 := Int.emod_nonneg x (Int.ne_of_gt h)
  have h4 := Int.emod_lt_of_pos x h
  exact lo64_of (by omega) (by omega)
theorem mix_ok {k : Nat} (hk : 1 ≤ k) (x : Int) (t : Nat) (ht : t ≤ 10000) : ∃ r, f_l_mix k (x, (t : Int), ()) = .ok r ∧ 0 ≤ r ∧ r < 2147483629 := by
  obtain ⟨k, rfl⟩ := Nat.exists_eq_add_of_le' hk
  have m1 := oMul_l (a := (t : Int)) (b := (t : Int)) (lo64_of (by omega) (by omega))
  have m2 := fun a : Int => oMul_r (a := a) (b := 7919) (by decide)
  have m3 := fun a : Int => oMul_r (a := a) (b := 48271) (by decide)
  have m4 := fun a : Int => oMul_l (a := a % 2147483647) (b := a % 2147483647) (lo64_md a (by decide) (by decide))
  have m5 := fun a : Int => oMul_l (a := 69621) (b := a) (by decide)
  have d1 := fun a : Int => oMod_pos (a := a) (b := 2147483647) (by decide)
  have d2 := fun a : Int => oMod_pos (a := a) (b := 2147483629) (by decide)
  refine ⟨_, tDef_ret (v := (some x, some (t : Int), some _, ())) (by simp -implicitDefEqProofs [sThen_def, m1, m2, m3, m4, m5, d1, d2]; exact ⟨rfl, rfl⟩), Int.emod_nonneg _ (by decide), Int.emod_lt_of_pos _ (by decide)⟩
theorem draws_ok {k : Nat} (hk : 2 ≤ k) (ns : List Int) (hl : ns.length ≤ 63) (t m : Nat) (hm : t + m ≤ 1000) : ∃ ds, f_l_draws k (ns, (t : Int), (m : Int), ()) = .ok ds ∧ Dr ds ∧ ds.length = m := by
  obtain ⟨k, rfl⟩ := Nat.exists_eq_add_of_le' (show 1 ≤ k by omega)
  have c1 : cutD ns none (some (63 : Int)) = ns := by rw [cutD_to _ (by decide)]; exact List.take_of_length_le (by simpa using hl)
  have c2 := oCat_ok (a := ns) (b := [(t : Int)]) (by simp; omega)
  have hs : (ns ++ [(t : Int)]).length = ns.length + 1 := by simp
  generalize hsp : ns ++ [(t : Int)] = sp at c2 hs
  have f1 : ∀ a : Int, oFdiv a 100000 = .ok (a / 100000) := fun a => oFdiv_pos (by decide) (by decide)
  have key : tComp (σ := E_l_draws) (tN (Sl.s (Sl.s (Sl.s (Sl.s (Sl.s (Sl.s (Sl.s (Sl.s (Sl.s Sl.z)))))))))) pYes (p2 oFdiv (pV (Sl.s (Sl.s (Sl.s (Sl.s (Sl.s (Sl.s (Sl.s (Sl.s (Sl.s Sl.z)))))))))) (pC (100000 : Int))) (some ns, some (t : Int), some (m : Int), some sp, none, none, none, none, none, none, ()) sp = .ok (sp.map fun a => a / 100000) := tComp_map (fun a => (some ns, some (t : Int), some (m : Int), some sp, none, none, none, none, none, some a, ())) _ _ (fun _ _ => rfl) fun a _ => by simp [f1]
  have e1 : (t : Int) + (m : Int) = ((t + m : Nat) : Int) := by omega
  have e2 := rngT0 (n := t + m) (by omega)
  obtain ⟨v', e3, lefts, found, a, b, c, e, rfl, h1, h2, h3⟩ := tLoop_inv (σ := E_l_draws) (tb := tN (Sl.s (Sl.s (Sl.s (Sl.s (Sl.s (Sl.s Sl.z))))))) (body := sThen (t_l_draws_4_1 k) (sThen (t_l_draws_4_2 k) (sThen (t_l_draws_4_3 k) (sThen (t_l_draws_4_4 k) (t_l_draws_4_5 k)))))
    (fun d v => ∃ lefts found a b c e, v = (some ns, some (t : Int), some (m : Int), some sp, some lefts, some found, a, b, c, e, ()) ∧ lefts.length = sp.length ∧ found.length = d.length ∧ ∀ x ∈ found, 0 ≤ x ∧ x < 2147483587) (rg (t + m)) (some ns, some (t : Int), some (m : Int), some sp, some (sp.map fun a => a / 100000), some [], none, none, none, none, ()) ⟨_, [], none, none, none, none, rfl, by simp, rfl, fun _ h => nomatch h⟩ (by
      rintro d x r ha v ⟨lefts, found, a, b, c, e, rfl, h1, h2, h3⟩
      have hx : x ∈ rg (t + m) := by rw [ha]; simp
      obtain ⟨x0, x1⟩ := mem_rg.mp hx
      obtain ⟨j, rfl⟩ : ∃ j : Nat, x = j := ⟨x.toNat, by omega⟩
      have hd : d.length < t + m := by
        have := congrArg List.length ha
        rw [rg_len] at this
        simp at this
        omega
      have hp : 0 < sp.length := by omega
      have hj : j % sp.length < sp.length := Nat.mod_lt _ hp
      have a1 : oMod (j : Int) (sp.length : Int) = .ok ((j % sp.length : Nat) : Int) := by rw [oMod_pos (by omega)]; rfl
      generalize j % sp.length = u at hj a1
      have a2 := oIx_nat (xs := sp) hj
      have a3 := oIx_nat (xs := lefts) (i := u) (by omega)
      obtain ⟨r1, b1, b2, b3⟩ := mix_ok (k := k) (by omega) (sp[u]) j (by omega)
      have m1 := oMul_l (a := r1) (b := r1) (lo64_of (by omega) (by omega))
      have m2 := oMul_l (a := 7) (b := (j : Int)) (by decide)
      have d1 := fun a : Int => oMod_pos (a := a) (b := 2147483587) (by decide)
      have d2 := fun a : Int => oFdiv_pos (a := a) (b := 2147483587) (by decide) (by decide)
      have p1 : oPow 10 18 = .ok 1000000000000000000 := rfl
      have i1 := ixN_nat (n := lefts.length) (i := u) (by omega)
      have nn := fun a : Int => Int.emod_nonneg a (show (2147483587 : Int) ≠ 0 by decide)
      have nl := fun a : Int => Int.emod_lt_of_pos a (show (0 : Int) < 2147483587 by decide)
      have sm := fun z : Int => sml_ok (a := found ++ [z]) (by simp; omega)
      by_cases q : (1000000000000000000 : Int) ≤ sp[u] ∧ 0 < lefts[u]'(by omega)
      · refine ⟨_, ?_, lefts.set (u) (lefts[u]'(by omega) / 2147483587), found ++ [lefts[u]'(by omega) % 2147483587], some (j : Int), some ((u : Nat) : Int), some (lefts[u]'(by omega) % 2147483587), e, rfl, by simp [h1], by simp [h2], fun x hx => ?_⟩
        · simp -implicitDefEqProofs [sThen_def, t_l_draws_4_1, t_l_draws_4_2, t_l_draws_4_3, t_l_draws_4_4, t_l_draws_4_4_t_1, t_l_draws_4_4_t_2, t_l_draws_4_5, a1, a2, a3, b1, m1, m2, d1, d2, p1, i1, q.1, q.2, sm]
        · rcases List.mem_append.mp hx with hx | hx
          · exact h3 x hx
          · rw [List.mem_singleton.mp hx]; exact ⟨nn _, nl _⟩
      · refine ⟨_, ?_, lefts, found ++ [(r1 * r1 + 7 * (j : Int)) % 2147483587], some (j : Int), some ((u : Nat) : Int), some ((r1 * r1 + 7 * (j : Int)) % 2147483587), e, rfl, h1, by simp [h2], fun x hx => ?_⟩
        · by_cases q1 : (1000000000000000000 : Int) ≤ sp[u]
          · have q2 : ¬ 0 < lefts[u]'(by omega) := fun z => q ⟨q1, z⟩
            simp -implicitDefEqProofs [sThen_def, t_l_draws_4_1, t_l_draws_4_2, t_l_draws_4_3, t_l_draws_4_4, t_l_draws_4_5, a1, a2, a3, b1, m1, m2, d1, d2, p1, q1, q2, sm]
          · simp -implicitDefEqProofs [sThen_def, t_l_draws_4_1, t_l_draws_4_2, t_l_draws_4_3, t_l_draws_4_4, t_l_draws_4_5, a1, a2, a3, b1, m1, m2, d1, d2, p1, q1, sm]
        · rcases List.mem_append.mp hx with hx | hx
          · exact h3 x hx
          · rw [List.mem_singleton.mp hx]; exact ⟨nn _, nl _⟩)
  have c3 : cutD found (some (t : Int)) none = found.drop t := by rw [cutD_from _ (by omega)]; rfl
  rw [rg_len] at h2
  refine ⟨found.drop t, tDef_ret (v := (some ns, some (t : Int), some (m : Int), some sp, some lefts, some found, a, b, c, e, ())) ?_, ⟨by rw [List.length_drop]; omega, fun d hd => h3 d (List.mem_of_mem_drop hd)⟩, by rw [List.length_drop]; omega⟩
  rw [sThen_next (v' := (some ns, some (t : Int), some (m : Int), some sp, none, none, none, none, none, none, ())) (by simp -implicitDefEqProofs [t_l_draws_1, c1, c2]), sThen_next (v' := (some ns, some (t : Int), some (m : Int), some sp, some (sp.map fun a => a / 100000), none, none, none, none, none, ())) (by simp -implicitDefEqProofs [t_l_draws_2, key]), sThen_next (v' := (some ns, some (t : Int), some (m : Int), some sp, some (sp.map fun a => a / 100000), some [], none, none, none, none, ())) (by simp -implicitDefEqProofs [t_l_draws_3]), sThen_next (v' := (some ns, some (t : Int), some (m : Int), some sp, some lefts, some found, a, b, c, e, ())) (by
    unfold t_l_draws_4 sLoop
    rw [← e3]
    simp -implicitDefEqProofs only [pN, psCons, pV, psNil, p2, oAdd, oRg1, Sl.z_get, Sl.s_get, ofO, Res.bind_ok, e1, e2])]
  simp -implicitDefEqProofs [t_l_draws_5, c3]
theorem pop_ok {k : Nat} (hk : 1 ≤ k) {ds : List Int} (h : Dr ds) : ∃ r ds', f_l_pop k (ds, ()) = .ok (r, ds') ∧ Dr ds' ∧ 0 ≤ r ∧ r < 2147483587 := by
  obtain ⟨k, rfl⟩ := Nat.exists_eq_add_of_le' hk
  by_cases e : ds = []
  · subst e
    exact ⟨0, [], tDef1_ret (v := (some [], ())) (by simp -implicitDefEqProofs [sThen_def]) rfl, h, by decide, by decide⟩
  · have hl := List.length_pos_iff.mpr e
    refine ⟨ds[ds.length - 1], ds.eraseIdx (ds.length - 1), tDef1_ret (v := (some (ds.eraseIdx (ds.length - 1)), ())) ?_ rfl, ⟨Nat.le_trans (List.length_eraseIdx_le ..) h.1, fun d hd => h.2 d (List.mem_of_mem_eraseIdx hd)⟩, h.2 _ (List.getElem_mem _)⟩
    have g : ds[ds.length - 1]? = some ds[ds.length - 1] := List.getElem?_eq_getElem _
    simp -implicitDefEqProofs [sThen_def, e, g]
abbrev S2 := List (List Int)
def chkG (pt : S2 × S2 × Unit → Res S2) (mo : S2 × Unit → Res S2) (iw : S2 × List Int × Unit → Res Bool) (s t : S2) : Bool := match pt (s, t, ()) with
  | .ok R => (match mo (R, ()) with | .ok m => decide (m = t) | _ => false) && R.all fun w => match iw (s, w, ()) with | .ok b => b | _ => false
  | _ => false
theorem chkG_ok {pt : S2 × S2 × Unit → Res S2} {mo : S2 × Unit → Res S2} {iw : S2 × List Int × Unit → Res Bool} {s t : S2} (h : chkG pt mo iw s t = true) : ∃ R, pt (s, t, ()) = .ok R ∧ mo (R, ()) = .ok t ∧ ∀ w ∈ R, iw (s, w, ()) = .ok true := by
  unfold chkG at h
  split at h
  · next R e =>
    obtain ⟨h1, h2⟩ := (Bool.and_eq_true _ _ ▸ h : _ = true ∧ _ = true)
    refine ⟨R, e, ?_, fun w hw => ?_⟩
    · split at h1
      · next m em => rw [em, of_decide_eq_true h1]
      · cases h1
    · have h3 := List.all_eq_true.mp h2 w hw
      split at h3
      · next b eb => rw [eb, h3]
      · cases h3
  · cases h
abbrev chkP (s t : S2) : Bool := chkG (f_parting_of 59) (f_mate_of 59) (f_is_way 59) s t
def chkA (am : S2 × S2 × Unit → Res Bool) (p : Bool) (s t : S2) : Bool := (decide (s = t) || p) && (match am (s, t, ()) with | .ok b => b == !decide (s = t) | _ => false)
theorem chkA_ok {am : S2 × S2 × Unit → Res Bool} {p : Bool} {s t : S2} (h : chkA am p s t = true) : (s = t ∨ p = true) ∧ am (s, t, ()) = .ok (!decide (s = t)) := by
  unfold chkA at h
  obtain ⟨h1, h2⟩ := (Bool.and_eq_true _ _ ▸ h : _ = true ∧ _ = true)
  refine ⟨?_, ?_⟩
  · rcases (Bool.or_eq_true _ _ ▸ h1 : _ = true ∨ _ = true) with q | q
    · exact .inl (of_decide_eq_true q)
    · exact .inr q
  · split at h2
    · next b eb => rw [eb, eq_of_beq h2]
    · cases h2
abbrev chk (s t : S2) : Bool := chkA (f_are_mates 59) (chkP s t) s t
def sq2_0 : S2 := [[0, 1], [1, 0]]
def fsq2 : List S2 := [sq2_0]
theorem tf2 : f_field_squares 59 (2, ()) = .ok fsq2 := by kernel_rfl
def sq3_0 : S2 := [[0, 1, 2], [1, 2, 0], [2, 0, 1]]
def sq3_1 : S2 := [[0, 1, 2], [2, 0, 1], [1, 2, 0]]
def fsq3 : List S2 := [sq3_0, sq3_1]
theorem tf3 : f_field_squares 59 (3, ()) = .ok fsq3 := by kernel_rfl
def sq4_0 : S2 := [[0, 1, 2, 3], [1, 0, 3, 2], [2, 3, 0, 1], [3, 2, 1, 0]]
def sq4_1 : S2 := [[0, 1, 2, 3], [2, 3, 0, 1], [3, 2, 1, 0], [1, 0, 3, 2]]
def sq4_2 : S2 := [[0, 1, 2, 3], [3, 2, 1, 0], [1, 0, 3, 2], [2, 3, 0, 1]]
def fsq4 : List S2 := [sq4_0, sq4_1, sq4_2]
theorem tf4 : f_field_squares 59 (4, ()) = .ok fsq4 := by kernel_rfl
def sq5_0 : S2 := [[0, 1, 2, 3, 4], [1, 2, 3, 4, 0], [2, 3, 4, 0, 1], [3, 4, 0, 1, 2], [4, 0, 1, 2, 3]]
def sq5_1 : S2 := [[0, 1, 2, 3, 4], [2, 3, 4, 0, 1], [4, 0, 1, 2, 3], [1, 2, 3, 4, 0], [3, 4, 0, 1, 2]]
def sq5_2 : S2 := [[0, 1, 2, 3, 4], [3, 4, 0, 1, 2], [1, 2, 3, 4, 0], [4, 0, 1, 2, 3], [2, 3, 4, 0, 1]]
def sq5_3 : S2 := [[0, 1, 2, 3, 4], [4, 0, 1, 2, 3], [3, 4, 0, 1, 2], [2, 3, 4, 0, 1], [1, 2, 3, 4, 0]]
def fsq5 : List S2 := [sq5_0, sq5_1, sq5_2, sq5_3]
theorem tf5 : f_field_squares 59 (5, ()) = .ok fsq5 := by kernel_rfl
def sq7_0 : S2 := [[0, 1, 2, 3, 4, 5, 6], [1, 2, 3, 4, 5, 6, 0], [2, 3, 4, 5, 6, 0, 1], [3, 4, 5, 6, 0, 1, 2], [4, 5, 6, 0, 1, 2, 3], [5, 6, 0, 1, 2, 3, 4], [6, 0, 1, 2, 3, 4, 5]]
def sq7_1 : S2 := [[0, 1, 2, 3, 4, 5, 6], [2, 3, 4, 5, 6, 0, 1], [4, 5, 6, 0, 1, 2, 3], [6, 0, 1, 2, 3, 4, 5], [1, 2, 3, 4, 5, 6, 0], [3, 4, 5, 6, 0, 1, 2], [5, 6, 0, 1, 2, 3, 4]]
def sq7_2 : S2 := [[0, 1, 2, 3, 4, 5, 6], [3, 4, 5, 6, 0, 1, 2], [6, 0, 1, 2, 3, 4, 5], [2, 3, 4, 5, 6, 0, 1], [5, 6, 0, 1, 2, 3, 4], [1, 2, 3, 4, 5, 6, 0], [4, 5, 6, 0, 1, 2, 3]]
def sq7_3 : S2 := [[0, 1, 2, 3, 4, 5, 6], [4, 5, 6, 0, 1, 2, 3], [1, 2, 3, 4, 5, 6, 0], [5, 6, 0, 1, 2, 3, 4], [2, 3, 4, 5, 6, 0, 1], [6, 0, 1, 2, 3, 4, 5], [3, 4, 5, 6, 0, 1, 2]]
def sq7_4 : S2 := [[0, 1, 2, 3, 4, 5, 6], [5, 6, 0, 1, 2, 3, 4], [3, 4, 5, 6, 0, 1, 2], [1, 2, 3, 4, 5, 6, 0], [6, 0, 1, 2, 3, 4, 5], [4, 5, 6, 0, 1, 2, 3], [2, 3, 4, 5, 6, 0, 1]]
def sq7_5 : S2 := [[0, 1, 2, 3, 4, 5, 6], [6, 0, 1, 2, 3, 4, 5], [5, 6, 0, 1, 2, 3, 4], [4, 5, 6, 0, 1, 2, 3], [3, 4, 5, 6, 0, 1, 2], [2, 3, 4, 5, 6, 0, 1], [1, 2, 3, 4, 5, 6, 0]]
def fsq7 : List S2 := [sq7_0, sq7_1, sq7_2, sq7_3, sq7_4, sq7_5]
theorem tf7 : f_field_squares 59 (7, ()) = .ok fsq7 := by kernel_rfl
def sq8_0 : S2 := [[0, 1, 2, 3, 4, 5, 6, 7], [1, 0, 3, 2, 5, 4, 7, 6], [2, 3, 0, 1, 6, 7, 4, 5], [3, 2, 1, 0, 7, 6, 5, 4], [4, 5, 6, 7, 0, 1, 2, 3], [5, 4, 7, 6, 1, 0, 3, 2], [6, 7, 4, 5, 2, 3, 0, 1], [7, 6, 5, 4, 3, 2, 1, 0]]
def sq8_1 : S2 := [[0, 1, 2, 3, 4, 5, 6, 7], [2, 3, 0, 1, 6, 7, 4, 5], [4, 5, 6, 7, 0, 1, 2, 3], [6, 7, 4, 5, 2, 3, 0, 1], [3, 2, 1, 0, 7, 6, 5, 4], [1, 0, 3, 2, 5, 4, 7, 6], [7, 6, 5, 4, 3, 2, 1, 0], [5, 4, 7, 6, 1, 0, 3, 2]]
def sq8_2 : S2 := [[0, 1, 2, 3, 4, 5, 6, 7], [3, 2, 1, 0, 7, 6, 5, 4], [6, 7, 4, 5, 2, 3, 0, 1], [5, 4, 7, 6, 1, 0, 3, 2], [7, 6, 5, 4, 3, 2, 1, 0], [4, 5, 6, 7, 0, 1, 2, 3], [1, 0, 3, 2, 5, 4, 7, 6], [2, 3, 0, 1, 6, 7, 4, 5]]
def sq8_3 : S2 := [[0, 1, 2, 3, 4, 5, 6, 7], [4, 5, 6, 7, 0, 1, 2, 3], [3, 2, 1, 0, 7, 6, 5, 4], [7, 6, 5, 4, 3, 2, 1, 0], [6, 7, 4, 5, 2, 3, 0, 1], [2, 3, 0, 1, 6, 7, 4, 5], [5, 4, 7, 6, 1, 0, 3, 2], [1, 0, 3, 2, 5, 4, 7, 6]]
def sq8_4 : S2 := [[0, 1, 2, 3, 4, 5, 6, 7], [5, 4, 7, 6, 1, 0, 3, 2], [1, 0, 3, 2, 5, 4, 7, 6], [4, 5, 6, 7, 0, 1, 2, 3], [2, 3, 0, 1, 6, 7, 4, 5], [7, 6, 5, 4, 3, 2, 1, 0], [3, 2, 1, 0, 7, 6, 5, 4], [6, 7, 4, 5, 2, 3, 0, 1]]
def sq8_5 : S2 := [[0, 1, 2, 3, 4, 5, 6, 7], [6, 7, 4, 5, 2, 3, 0, 1], [7, 6, 5, 4, 3, 2, 1, 0], [1, 0, 3, 2, 5, 4, 7, 6], [5, 4, 7, 6, 1, 0, 3, 2], [3, 2, 1, 0, 7, 6, 5, 4], [2, 3, 0, 1, 6, 7, 4, 5], [4, 5, 6, 7, 0, 1, 2, 3]]
def sq8_6 : S2 := [[0, 1, 2, 3, 4, 5, 6, 7], [7, 6, 5, 4, 3, 2, 1, 0], [5, 4, 7, 6, 1, 0, 3, 2], [2, 3, 0, 1, 6, 7, 4, 5], [1, 0, 3, 2, 5, 4, 7, 6], [6, 7, 4, 5, 2, 3, 0, 1], [4, 5, 6, 7, 0, 1, 2, 3], [3, 2, 1, 0, 7, 6, 5, 4]]
def fsq8 : List S2 := [sq8_0, sq8_1, sq8_2, sq8_3, sq8_4, sq8_5, sq8_6]
theorem tf8 : f_field_squares 59 (8, ()) = .ok fsq8 := by kernel_rfl
def sq9_0 : S2 := [[0, 1, 2, 3, 4, 5, 6, 7, 8], [1, 2, 0, 4, 5, 3, 7, 8, 6], [2, 0, 1, 5, 3, 4, 8, 6, 7], [3, 4, 5, 6, 7, 8, 0, 1, 2], [4, 5, 3, 7, 8, 6, 1, 2, 0], [5, 3, 4, 8, 6, 7, 2, 0, 1], [6, 7, 8, 0, 1, 2, 3, 4, 5], [7, 8, 6, 1, 2, 0, 4, 5, 3], [8, 6, 7, 2, 0, 1, 5, 3, 4]]
def sq9_1 : S2 := [[0, 1, 2, 3, 4, 5, 6, 7, 8], [2, 0, 1, 5, 3, 4, 8, 6, 7], [1, 2, 0, 4, 5, 3, 7, 8, 6], [6, 7, 8, 0, 1, 2, 3, 4, 5], [8, 6, 7, 2, 0, 1, 5, 3, 4], [7, 8, 6, 1, 2, 0, 4, 5, 3], [3, 4, 5, 6, 7, 8, 0, 1, 2], [5, 3, 4, 8, 6, 7, 2, 0, 1], [4, 5, 3, 7, 8, 6, 1, 2, 0]]
def sq9_2 : S2 := [[0, 1, 2, 3, 4, 5, 6, 7, 8], [3, 4, 5, 6, 7, 8, 0, 1, 2], [6, 7, 8, 0, 1, 2, 3, 4, 5], [2, 0, 1, 5, 3, 4, 8, 6, 7], [5, 3, 4, 8, 6, 7, 2, 0, 1], [8, 6, 7, 2, 0, 1, 5, 3, 4], [1, 2, 0, 4, 5, 3, 7, 8, 6], [4, 5, 3, 7, 8, 6, 1, 2, 0], [7, 8, 6, 1, 2, 0, 4, 5, 3]]
def sq9_3 : S2 := [[0, 1, 2, 3, 4, 5, 6, 7, 8], [4, 5, 3, 7, 8, 6, 1, 2, 0], [8, 6, 7, 2, 0, 1, 5, 3, 4], [5, 3, 4, 8, 6, 7, 2, 0, 1], [6, 7, 8, 0, 1, 2, 3, 4, 5], [1, 2, 0, 4, 5, 3, 7, 8, 6], [7, 8, 6, 1, 2, 0, 4, 5, 3], [2, 0, 1, 5, 3, 4, 8, 6, 7], [3, 4, 5, 6, 7, 8, 0, 1, 2]]
def sq9_4 : S2 := [[0, 1, 2, 3, 4, 5, 6, 7, 8], [5, 3, 4, 8, 6, 7, 2, 0, 1], [7, 8, 6, 1, 2, 0, 4, 5, 3], [8, 6, 7, 2, 0, 1, 5, 3, 4], [1, 2, 0, 4, 5, 3, 7, 8, 6], [3, 4, 5, 6, 7, 8, 0, 1, 2], [4, 5, 3, 7, 8, 6, 1, 2, 0], [6, 7, 8, 0, 1, 2, 3, 4, 5], [2, 0, 1, 5, 3, 4, 8, 6, 7]]
def sq9_5 : S2 := [[0, 1, 2, 3, 4, 5, 6, 7, 8], [6, 7, 8, 0, 1, 2, 3, 4, 5], [3, 4, 5, 6, 7, 8, 0, 1, 2], [1, 2, 0, 4, 5, 3, 7, 8, 6], [7, 8, 6, 1, 2, 0, 4, 5, 3], [4, 5, 3, 7, 8, 6, 1, 2, 0], [2, 0, 1, 5, 3, 4, 8, 6, 7], [8, 6, 7, 2, 0, 1, 5, 3, 4], [5, 3, 4, 8, 6, 7, 2, 0, 1]]
def sq9_6 : S2 := [[0, 1, 2, 3, 4, 5, 6, 7, 8], [7, 8, 6, 1, 2, 0, 4, 5, 3], [5, 3, 4, 8, 6, 7, 2, 0, 1], [4, 5, 3, 7, 8, 6, 1, 2, 0], [2, 0, 1, 5, 3, 4, 8, 6, 7], [6, 7, 8, 0, 1, 2, 3, 4, 5], [8, 6, 7, 2, 0, 1, 5, 3, 4], [3, 4, 5, 6, 7, 8, 0, 1, 2], [1, 2, 0, 4, 5, 3, 7, 8, 6]]
def sq9_7 : S2 := [[0, 1, 2, 3, 4, 5, 6, 7, 8], [8, 6, 7, 2, 0, 1, 5, 3, 4], [4, 5, 3, 7, 8, 6, 1, 2, 0], [7, 8, 6, 1, 2, 0, 4, 5, 3], [3, 4, 5, 6, 7, 8, 0, 1, 2], [2, 0, 1, 5, 3, 4, 8, 6, 7], [5, 3, 4, 8, 6, 7, 2, 0, 1], [1, 2, 0, 4, 5, 3, 7, 8, 6], [6, 7, 8, 0, 1, 2, 3, 4, 5]]
def fsq9 : List S2 := [sq9_0, sq9_1, sq9_2, sq9_3, sq9_4, sq9_5, sq9_6, sq9_7]
theorem tf9 : f_field_squares 59 (9, ()) = .ok fsq9 := by kernel_rfl

structure Fq (q : Int) (m : Nat) (F : List S2) : Prop where
  qm : q = (m : Int) + 1
  m1 : 1 ≤ m
  m8 : m ≤ 8
  len : F.length = m
  fs : f_field_squares 59 (q, ()) = .ok F
  ck : (F.all fun s => F.all fun t => chk s t) = true
theorem all_c {F : List S2} {x : S2} {xs : List S2} (h : (F.all fun t => chk x t) = true) (r : (xs.all fun s => F.all fun t => chk s t) = true) : ((x :: xs).all fun s => F.all fun t => chk s t) = true := by
  rw [List.all_cons, h, r]
  rfl
theorem rw2_0 : (fsq2.all fun t => chk sq2_0 t) = true := by decide +kernel
theorem fq2 : Fq 2 1 fsq2 := ⟨by decide, by decide, by decide, rfl, tf2, all_c rw2_0 (rfl)⟩
theorem rw3_0 : (fsq3.all fun t => chk sq3_0 t) = true := by decide +kernel
theorem rw3_1 : (fsq3.all fun t => chk sq3_1 t) = true := by decide +kernel
theorem fq3 : Fq 3 2 fsq3 := ⟨by decide, by decide, by decide, rfl, tf3, all_c rw3_0 (all_c rw3_1 (rfl))⟩
theorem rw4_0 : (fsq4.all fun t => chk sq4_0 t) = true := by decide +kernel
theorem rw4_1 : (fsq4.all fun t => chk sq4_1 t) = true := by decide +kernel
theorem rw4_2 : (fsq4.all fun t => chk sq4_2 t) = true := by decide +kernel
theorem fq4 : Fq 4 3 fsq4 := ⟨by decide, by decide, by decide, rfl, tf4, all_c rw4_0 (all_c rw4_1 (all_c rw4_2 (rfl)))⟩
theorem rw5_0 : (fsq5.all fun t => chk sq5_0 t) = true := by decide +kernel
theorem rw5_1 : (fsq5.all fun t => chk sq5_1 t) = true := by decide +kernel
theorem rw5_2 : (fsq5.all fun t => chk sq5_2 t) = true := by decide +kernel
theorem rw5_3 : (fsq5.all fun t => chk sq5_3 t) = true := by decide +kernel
theorem fq5 : Fq 5 4 fsq5 := ⟨by decide, by decide, by decide, rfl, tf5, all_c rw5_0 (all_c rw5_1 (all_c rw5_2 (all_c rw5_3 (rfl))))⟩
theorem rw7_0 : (fsq7.all fun t => chk sq7_0 t) = true := by decide +kernel
theorem rw7_1 : (fsq7.all fun t => chk sq7_1 t) = true := by decide +kernel
theorem rw7_2 : (fsq7.all fun t => chk sq7_2 t) = true := by decide +kernel
theorem rw7_3 : (fsq7.all fun t => chk sq7_3 t) = true := by decide +kernel
theorem rw7_4 : (fsq7.all fun t => chk sq7_4 t) = true := by decide +kernel
theorem rw7_5 : (fsq7.all fun t => chk sq7_5 t) = true := by decide +kernel
theorem fq7 : Fq 7 6 fsq7 := ⟨by decide, by decide, by decide, rfl, tf7, all_c rw7_0 (all_c rw7_1 (all_c rw7_2 (all_c rw7_3 (all_c rw7_4 (all_c rw7_5 (rfl))))))⟩
theorem rw8_0 : (fsq8.all fun t => chk sq8_0 t) = true := by decide +kernel
theorem rw8_1 : (fsq8.all fun t => chk sq8_1 t) = true := by decide +kernel
theorem rw8_2 : (fsq8.all fun t => chk sq8_2 t) = true := by decide +kernel
theorem rw8_3 : (fsq8.all fun t => chk sq8_3 t) = true := by decide +kernel
theorem rw8_4 : (fsq8.all fun t => chk sq8_4 t) = true := by decide +kernel
theorem rw8_5 : (fsq8.all fun t => chk sq8_5 t) = true := by decide +kernel
theorem rw8_6 : (fsq8.all fun t => chk sq8_6 t) = true := by decide +kernel
theorem fq8 : Fq 8 7 fsq8 := ⟨by decide, by decide, by decide, rfl, tf8, all_c rw8_0 (all_c rw8_1 (all_c rw8_2 (all_c rw8_3 (all_c rw8_4 (all_c rw8_5 (all_c rw8_6 (rfl)))))))⟩
theorem rw9_0 : (fsq9.all fun t => chk sq9_0 t) = true := by decide +kernel
theorem rw9_1 : (fsq9.all fun t => chk sq9_1 t) = true := by decide +kernel
theorem rw9_2 : (fsq9.all fun t => chk sq9_2 t) = true := by decide +kernel
theorem rw9_3 : (fsq9.all fun t => chk sq9_3 t) = true := by decide +kernel
theorem rw9_4 : (fsq9.all fun t => chk sq9_4 t) = true := by decide +kernel
theorem rw9_5 : (fsq9.all fun t => chk sq9_5 t) = true := by decide +kernel
theorem rw9_6 : (fsq9.all fun t => chk sq9_6 t) = true := by decide +kernel
theorem rw9_7 : (fsq9.all fun t => chk sq9_7 t) = true := by decide +kernel
theorem fq9 : Fq 9 8 fsq9 := ⟨by decide, by decide, by decide, rfl, tf9, all_c rw9_0 (all_c rw9_1 (all_c rw9_2 (all_c rw9_3 (all_c rw9_4 (all_c rw9_5 (all_c rw9_6 (all_c rw9_7 (rfl))))))))⟩

theorem fqs {i : Nat} (h : i < 7) : ∃ (q : Int) (m : Nat) (F : List S2), oIx [(2 : Int), 3, 4, 5, 7, 8, 9] (i : Int) = .ok q ∧ Fq q m F := by
  match i, h with
  | 0, _ => exact ⟨2, 1, fsq2, by kernel_rfl, fq2⟩
  | 1, _ => exact ⟨3, 2, fsq3, by kernel_rfl, fq3⟩
  | 2, _ => exact ⟨4, 3, fsq4, by kernel_rfl, fq4⟩
  | 3, _ => exact ⟨5, 4, fsq5, by kernel_rfl, fq5⟩
  | 4, _ => exact ⟨7, 6, fsq7, by kernel_rfl, fq7⟩
  | 5, _ => exact ⟨8, 7, fsq8, by kernel_rfl, fq8⟩
  | 6, _ => exact ⟨9, 8, fsq9, by kernel_rfl, fq9⟩

def retOf (r : Res (TF Bool × E_law)) : Bool := match r with
  | .ok (.ret b, _) => b
  | _ => false
theorem retOf_ok {r : Res (TF Bool × E_law)} (h : retOf r = true) : ∃ v, r = .ok (.ret true, v) := by
  unfold retOf at h
  split at h
  · next b v => exact ⟨v, by rw [h]⟩
  · cases h
def tail : E_law → Res (TF Bool × E_law) := sThen (t_law_9 59) (sThen (t_law_10 59) (sThen (t_law_11 59) (sThen (t_law_12 59) (sThen (t_law_13 59) (t_law_14 59)))))
def tail2 : E_law → Res (TF Bool × E_law) := sThen (t_law_10 59) (sThen (t_law_11 59) (sThen (t_law_12 59) (sThen (t_law_13 59) (t_law_14 59))))
theorem tail_at {ns ds : List Int} {q : Int} {F : List S2} {s t : S2} {c6 : Option S2} {x : Int} {L : List S2} (h : f_made_set 59 (x, ()) = .ok L) : tail (some ns, some ds, some q, some F, some s, some t, c6, some x, none, none, none, none, none, none, ()) = tail2 (some ns, some ds, some q, some F, some s, some t, c6, some x, some L, none, none, none, none, none, ()) := by
  unfold tail tail2
  exact sThen_next (by simp -implicitDefEqProofs [t_law_9, h])
def ml1 : List S2 := [[[0]]]
theorem ms1 : f_made_set 59 (1 + ((0 : Nat) : Int), ()) = .ok ml1 := by kernel_rfl
theorem mt0 (ns ds : List Int) (q : Int) (F : List S2) (s t : S2) (c6 : Option S2) : retOf (tail2 (some ns, some ds, some q, some F, some s, some t, c6, some (1 + ((0 : Nat) : Int)), some ml1, none, none, none, none, none, ())) = true := by kernel_rfl
theorem md0 (ns ds : List Int) (q : Int) (F : List S2) (s t : S2) (c6 : Option S2) : retOf (tail (some ns, some ds, some q, some F, some s, some t, c6, some (1 + ((0 : Nat) : Int)), none, none, none, none, none, none, ())) = true := (congrArg retOf (tail_at ms1)).trans (mt0 ns ds q F s t c6)
abbrev ml2 : List S2 := fsq2
theorem ms2 : f_made_set 59 (1 + ((1 : Nat) : Int), ()) = .ok ml2 := by kernel_rfl
theorem mt1 (ns ds : List Int) (q : Int) (F : List S2) (s t : S2) (c6 : Option S2) : retOf (tail2 (some ns, some ds, some q, some F, some s, some t, c6, some (1 + ((1 : Nat) : Int)), some ml2, none, none, none, none, none, ())) = true := by kernel_rfl
theorem md1 (ns ds : List Int) (q : Int) (F : List S2) (s t : S2) (c6 : Option S2) : retOf (tail (some ns, some ds, some q, some F, some s, some t, c6, some (1 + ((1 : Nat) : Int)), none, none, none, none, none, none, ())) = true := (congrArg retOf (tail_at ms2)).trans (mt1 ns ds q F s t c6)
abbrev ml3 : List S2 := fsq3
theorem ms3 : f_made_set 59 (1 + ((2 : Nat) : Int), ()) = .ok ml3 := by kernel_rfl
theorem mt2 (ns ds : List Int) (q : Int) (F : List S2) (s t : S2) (c6 : Option S2) : retOf (tail2 (some ns, some ds, some q, some F, some s, some t, c6, some (1 + ((2 : Nat) : Int)), some ml3, none, none, none, none, none, ())) = true := by kernel_rfl
theorem md2 (ns ds : List Int) (q : Int) (F : List S2) (s t : S2) (c6 : Option S2) : retOf (tail (some ns, some ds, some q, some F, some s, some t, c6, some (1 + ((2 : Nat) : Int)), none, none, none, none, none, none, ())) = true := (congrArg retOf (tail_at ms3)).trans (mt2 ns ds q F s t c6)
abbrev ml4 : List S2 := fsq4
theorem ms4 : f_made_set 59 (1 + ((3 : Nat) : Int), ()) = .ok ml4 := by kernel_rfl
theorem mt3 (ns ds : List Int) (q : Int) (F : List S2) (s t : S2) (c6 : Option S2) : retOf (tail2 (some ns, some ds, some q, some F, some s, some t, c6, some (1 + ((3 : Nat) : Int)), some ml4, none, none, none, none, none, ())) = true := by kernel_rfl
theorem md3 (ns ds : List Int) (q : Int) (F : List S2) (s t : S2) (c6 : Option S2) : retOf (tail (some ns, some ds, some q, some F, some s, some t, c6, some (1 + ((3 : Nat) : Int)), none, none, none, none, none, none, ())) = true := (congrArg retOf (tail_at ms4)).trans (mt3 ns ds q F s t c6)
abbrev ml5 : List S2 := fsq5
theorem ms5 : f_made_set 59 (1 + ((4 : Nat) : Int), ()) = .ok ml5 := by kernel_rfl
theorem mt4 (ns ds : List Int) (q : Int) (F : List S2) (s t : S2) (c6 : Option S2) : retOf (tail2 (some ns, some ds, some q, some F, some s, some t, c6, some (1 + ((4 : Nat) : Int)), some ml5, none, none, none, none, none, ())) = true := by kernel_rfl
theorem md4 (ns ds : List Int) (q : Int) (F : List S2) (s t : S2) (c6 : Option S2) : retOf (tail (some ns, some ds, some q, some F, some s, some t, c6, some (1 + ((4 : Nat) : Int)), none, none, none, none, none, none, ())) = true := (congrArg retOf (tail_at ms5)).trans (mt4 ns ds q F s t c6)
def ml6 : List S2 := [[[0, 1, 2, 3, 4, 5], [1, 2, 0, 4, 5, 3], [2, 0, 1, 5, 3, 4], [3, 4, 5, 0, 1, 2], [4, 5, 3, 1, 2, 0], [5, 3, 4, 2, 0, 1]]]
theorem ms6 : f_made_set 59 (1 + ((5 : Nat) : Int), ()) = .ok ml6 := by kernel_rfl
theorem mt5 (ns ds : List Int) (q : Int) (F : List S2) (s t : S2) (c6 : Option S2) : retOf (tail2 (some ns, some ds, some q, some F, some s, some t, c6, some (1 + ((5 : Nat) : Int)), some ml6, none, none, none, none, none, ())) = true := by kernel_rfl
theorem md5 (ns ds : List Int) (q : Int) (F : List S2) (s t : S2) (c6 : Option S2) : retOf (tail (some ns, some ds, some q, some F, some s, some t, c6, some (1 + ((5 : Nat) : Int)), none, none, none, none, none, none, ())) = true := (congrArg retOf (tail_at ms6)).trans (mt5 ns ds q F s t c6)
abbrev ml7 : List S2 := fsq7
theorem ms7 : f_made_set 59 (1 + ((6 : Nat) : Int), ()) = .ok ml7 := by kernel_rfl
theorem mt6 (ns ds : List Int) (q : Int) (F : List S2) (s t : S2) (c6 : Option S2) : retOf (tail2 (some ns, some ds, some q, some F, some s, some t, c6, some (1 + ((6 : Nat) : Int)), some ml7, none, none, none, none, none, ())) = true := by kernel_rfl
theorem md6 (ns ds : List Int) (q : Int) (F : List S2) (s t : S2) (c6 : Option S2) : retOf (tail (some ns, some ds, some q, some F, some s, some t, c6, some (1 + ((6 : Nat) : Int)), none, none, none, none, none, none, ())) = true := (congrArg retOf (tail_at ms7)).trans (mt6 ns ds q F s t c6)
abbrev ml8 : List S2 := fsq8
theorem ms8 : f_made_set 59 (1 + ((7 : Nat) : Int), ()) = .ok ml8 := by kernel_rfl
theorem mt7 (ns ds : List Int) (q : Int) (F : List S2) (s t : S2) (c6 : Option S2) : retOf (tail2 (some ns, some ds, some q, some F, some s, some t, c6, some (1 + ((7 : Nat) : Int)), some ml8, none, none, none, none, none, ())) = true := by kernel_rfl
theorem md7 (ns ds : List Int) (q : Int) (F : List S2) (s t : S2) (c6 : Option S2) : retOf (tail (some ns, some ds, some q, some F, some s, some t, c6, some (1 + ((7 : Nat) : Int)), none, none, none, none, none, none, ())) = true := (congrArg retOf (tail_at ms8)).trans (mt7 ns ds q F s t c6)
abbrev ml9 : List S2 := fsq9
theorem ms9 : f_made_set 59 (1 + ((8 : Nat) : Int), ()) = .ok ml9 := by kernel_rfl
theorem mt8 (ns ds : List Int) (q : Int) (F : List S2) (s t : S2) (c6 : Option S2) : retOf (tail2 (some ns, some ds, some q, some F, some s, some t, c6, some (1 + ((8 : Nat) : Int)), some ml9, none, none, none, none, none, ())) = true := by kernel_rfl
theorem md8 (ns ds : List Int) (q : Int) (F : List S2) (s t : S2) (c6 : Option S2) : retOf (tail (some ns, some ds, some q, some F, some s, some t, c6, some (1 + ((8 : Nat) : Int)), none, none, none, none, none, none, ())) = true := (congrArg retOf (tail_at ms9)).trans (mt8 ns ds q F s t c6)

theorem made {j : Nat} (h : j < 9) (ns ds : List Int) (q : Int) (F : List S2) (s t : S2) (c6 : Option S2) : ∃ v, tail (some ns, some ds, some q, some F, some s, some t, c6, some (1 + (j : Int)), none, none, none, none, none, none, ()) = .ok (.ret true, v) := by
  match j, h with
  | 0, _ => exact retOf_ok (md0 ns ds q F s t c6)
  | 1, _ => exact retOf_ok (md1 ns ds q F s t c6)
  | 2, _ => exact retOf_ok (md2 ns ds q F s t c6)
  | 3, _ => exact retOf_ok (md3 ns ds q F s t c6)
  | 4, _ => exact retOf_ok (md4 ns ds q F s t c6)
  | 5, _ => exact retOf_ok (md5 ns ds q F s t c6)
  | 6, _ => exact retOf_ok (md6 ns ds q F s t c6)
  | 7, _ => exact retOf_ok (md7 ns ds q F s t c6)
  | 8, _ => exact retOf_ok (md8 ns ds q F s t c6)

theorem law_ok (ns : List Int) (hl : ns.length ≤ 63) : f_law 60 (ns, ()) = .ok true := by
  obtain ⟨ds, e1, hd, _⟩ := draws_ok (k := 59) (by decide) ns hl 1 10 (by decide)
  have e1 : f_l_draws 59 (ns, 1, 10, ()) = .ok ds := e1
  obtain ⟨x1, ds1, u1, hd1, a0, a1⟩ := pop_ok (k := 59) (by decide) hd
  obtain ⟨x2, ds2, u2, hd2, b0, b1⟩ := pop_ok (k := 59) (by decide) hd1
  obtain ⟨x3, ds3, u3, hd3, c0, c1⟩ := pop_ok (k := 59) (by decide) hd2
  obtain ⟨x4, ds4, u4, hd4, d0, d1⟩ := pop_ok (k := 59) (by decide) hd3
  have m1 : oMod x1 7 = .ok (x1 % 7) := oMod_pos (by decide)
  obtain ⟨i, hi, hi7⟩ : ∃ i : Nat, x1 % 7 = i ∧ i < 7 := ⟨(x1 % 7).toNat, by omega, by omega⟩
  obtain ⟨q, m, F, g2, Q⟩ := fqs hi7
  rw [hi] at m1
  have q1 : q - 1 = (m : Int) := by have := Q.qm; omega
  have mpos : (0 : Int) < (m : Int) := by have := Q.m1; omega
  have m2 : oMod x2 (m : Int) = .ok (x2 % (m : Int)) := oMod_pos mpos
  have m3 : oMod x3 (m : Int) = .ok (x3 % (m : Int)) := oMod_pos mpos
  have r2 := Int.emod_nonneg x2 (show (m : Int) ≠ 0 by omega)
  have r2' := Int.emod_lt_of_pos x2 mpos
  have r3 := Int.emod_nonneg x3 (show (m : Int) ≠ 0 by omega)
  have r3' := Int.emod_lt_of_pos x3 mpos
  have lF := Q.len
  have g4 := oIx_int (xs := F) r2 (by omega)
  have g5 := oIx_int (xs := F) r3 (by omega)
  have hs : F[(x2 % (m : Int)).toNat]'(by omega) ∈ F := List.getElem_mem _
  have ht : F[(x3 % (m : Int)).toNat]'(by omega) ∈ F := List.getElem_mem _
  generalize F[(x2 % (m : Int)).toNat]'(by omega) = s at g4 hs
  generalize F[(x3 % (m : Int)).toNat]'(by omega) = t at g5 ht
  have ck := List.all_eq_true.mp (List.all_eq_true.mp Q.ck s hs) t ht
  obtain ⟨k1, k2⟩ := chkA_ok ck
  have m4 : oMod x4 9 = .ok (x4 % 9) := oMod_pos (by decide)
  obtain ⟨j, hj, hj9⟩ : ∃ j : Nat, x4 % 9 = j ∧ j < 9 := ⟨(x4 % 9).toNat, by omega, by omega⟩
  rw [hj] at m4
  have g3 := Q.fs
  obtain ⟨c6, h6⟩ : ∃ c6, t_law_6 59 ((some ns, some ds3, some q, some F, some s, some t, none, none, none, none, none, none, none, none, ()) : E_law) = .ok (.next, (some ns, some ds3, some q, some F, some s, some t, c6, none, none, none, none, none, none, none, ())) := by
    by_cases e : s = t
    · exact ⟨none, by simp -implicitDefEqProofs [t_law_6, e]⟩
    · obtain ⟨R, p1, p2, p3⟩ := chkG_ok (k1.resolve_left e)
      have cm : tComp (σ := E_law) (tN (Sl.s (Sl.s (Sl.s (Sl.s (Sl.s (Sl.s (Sl.s (Sl.s (Sl.s (Sl.s (Sl.s (Sl.s Sl.z))))))))))))) (pNot (pN (f_is_way 59) (psCons (pV (Sl.s (Sl.s (Sl.s (Sl.s Sl.z))))) (psCons (pV (Sl.s (Sl.s (Sl.s (Sl.s (Sl.s (Sl.s (Sl.s (Sl.s (Sl.s (Sl.s (Sl.s (Sl.s Sl.z))))))))))))) psNil)))) (pV (Sl.s (Sl.s (Sl.s (Sl.s (Sl.s (Sl.s (Sl.s (Sl.s (Sl.s (Sl.s (Sl.s (Sl.s Sl.z))))))))))))) (some ns, some ds3, some q, some F, some s, some t, some R, none, none, none, none, none, none, none, ()) R = .ok [] := by
        rw [tComp_filter (fun r => (some ns, some ds3, some q, some F, some s, some t, some R, none, none, none, none, none, some r, none, ())) (fun _ => false) id _ (fun _ _ => rfl) (fun r hr => ?_) (fun _ _ h => nomatch h)]
        · simp
        · have := p3 r hr
          simp -implicitDefEqProofs [this]
      exact ⟨some R, by simp -implicitDefEqProofs [t_law_6, t_law_6_t_1, t_law_6_t_2, e, p1, p2, cm]⟩
  obtain ⟨v, hv⟩ := made hj9 ns ds4 q F s t c6
  refine tDef_ret (v := v) ?_
  generalize ((i : Nat) : Int) = I at m1 g2
  generalize ((j : Nat) : Int) = J at m4 hv
  generalize ((m : Nat) : Int) = M at *
  generalize x2 % M = y2 at m2 g4
  generalize x3 % M = y3 at m3 g5
  refine (sThen_next (v' := (some ns, some ds, none, none, none, none, none, none, none, none, none, none, none, none, ())) (by simp -implicitDefEqProofs [t_law_1, e1])).trans ?_
  refine (sThen_next (v' := (some ns, some ds1, some q, none, none, none, none, none, none, none, none, none, none, none, ())) (by simp -implicitDefEqProofs [t_law_2, u1, m1, g2])).trans ?_
  refine (sThen_next (v' := (some ns, some ds1, some q, some F, none, none, none, none, none, none, none, none, none, none, ())) (by simp -implicitDefEqProofs [t_law_3, g3])).trans ?_
  refine (sThen_next (v' := (some ns, some ds2, some q, some F, some s, none, none, none, none, none, none, none, none, none, ())) (by simp -implicitDefEqProofs [t_law_4, u2, q1, m2, g4])).trans ?_
  refine (sThen_next (v' := (some ns, some ds3, some q, some F, some s, some t, none, none, none, none, none, none, none, none, ())) (by simp -implicitDefEqProofs [t_law_5, u3, q1, m3, g5])).trans ?_
  refine (sThen_next h6).trans ?_
  refine (sThen_next (v' := (some ns, some ds3, some q, some F, some s, some t, c6, none, none, none, none, none, none, none, ())) (by simp -implicitDefEqProofs [t_law_7, k2])).trans ?_
  refine (sThen_next (v' := (some ns, some ds4, some q, some F, some s, some t, c6, some (1 + J), none, none, none, none, none, none, ())) (by simp -implicitDefEqProofs [t_law_8, u4, m4])).trans ?_
  exact hv
end Lw
end

section
namespace Lw
open PySem PySem.Spec L2 Sq
theorem law_holds (ns : List Int) (hl : ns.length ≤ 63) : ∃ kk fin, m_law 60 [(.list (ns.map .int), 0)] = .ok ((.bool true, kk), fin) := law_of (l_law 60) hl (law_ok ns hl)
end Lw
end

section
open PySem PySem.W PySem.Calls PyProof.Rows
set_option maxHeartbeats 0 in
theorem PySem.Challenge.cw_squaremates_k68_whole_field_sets_holds : PySem.Challenge.rw_squaremates_k68_whole_field_sets.Holds := by
  w_on; o_law
  refine HandSHeadRun.head_any (r := OpenLaw.row PySem.Challenge.rw_squaremates_k68_whole_field_sets) (q := view (OpenLaw.row PySem.Challenge.rw_squaremates_k68_whole_field_sets).prog [32]) (H := Lw.hk) (ob := Lw.ob) (M := 4000) (loose := Lw.loose) (d := HandSHeadRun.topDef (OpenLaw.row PySem.Challenge.rw_squaremates_k68_whole_field_sets).prog 32) (kwd := []) Lw.ob_eq
    (by kernel_rfl) (fun s => by kernel_rfl) Lw.run (by kernel_rfl) (by kernel_rfl) (by kernel_rfl) (by rfl) (by first | assumption | decide +kernel) (by decide +kernel) ⟨rfl, rfl, rfl, rfl, rfl, by decide +kernel⟩ ?hw ?hc
  case hw => w_witness2
  case hc =>
    refine Sq.walk_ofG (l := PySem.Challenge.rw_squaremates_k68_whole_field_sets) (n := 63) (k := 60) (x := "_law_script") rfl (by decide) (by kernel_rfl) ⟨⟨rfl, by decide, by decide⟩, rfl⟩ ?F
    intro w mg fa h Y G hmg0
    obtain ⟨K, KX, c⟩ := Y
    have hmg : mg ("law" : PySem.Str) = some (.ref fa) := by
      have e : (HandSHeadRun.topDef (OpenLaw.row PySem.Challenge.rw_squaremates_k68_whole_field_sets).prog 32).name = ("law" : PySem.Str) := by kernel_rfl
      rw [← e]
      exact hmg0
    obtain ⟨fd, hb, hF⟩ := Lw.facts (P := (PySem.Challenge.rw_squaremates_k68_whole_field_sets).prog) (w := w) KX G hmg c
    exact ⟨K, fd, Sq.spF K 1 (Lw.m_law 60), KX, hb, fun H a ns hl _ hS => Sq.law_sp (Lw.look_n c.b) hS (Lw.law_holds ns hl), hF⟩
end
