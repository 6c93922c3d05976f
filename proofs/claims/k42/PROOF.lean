import PyProof.Rows.All
import Wide.All
import OpenK.AllK
import Wide.FinOn
import KE.KStateDown
import HandS.ForMost
import HandS.ForExc
import HandS.Flow
import HandS.Defaults
import KE.DataEq
import HandS.TupAny
import HandS.Conv
import HandS.Style
import HandS.NoneIn
import HandS.Wide
import HandS.Text
import HandS.Replace
import HandS.RaiseMore
import HandS.Small
import HandS.Sort
import HandS.SortInts
import HandS.Iter
import HandS.TryOnly
import HandS.ExcOwn
import HandS.HeadHook1
import HandS.More
import HandS.HeadHook3
import KE.GoesMore
import HandS.Ends
import Lean
import HandS.Head0
import HandS.Head1
import HandS.Head2
import HandS.HeadEnd
import HandS.HeadHook2
import HandS.HeadHook4
import HandS.Codes
import PyProof.Ascii
import PyProof.FitsInt
import PySem.Challenge.RW_ebbledger_k42_whole_digests_of_long_jour
set_option Elab.async false
set_option linter.all false
set_option maxRecDepth 100000
set_option maxHeartbeats 0
section
/-! DL: a data layer over the hand layer: values of a program's expressions as plain data (PyData), lists that one def alone changes as owned ones. -/
namespace DL
open PySem PySem.Spec PyProof.Rows L2
abbrev D := PyData
/-! ### results -/
/-- an exception: its class's name, its own fields -/
structure XC where
  cls : Str
  flds : List (Str × D) := []
/-- what a def's mirror gives: a value, an exception, or nothing that is told -/
inductive R (α : Type) : Type where
  | ok (a : α) | exc (x : XC) | bad
def R.bind {α β : Type} : R α → (α → R β) → R β
  | .ok a, f => f a
  | .exc x, _ => .exc x
  | .bad, _ => .bad
instance : Monad R where
  pure := .ok
  bind := R.bind
def R.nox {α : Type} : R α → R α
  | .exc _ => .bad
  | r => r
def R.wp {α : Type} : R α → (α → Prop) → (XC → Prop) → Prop
  | .ok a, ψ, _ => ψ a
  | .exc x, _, χ => χ x
  | .bad, _, _ => False
theorem R.wp_mono {α : Type} {r : R α} {ψ ψ' : α → Prop} {χ χ' : XC → Prop} (h : r.wp ψ χ) (h1 : ∀ a, ψ a → ψ' a) (h2 : ∀ x, χ x → χ' x) : r.wp ψ' χ' := by
  cases r with
  | ok a => exact h1 _ h
  | exc x => exact h2 _ h
  | bad => exact h
/-- .. over the contents of one list that all see (the law's state) -/
def S (α : Type) : Type := List D → R (α × List D)
def S.bind {α β : Type} (m : S α) (f : α → S β) : S β := fun s => (m s).bind fun p => f p.1 p.2
instance : Monad S where
  pure a := fun s => .ok (a, s)
  bind := S.bind
class EM (M : Type → Type) extends Monad M where
  lft : {α : Type} → R α → M α
  wp : {α : Type} → M α → (α → List D → Prop) → (XC → List D → Prop) → List D → Prop
  wp_pure : ∀ {α : Type} {a : α} {ψ χ s}, wp (pure a) ψ χ s → ψ a s
  wp_bind : ∀ {α β : Type} {m : M α} {f : α → M β} {ψ χ s}, wp (m >>= f) ψ χ s → wp m (fun a s' => wp (f a) ψ χ s') χ s
  wp_lft : ∀ {α : Type} {r : R α} {ψ χ s}, wp (lft r) ψ χ s → r.wp (fun a => ψ a s) (fun x => χ x s)
  /-- no exception is told -/
  nox : {α : Type} → M α → M α
  wp_nox : ∀ {α : Type} {m : M α} {ψ χ s}, wp (nox m) ψ χ s → wp m ψ (fun _ _ => False) s
  mono : ∀ {α : Type} {m : M α} {ψ ψ' χ χ' s}, wp m ψ χ s → (∀ a s', ψ a s' → ψ' a s') → (∀ x s', χ x s' → χ' x s') → wp m ψ' χ' s
instance : EM R where
  lft := id
  wp m ψ χ s := m.wp (fun a => ψ a s) (fun x => χ x s)
  wp_pure := id
  wp_bind {α β m f ψ χ s} := by cases m <;> exact id
  wp_lft := id
  nox := R.nox
  wp_nox {α m ψ χ s} h := by
    cases m with
    | ok a => exact h
    | exc x => exact h.elim
    | bad => exact h.elim
  mono h h1 h2 := R.wp_mono h (fun a => h1 a _) fun x => h2 x _
instance : EM S where
  lft r := fun s => r.bind fun a => .ok (a, s)
  wp m ψ χ s := (m s).wp (fun p => ψ p.1 p.2) (fun x => ∀ s', χ x s')
  wp_pure := id
  wp_bind {α β m f ψ χ s} := by
    show ((m s).bind fun p => f p.1 p.2).wp _ _ → (m s).wp _ _
    cases m s <;> exact id
  wp_lft {α r ψ χ s} := by
    cases r with
    | ok a => exact id
    | exc x => exact fun h => h s
    | bad => exact id
  nox m := fun s => (m s).nox
  wp_nox {α m ψ χ s} h := by
    revert h
    show ((m s).nox).wp _ _ → (m s).wp _ _
    cases m s with
    | ok a => exact id
    | exc x => exact False.elim
    | bad => exact False.elim
  mono h h1 h2 := R.wp_mono h (fun p => h1 _ _) fun x h s' => h2 _ _ (h s')
abbrev lft {M : Type → Type} [EM M] {α : Type} (r : R α) : M α := EM.lft r

/-! ### pairs of lists with footprints -/
inductive All3 {α β : Type} (P : α → β → List Addr → Prop) : List α → List β → List Addr → Prop where
  | nil : All3 P [] [] []
  | cons {x : α} {y : β} {xs : List α} {ys : List β} {fp fps : List Addr} : P x y fp → All3 P xs ys fps → All3 P (x :: xs) (y :: ys) (fp ++ fps)
namespace All3
variable {α β : Type} {P P' : α → β → List Addr → Prop}
theorem length : ∀ {xs : List α} {ys : List β} {fps : List Addr}, All3 P xs ys fps → xs.length = ys.length
  | _, _, _, .nil => rfl
  | _, _, _, .cons _ t => congrArg (· + 1) (length t)
theorem mono : ∀ {xs : List α} {ys : List β} {fps : List Addr}, All3 P xs ys fps → (∀ x y fp, P x y fp → (∀ a ∈ fp, a ∈ fps) → P' x y fp) → All3 P' xs ys fps
  | _, _, _, .nil, _ => .nil
  | _, _, _, .cons p t, h => .cons (h _ _ _ p fun a ha => List.mem_append_left _ ha) (mono t fun x y fp q k => h x y fp q fun a ha => List.mem_append_right _ (k a ha))
theorem mem : ∀ {xs : List α} {ys : List β} {fps : List Addr} {a : Addr}, All3 P xs ys fps → a ∈ fps → ∃ x y fp, P x y fp ∧ a ∈ fp
  | _, _, _, _, .nil, h => nomatch h
  | _, _, _, _, .cons p t, h => (List.mem_append.mp h).elim (fun z => ⟨_, _, _, p, z⟩) fun z => mem t z
theorem at_ : ∀ {xs : List α} {ys : List β} {fps : List Addr} {i : Nat} {x : α}, All3 P xs ys fps → xs[i]? = some x →
    ∃ y fp pre post, ys[i]? = some y ∧ P x y fp ∧ fps = pre ++ fp ++ post ∧ ∀ (Z : α → β → List Addr → Prop), (∀ x y fp, P x y fp → (∀ a ∈ fp, a ∈ pre ∨ a ∈ post) → Z x y fp) → ∀ x' y' fp', Z x' y' fp' → All3 Z (xs.set i x') (ys.set i y') (pre ++ fp' ++ post)
  | _, _, _, _, _, .nil, h => by simp at h
  | _, _, _, 0, _, @All3.cons _ _ _ x y xs ys fp fps p t, h => by
    have e := Option.some.inj h
    subst e
    exact ⟨_, fp, [], fps, rfl, p, rfl, fun Z hz x' y' fp' p' => by simpa using All3.cons p' (t.mono fun x y fp q k => hz x y fp q fun a ha => .inr (k a ha))⟩
  | _, _, _, i + 1, _, @All3.cons _ _ _ x y xs ys fp fps p t, h => by
    obtain ⟨y', fp', pre, post, e1, p', e2, k⟩ := at_ (i := i) t h
    exact ⟨y', fp', fp ++ pre, post, e1, p', by rw [e2]; simp [List.append_assoc], fun Z hz x2 y2 fp2 p2 => by
      have z := All3.cons (hz _ _ _ p fun a ha => .inl (List.mem_append_left _ ha)) (k Z (fun x y fp q k => hz x y fp q fun a ha => (k a ha).elim (fun z => .inl (List.mem_append_right _ z)) .inr) x2 y2 fp2 p2)
      simpa [List.append_assoc] using z⟩
theorem get2 : ∀ {xs : List α} {ys : List β} {fps : List Addr} {i : Nat} {y : β}, All3 P xs ys fps → ys[i]? = some y → ∃ x fp, xs[i]? = some x ∧ P x y fp ∧ ∀ a ∈ fp, a ∈ fps
  | _, _, _, _, _, .nil, h => by simp at h
  | _, _, _, 0, _, @All3.cons _ _ _ x y xs ys fp fps p t, h => by
    have e := Option.some.inj h
    subst e
    exact ⟨_, _, rfl, p, fun a ha => List.mem_append_left _ ha⟩
  | _, _, _, i + 1, _, @All3.cons _ _ _ x y xs ys fp fps p t, h => by
    obtain ⟨x', fp', e1, p', k⟩ := get2 (i := i) t h
    exact ⟨x', fp', e1, p', fun a ha => List.mem_append_right _ (k a ha)⟩
end All3

/-! ### data in a heap -/
section
variable {K : PySem.W.Frag} {F F' H H' : Hp}
theorem SqLmono {a : Addr} {xs : List V} (h : SqL K H a xs) (k : ∀ o, H a = some o → H' a = some o) : SqL K H' a xs := by
  rcases h with (h | ⟨o, h⟩) | h
  · exact .inl (.inl (k _ h))
  · exact .inl (.inr ⟨o, k _ h⟩)
  · exact .inr h
theorem SqTmono {a : Addr} {xs : List V} (h : SqT K H a xs) (k : ∀ o, H a = some o → H' a = some o) : SqT K H' a xs := by
  rcases h with (h | ⟨o, h⟩) | h
  · exact .inl (.inl (k _ h))
  · exact .inl (.inr ⟨o, k _ h⟩)
  · exact .inr h
mutual
theorem Dpm (k : Same H H') : ∀ {v : V} {d : D}, Dp K H v d → Dp K H' v d
  | _, _, .non => .non
  | _, _, .bl b => .bl b
  | _, _, .int i => .int i
  | _, _, .str x => .str x
  | _, _, .lst h r => .lst (SqLmono h fun o e => k _ _ e) (DpmAll k r)
  | _, _, .tup h r => .tup (SqTmono h fun o e => k _ _ e) (DpmAll k r)
theorem DpmAll (k : Same H H') : ∀ {vs : List V} {ds : List D}, DpAll K H vs ds → DpAll K H' vs ds
  | _, _, .nil => .nil
  | _, _, .cons h t => .cons (Dpm k h) (DpmAll k t)
end
end
end DL
end
section
namespace DL
open PySem PySem.Spec PyProof.Rows L2
/-! ### views and owned lists -/
/-- a key as data -/
def keyD : Key → D
  | .inl i => .int i
  | .inr x => .str x
/-- how a value stands: seen to a depth of lists (0: shared, never changed), owned to a depth, a dict seen, a dict owned -/
inductive Kd where
  | vw (n : Nat) | ow (n : Nat) | dv | dw
/-- how it is read -/
def Kd.see : Kd → Kd
  | .vw n => .vw n
  | .ow n => .vw n
  | .dv => .dv
  | .dw => .dv
inductive Slot where
  | any | val (k : Kd) (d : D) | am | lent (v : V) (n : Nat) (d : D)
section
variable (K : PySem.W.Frag) (a0 : Option Addr)
abbrev DRep (F : Hp) : List (Key × V) → List (D × D) → Prop := Paired fun (p : Key × V) (q : D × D) => q.1 = keyD p.1 ∧ Dp K F p.2 q.2
def View (F H : Hp) : Nat → V → D → Prop
  | 0, v, d => Dp K F v d
  | n + 1, v, d => Dp K F v d ∨ ∃ a vs ds, v = .ref a ∧ d = .list ds ∧ SqL K H a vs ∧ a0 ≠ some a ∧ Paired (View F H n) vs ds
def ViewD (F H : Hp) (v : V) (d : D) : Prop := ∃ a kvs kds, v = .ref a ∧ d = .dict kds ∧ H a = some (.dK kvs) ∧ a0 ≠ some a ∧ DRep K F kvs kds
def Own (F H : Hp) : Nat → V → D → List Addr → Prop
  | 0, v, d, fp => fp = [] ∧ Dp K F v d
  | n + 1, v, d, fp => ∃ a vs ds fps, v = .ref a ∧ d = .list ds ∧ H a = some (.lst vs) ∧ All3 (Own F H n) vs ds fps ∧ fp = a :: fps
def OwnD (F H : Hp) (v : V) (d : D) (fp : List Addr) : Prop := ∃ a kvs kds, v = .ref a ∧ d = .dict kds ∧ H a = some (.dK kvs) ∧ DRep K F kvs kds ∧ fp = [a]
end
section
variable {K : PySem.W.Frag} {a0 : Option Addr} {F F' H H' : Hp}
theorem pmono {α β : Type} {P P' : α → β → Prop} (h : ∀ a b, P a b → P' a b) : ∀ {xs : List α} {ys : List β}, Paired P xs ys → Paired P' xs ys
  | _, _, .nil => .nil
  | _, _, .cons p t => .cons (h _ _ p) (pmono h t)
theorem DRep.mono (k : Same F F') {kvs : List (Key × V)} {kds : List (D × D)} (r : DRep K F kvs kds) : DRep K F' kvs kds := pmono (fun _ _ z => ⟨z.1, Dpm k z.2⟩) r
theorem View.mono (k : Same F F') (k2 : ∀ a o, a0 ≠ some a → H a = some o → H' a = some o) : ∀ {n : Nat} {v : V} {d : D}, View K a0 F H n v d → View K a0 F' H' n v d
  | 0, _, _, h => Dpm k h
  | n + 1, _, _, .inl h => .inl (Dpm k h)
  | n + 1, _, _, .inr ⟨a, vs, ds, e1, e2, h, na, p⟩ => .inr ⟨a, vs, ds, e1, e2, SqLmono h fun o => k2 a o na, na, pmono (fun _ _ z => View.mono k k2 z) p⟩
theorem View.none : ∀ {n : Nat} {v : V} {d : D}, View K a0 F H n v d → View K none F H n v d
  | 0, _, _, h => h
  | n + 1, _, _, .inl h => .inl h
  | n + 1, _, _, .inr ⟨a, vs, ds, e1, e2, h, na, p⟩ => .inr ⟨a, vs, ds, e1, e2, h, (fun z => nomatch z), pmono (fun _ _ z => View.none z) p⟩
theorem View.up : ∀ {n : Nat} {v : V} {d : D}, View K a0 F H n v d → View K a0 F H (n + 1) v d
  | 0, _, _, h => .inl h
  | n + 1, _, _, .inl h => .inl h
  | n + 1, _, _, .inr ⟨a, vs, ds, e1, e2, h, na, p⟩ => .inr ⟨a, vs, ds, e1, e2, h, na, pmono (fun _ _ z => View.up z) p⟩
theorem Dpm_all : ∀ {vs : List V} {ds : List D}, DpAll K H vs ds ↔ Paired (Dp K H) vs ds
  | [], [] => ⟨fun _ => .nil, fun _ => .nil⟩
  | [], _ :: _ => ⟨(fun h => nomatch h), (fun h => nomatch h)⟩
  | _ :: _, [] => ⟨(fun h => nomatch h), (fun h => nomatch h)⟩
  | _ :: _, _ :: _ => ⟨fun h => by cases h with | cons a b => exact .cons a (Dpm_all.mp b), fun h => by cases h with | cons a b => exact .cons a (Dpm_all.mpr b)⟩
/-- a view is data of the whole heap -/
theorem View.dp (k : Same F H) : ∀ {n : Nat} {v : V} {d : D}, View K a0 F H n v d → Dp K H v d
  | 0, _, _, h => Dpm k h
  | n + 1, _, _, .inl h => Dpm k h
  | n + 1, _, _, .inr ⟨a, vs, ds, e1, e2, h, na, p⟩ => by
    subst e1 e2
    exact .lst h (Dpm_all.mpr (pmono (fun _ _ z => View.dp k z) p))
theorem ViewD.mono (k : Same F F') (k2 : ∀ a o, a0 ≠ some a → H a = some o → H' a = some o) {v : V} {d : D} : ViewD K a0 F H v d → ViewD K a0 F' H' v d
  | ⟨a, kvs, kds, e1, e2, h, na, p⟩ => ⟨a, kvs, kds, e1, e2, k2 a _ na h, na, p.mono k⟩
theorem ViewD.none {v : V} {d : D} : ViewD K a0 F H v d → ViewD K none F H v d
  | ⟨a, kvs, kds, e1, e2, h, na, p⟩ => ⟨a, kvs, kds, e1, e2, h, (fun z => nomatch z), p⟩
theorem Own.there : ∀ {n : Nat} {v : V} {d : D} {fp : List Addr}, Own K F H n v d fp → ∀ a ∈ fp, ∃ o, H a = some o
  | 0, _, _, _, ⟨e, _⟩, a, ha => by rw [e] at ha; cases ha
  | n + 1, _, _, _, ⟨b, vs, ds, fps, e1, e2, h, p, e3⟩, a, ha => by
    subst e3
    rcases List.mem_cons.mp ha with z | z
    · exact ⟨_, z ▸ h⟩
    · obtain ⟨x, y, fp, q, hq⟩ := p.mem z
      exact Own.there q a hq
theorem Own.mono (k : Same F F') : ∀ {n : Nat} {v : V} {d : D} {fp : List Addr}, Own K F H n v d fp → (∀ a ∈ fp, H' a = H a) → Own K F' H' n v d fp
  | 0, _, _, _, ⟨e, h⟩, _ => ⟨e, Dpm k h⟩
  | n + 1, _, _, _, ⟨b, vs, ds, fps, e1, e2, h, p, e3⟩, k2 => by
    subst e3
    exact ⟨b, vs, ds, fps, e1, e2, (k2 b List.mem_cons_self).trans h, p.mono fun x y fp q hq => Own.mono k q fun a ha => k2 a (List.mem_cons_of_mem _ (hq a ha)), rfl⟩
theorem OwnD.mono (k : Same F F') {v : V} {d : D} {fp : List Addr} : OwnD K F H v d fp → (∀ a ∈ fp, H' a = H a) → OwnD K F' H' v d fp
  | ⟨a, kvs, kds, e1, e2, h, p, e3⟩, k2 => by
    subst e3
    exact ⟨a, kvs, kds, e1, e2, (k2 a List.mem_cons_self).trans h, p.mono k, rfl⟩
theorem OwnD.there {v : V} {d : D} {fp : List Addr} : OwnD K F H v d fp → ∀ a ∈ fp, ∃ o, H a = some o
  | ⟨b, kvs, kds, e1, e2, h, p, e3⟩, a, ha => by
    subst e3
    have e : a = b := by simpa using ha
    exact ⟨_, e ▸ h⟩
theorem All3.paired {α β : Type} {P : α → β → List Addr → Prop} {P' : α → β → Prop} : ∀ {xs : List α} {ys : List β} {fps : List Addr}, All3 P xs ys fps → (∀ x y fp, P x y fp → (∀ a ∈ fp, a ∈ fps) → P' x y) → Paired P' xs ys
  | _, _, _, .nil, _ => .nil
  | _, _, _, .cons p t, h => .cons (h _ _ _ p fun a ha => List.mem_append_left _ ha) (paired t fun x y fp q k => h x y fp q fun a ha => List.mem_append_right _ (k a ha))
theorem Own.view : ∀ {n : Nat} {v : V} {d : D} {fp : List Addr}, Own K F H n v d fp → (∀ a ∈ fp, a0 ≠ some a) → View K a0 F H n v d
  | 0, _, _, _, ⟨_, h⟩, _ => h
  | n + 1, _, _, _, ⟨b, vs, ds, fps, e1, e2, h, p, e3⟩, k => by
    subst e3
    exact .inr ⟨b, vs, ds, e1, e2, .of h, k b List.mem_cons_self, p.paired fun x y fp q hq => Own.view q fun a ha => k a (List.mem_cons_of_mem _ (hq a ha))⟩
theorem OwnD.view {v : V} {d : D} {fp : List Addr} : OwnD K F H v d fp → (∀ a ∈ fp, a0 ≠ some a) → ViewD K a0 F H v d
  | ⟨b, kvs, kds, e1, e2, h, p, e3⟩, k => ⟨b, kvs, kds, e1, e2, h, k b (by rw [e3]; exact List.mem_cons_self), p⟩
/-- what is owned becomes shared -/
theorem Own.freeze (k : Same F F') : ∀ {n : Nat} {v : V} {d : D} {fp : List Addr}, Own K F H n v d fp → (∀ a ∈ fp, F' a = H a) → Dp K F' v d
  | 0, _, _, _, ⟨_, h⟩, _ => Dpm k h
  | n + 1, _, _, _, ⟨b, vs, ds, fps, e1, e2, h, p, e3⟩, k2 => by
    subst e1 e2 e3
    exact .lst (.of ((k2 b List.mem_cons_self).trans h)) (Dpm_all.mpr (p.paired fun x y fp q hq => Own.freeze k q fun a ha => k2 a (List.mem_cons_of_mem _ (hq a ha))))
end
/-! ### the state of a def -/
/-- the caller's heap that stands still, what of it is shared data, the address of the list that all see -/
structure Base where
  G : Hp
  F0 : Hp
  a0 : Option Addr
/-- all that was there at the start -/
def Base.top (B : Base) : Hp := fun b => if B.a0 = some b then some (.lst []) else B.G b
def AmbOk (K : PySem.W.Frag) (B : Base) (F H : Hp) (s : List D) : Prop :=
  match B.a0 with
  | none => True
  | some a => (∃ vs, H a = some (.lst vs) ∧ DpAll K F vs s) ∧ F a = none ∧ B.G a = none
def SlotOk (K : PySem.W.Frag) (B : Base) (F H : Hp) : Slot → Option V → List Addr → Prop
  | .any, _, fp => fp = []
  | .am, o, fp => fp = [] ∧ ∃ a, B.a0 = some a ∧ o = some (.ref a)
  | .val (.vw n) d, o, fp => fp = [] ∧ ∃ v, o = some v ∧ View K B.a0 F B.G n v d
  | .val (.ow n) d, o, fp => ∃ v, o = some v ∧ Own K F H n v d fp
  | .val .dv d, o, fp => fp = [] ∧ ∃ v, o = some v ∧ ViewD K B.a0 F B.G v d
  | .val .dw d, o, fp => ∃ v, o = some v ∧ OwnD K F H v d fp
  | .lent v n d, o, fp => fp = [] ∧ o = some v ∧ View K B.a0 F B.G n v d
/-- no object is beyond the line -/
def LenO : HO → Prop
  | .lst xs => xs.length ≤ sizeLine
  | .tup xs => xs.length ≤ sizeLine
  | .dK kvs => kvs.length ≤ sizeLine
  | .frz _ u => LenO u
  | _ => True
def LenOk (H : Hp) : Prop := ∀ a o, H a = some o → LenO o
theorem LenOk.upd {H : Hp} {p : Addr} {o : HO} (h : LenOk H) (ho : LenO o) : LenOk (upd H p o) := fun a u e => by
  by_cases q : a = p
  · subst q
    rw [upd_same] at e
    cases e
    exact ho
  · rw [upd_ne q] at e
    exact h a u e
theorem LenOk.lst {K : PySem.W.Frag} {H : Hp} {a : Addr} {xs : List V} (h : LenOk H) (s : SqL K H a xs) : xs.length ≤ sizeLine := by
  rcases s with (s | ⟨o, s⟩) | ⟨o, its, n, _, _, _, _, hz, r⟩
  · exact h a _ s
  · exact h a _ s
  · have := r.length
    simp only [Array.length_toList] at this
    omega
theorem LenOk.tup {K : PySem.W.Frag} {H : Hp} {a : Addr} {xs : List V} (h : LenOk H) (s : SqT K H a xs) : xs.length ≤ sizeLine := by
  rcases s with (s | ⟨o, s⟩) | ⟨o, its, n, _, _, _, hz, r⟩
  · exact h a _ s
  · exact h a _ s
  · have := r.length
    simp only [Array.length_toList] at this
    omega
structure SI (K : PySem.W.Frag) (B : Base) (ρ : List Slot) (σ : List (Option V)) (H F : Hp) (s : List D) : Prop where
  fh : Same F H
  f0 : Same B.F0 F
  gh : Same B.G H
  nw : ∀ a o, F a = some o → (∃ o', B.F0 a = some o') ∨ B.G a = none
  am : AmbOk K B F H s
  ln : LenOk H
  sl : ∃ fps, All3 (SlotOk K B F H) ρ σ fps ∧ fps.Nodup ∧ ∀ a ∈ fps, F a = none ∧ B.G a = none ∧ B.a0 ≠ some a
/-- an expression's step -/
structure Step (K : PySem.W.Frag) (B : Base) (F H F' H' : Hp) (s' : List D) : Prop where
  ff : Same F F'
  fh : Same F' H'
  hh : ∀ a o, B.a0 ≠ some a → H a = some o → H' a = some o
  nw : ∀ a o, F' a = some o → (∃ o', F a = some o') ∨ H a = none
  am : AmbOk K B F' H' s'
  ln : LenOk H'
section
variable {K : PySem.W.Frag} {B : Base} {ρ : List Slot} {σ : List (Option V)} {F F' F'' H H' H'' : Hp} {s s' s'' : List D}
theorem AmbOk.there (h : AmbOk K B F H s) {a : Addr} (e : B.a0 = some a) : ∃ o, H a = some o := by
  unfold AmbOk at h
  rw [e] at h
  obtain ⟨⟨vs, h, _⟩, _⟩ := h
  exact ⟨_, h⟩
theorem AmbOk.noG (h : AmbOk K B F H s) {a : Addr} (e : B.a0 = some a) : B.G a = none := by
  unfold AmbOk at h
  rw [e] at h
  exact h.2.2
theorem AmbOk.noF (h : AmbOk K B F H s) {a : Addr} (e : B.a0 = some a) : F a = none := by
  unfold AmbOk at h
  rw [e] at h
  exact h.2.1
theorem SlotOk.there : ∀ {x : Slot} {o : Option V} {fp : List Addr}, SlotOk K B F H x o fp → ∀ a ∈ fp, ∃ o, H a = some o
  | .any, _, _, h, a, ha => by rw [show _ = [] from h] at ha; cases ha
  | .am, _, _, ⟨h, _⟩, a, ha => by rw [h] at ha; cases ha
  | .val (.vw n) d, _, _, ⟨h, _⟩, a, ha => by rw [h] at ha; cases ha
  | .val (.ow n) d, _, _, ⟨_, _, h⟩, a, ha => h.there a ha
  | .val .dv d, _, _, ⟨h, _⟩, a, ha => by rw [h] at ha; cases ha
  | .val .dw d, _, _, ⟨_, _, h⟩, a, ha => h.there a ha
  | .lent v n d, _, _, ⟨h, _⟩, a, ha => by rw [h] at ha; cases ha
theorem SlotOk.mono (k : Same F F') : ∀ {x : Slot} {o : Option V} {fp : List Addr}, SlotOk K B F H x o fp → (∀ a ∈ fp, H' a = H a) → SlotOk K B F' H' x o fp
  | .any, _, _, h, _ => h
  | .am, _, _, h, _ => h
  | .val (.vw n) d, _, _, ⟨h, v, e, z⟩, _ => ⟨h, v, e, z.mono k fun _ _ _ q => q⟩
  | .val (.ow n) d, _, _, ⟨v, e, h⟩, k2 => ⟨v, e, h.mono k k2⟩
  | .val .dv d, _, _, ⟨h, v, e, z⟩, _ => ⟨h, v, e, z.mono k fun _ _ _ q => q⟩
  | .val .dw d, _, _, ⟨v, e, h⟩, k2 => ⟨v, e, h.mono k k2⟩
  | .lent v n d, _, _, ⟨h, e, z⟩, _ => ⟨h, e, z.mono k fun _ _ _ q => q⟩
theorem SI.refl (I : SI K B ρ σ H F s) : Step K B F H F H s := ⟨fun _ _ h => h, I.fh, fun _ _ _ h => h, fun _ o h => .inl ⟨o, h⟩, I.am, I.ln⟩
theorem Step.gh (st : Step K B F H F' H' s') (am : AmbOk K B F H s) (g : Same B.G H) : Same B.G H' := fun a o e => st.hh a o (fun z => by rw [am.noG z] at e; cases e) (g a o e)
theorem SI.step (I : SI K B ρ σ H F s) (st : Step K B F H F' H' s') : SI K B ρ σ H' F' s' := by
  obtain ⟨fps, al, nd, k⟩ := I.sl
  have gn : ∀ a, H a = none → B.G a = none := fun a e => by
    cases q : B.G a with
    | none => rfl
    | some o => rw [I.gh a o q] at e; cases e
  have th : ∀ a ∈ fps, ∃ o, H a = some o := fun a ha => by
    obtain ⟨x, y, fp, p, hp⟩ := al.mem ha
    exact p.there a hp
  have eq : ∀ a ∈ fps, H' a = H a := fun a ha => by
    obtain ⟨o, e⟩ := th a ha
    rw [e]
    exact st.hh a o (k a ha).2.2 e
  refine ⟨st.fh, fun a o e => st.ff a o (I.f0 a o e), st.gh I.am I.gh, fun a o e => ?_, st.am, st.ln, fps, al.mono fun x y fp p hp => p.mono st.ff fun a ha => eq a (hp a ha), nd, fun a ha => ⟨?_, (k a ha).2⟩⟩
  · rcases st.nw a o e with ⟨o', z⟩ | z
    · exact I.nw a o' z
    · exact .inr (gn a z)
  · cases q : F' a with
    | none => rfl
    | some o =>
      rcases st.nw a o q with ⟨o', z⟩ | z
      · rw [(k a ha).1] at z; cases z
      · obtain ⟨o', e⟩ := th a ha
        rw [e] at z; cases z
theorem Step.trans (a : Step K B F H F' H' s') (b : Step K B F' H' F'' H'' s'') : Step K B F H F'' H'' s'' := by
  refine ⟨fun x o e => b.ff x o (a.ff x o e), b.fh, fun x o n e => b.hh x o n (a.hh x o n e), fun x o e => ?_, b.am, b.ln⟩
  rcases b.nw x o e with ⟨o', z⟩ | z
  · exact a.nw x o' z
  · refine .inr ?_
    cases q : H x with
    | none => rfl
    | some u =>
      by_cases n : B.a0 = some x
      · obtain ⟨o', e'⟩ := a.am.there n
        rw [z] at e'; cases e'
      · rw [a.hh x u n q] at z; cases z
end
/-! ### what an expression gives -/
def Res (K : PySem.W.Frag) (B : Base) (F H : Hp) (tp : Hp) : Kd → V → D → Prop
  | .vw n, v, d => View K B.a0 F H n v d
  | .ow n, v, d => ∃ fp, Own K F H n v d fp ∧ fp.Nodup ∧ ∀ a ∈ fp, tp a = none ∧ F a = none
  | .dv, v, d => ViewD K B.a0 F H v d
  | .dw, v, d => ∃ fp, OwnD K F H v d fp ∧ fp.Nodup ∧ ∀ a ∈ fp, tp a = none ∧ F a = none
section
variable {K : PySem.W.Frag} {B : Base} {ρ : List Slot} {σ : List (Option V)} {F F' F'' H H' H'' tp tq : Hp} {s s' s'' : List D} {v : V} {d : D}
/-- a result outlasts a further step -/
theorem Res.step {k : Kd} (r : Res K B F H tp k v d) (am : AmbOk K B F H s) (st : Step K B F H F' H' s') (ht : ∀ a, B.a0 = some a → ∃ o, tp a = some o) : Res K B F' H' tp k v d := by
  have key : ∀ fp : List Addr, (∀ a ∈ fp, ∃ o, H a = some o) → (∀ a ∈ fp, tp a = none ∧ F a = none) → (∀ a ∈ fp, H' a = H a) ∧ ∀ a ∈ fp, tp a = none ∧ F' a = none := fun fp th k => by
    refine ⟨fun a ha => ?_, fun a ha => ⟨(k a ha).1, ?_⟩⟩
    · obtain ⟨o, e⟩ := th a ha
      rw [e]
      exact st.hh a o (fun z => by obtain ⟨u, q⟩ := ht a z; rw [(k a ha).1] at q; cases q) e
    · cases q : F' a with
      | none => rfl
      | some o =>
        rcases st.nw a o q with ⟨o', z⟩ | z
        · rw [(k a ha).2] at z; cases z
        · obtain ⟨o', e⟩ := th a ha
          rw [e] at z; cases z
  cases k with
  | vw n => exact View.mono st.ff st.hh r
  | dv => exact ViewD.mono st.ff st.hh r
  | ow n =>
    obtain ⟨fp, o, nd, k⟩ := r
    obtain ⟨k1, k2⟩ := key fp o.there k
    exact ⟨fp, o.mono st.ff k1, nd, k2⟩
  | dw =>
    obtain ⟨fp, o, nd, k⟩ := r
    obtain ⟨k1, k2⟩ := key fp o.there k
    exact ⟨fp, o.mono st.ff k1, nd, k2⟩
theorem Res.top {k : Kd} (r : Res K B F H tp k v d) (h : ∀ a, tp a = none → tq a = none) : Res K B F H tq k v d := by
  cases k with
  | vw n => exact r
  | dv => exact r
  | ow n =>
    obtain ⟨fp, o, nd, k⟩ := r
    exact ⟨fp, o, nd, fun a ha => ⟨h a (k a ha).1, (k a ha).2⟩⟩
  | dw =>
    obtain ⟨fp, o, nd, k⟩ := r
    exact ⟨fp, o, nd, fun a ha => ⟨h a (k a ha).1, (k a ha).2⟩⟩
/-- seen -/
theorem Res.see {k : Kd} (r : Res K B F H tp k v d) (ht : ∀ a, B.a0 = some a → ∃ o, tp a = some o) : Res K B F H tp k.see v d := by
  cases k with
  | vw n => exact r
  | dv => exact r
  | ow n =>
    obtain ⟨fp, o, nd, k⟩ := r
    exact o.view fun a ha z => by obtain ⟨u, q⟩ := ht a z; rw [(k a ha).1] at q; cases q
  | dw =>
    obtain ⟨fp, o, nd, k⟩ := r
    exact o.view fun a ha z => by obtain ⟨u, q⟩ := ht a z; rw [(k a ha).1] at q; cases q
end
end DL
end
section
namespace DL
open PySem PySem.Spec PyProof.Rows L2
/-! ### the static part of a def -/
structure Cst where
  P : Program
  w : World
  K : PySem.W.Frag
  mg : Str → Option Value
  base : Heap
structure Tx extends Cst where
  N : List Str
  sc : Scope
  fn : Str → Bool
  k : Nat
  nd : N.Nodup
structure Fits (T : Tx) (X : Cx) : Prop where
  prog : X.prog = T.P
  w : X.w = T.w
  K : X.K = T.K
  mg : X.mg = T.mg
  base : X.base = T.base
  N : X.N = T.N
  sc : X.env.scope = T.sc
  fn : X.fn = T.fn
  calm : X.calm = true
  room : Room T.k X.A
/-- .. where statements stand -/
structure FitS (T : Tx) (X : Cx) : Prop extends Fits T X where
  own : PassesOwn (model X.prog X.w) X.A X.env X.xe
  st : X.stack = X.env :: X.outer
  fr : X.env.frame = some X.env.locals
/-- an exception as it flies -/
def XR (T : Cst) (F H : Hp) (x : XC) (cls : Value) (dd : Option Addr) : Prop := ∃ C, T.mg x.cls = some (.ref C) ∧ cls = .ref C ∧
  match x.flds with
  | [] => dd = none
  | _ => ∃ d fs, dd = some d ∧ H d = some (.xd fs) ∧ Paired (fun (p : Str × V) (q : Str × D) => p.1 = q.1 ∧ Dp T.K F p.2 q.2) fs x.flds
section
variable {M : Type → Type} [EM M]
/-- the wish of an expression's value -/
abbrev Want (T : Cst) (B : Base) (F H : Hp) (k : Kd) (Q : VK) : D → List D → Prop := fun d s' => ∀ v F' H', Step T.K B F H F' H' s' → Res T.K B F' H' H k v d → Q v H'
abbrev WantX (T : Cst) (B : Base) (F H : Hp) (W : WX) (σ : L2.St) : XC → List D → Prop := fun x s' => ∀ cls dd F' H', Step T.K B F H F' H' s' → XR T F' H' x cls dd → W cls dd σ H'
/-- e gives, in the slots ρ, what m tells -/
def ED (T : Tx) (W : WX) (ρ : List Slot) (e : Expr) (k : Kd) (m : M D) : Prop :=
  ∃ te : TE, (∀ X, Fits T X → Takes X W → PE X e te) ∧ ∀ (B : Base) (σ : L2.St) (H F : Hp) (s : List D) (Q : VK), SI T.K B ρ σ H F s → EM.wp m (Want T.toCst B F H k Q) (WantX T.toCst B F H W σ) s → te σ H Q
/-- a test -/
def TD (T : Tx) (W : WX) (ρ : List Slot) (e : Expr) (m : M Bool) : Prop :=
  ∃ te : TT, (∀ X, Fits T X → Takes X W → PT X e te) ∧ ∀ (B : Base) (σ : L2.St) (H F : Hp) (s : List D) (Q : Bool → Hp → Prop), SI T.K B ρ σ H F s → EM.wp m (fun c s' => ∀ F' H', Step T.K B F H F' H' s' → Q c H') (WantX T.toCst B F H W σ) s → te σ H Q
inductive Kp where
  | p (k : Kd) | am
def ArgOk (K : PySem.W.Frag) (B : Base) (F H : Hp) : Kp → V → D → Prop
  | .p (.vw n), v, d => View K B.a0 F H n v d
  | .p .dv, v, d => ViewD K B.a0 F H v d
  | .am, v, _ => ∃ a, B.a0 = some a ∧ v = .ref a
  | _, _, _ => False
inductive Args (K : PySem.W.Frag) (B : Base) (F H : Hp) : List Kp → List V → List D → Prop where
  | nil : Args K B F H [] [] []
  | cons {k : Kp} {v : V} {d : D} {ks : List Kp} {vs : List V} {ds : List D} : ArgOk K B F H k v d → Args K B F H ks vs ds → Args K B F H (k :: ks) (v :: vs) (d :: ds)
/-- arguments, from the left; κ what is done with them -/
def AD (T : Tx) (W : WX) (ρ : List Slot) (es : List Expr) (ks : List Kp) {α : Type} (κ : (List D → M α) → M α) : Prop :=
  ∃ ta : TA, (∀ X, Fits T X → Takes X W → PA X es ta) ∧ ∀ (B : Base) (σ : L2.St) (H F : Hp) (s : List D) (Q : List V → Hp → Prop) (f : List D → M α) (ψ : α → List D → Prop), SI T.K B ρ σ H F s → EM.wp (κ f) ψ (WantX T.toCst B F H W σ) s →
    (∀ ds s' vs F' H', Step T.K B F H F' H' s' → EM.wp (f ds) ψ (WantX T.toCst B F' H' W σ) s' → Args T.K B F' H' ks vs ds → Q vs H') → ta σ H Q
end
/-! ### slots -/
section
variable {K : PySem.W.Frag} {B : Base} {ρ : List Slot} {σ : List (Option V)} {F F' F'' H H' H'' : Hp} {s s' s'' : List D} {v : V} {d : D}
theorem amTop (am : AmbOk K B F H s) : ∀ a, B.a0 = some a → ∃ o, H a = some o := fun a e => am.there e
/-- a slot is read -/
theorem SI.get (I : SI K B ρ σ H F s) {i : Nat} {k : Kd} (h : ρ[i]? = some (.val k d)) : ∃ v, σ[i]? = some (some v) ∧ Res K B F H H k.see v d := by
  obtain ⟨fps, al, nd, kk⟩ := I.sl
  obtain ⟨y, fp, pre, post, e1, p, e2, _⟩ := al.at_ h
  have hfp : ∀ a ∈ fp, B.a0 ≠ some a := fun a ha => (kk a (by rw [e2]; simp [ha])).2.2
  cases k with
  | vw n =>
    obtain ⟨_, v, e, z⟩ := p
    exact ⟨v, by rw [e1, e], z.mono (fun _ _ q => q) fun a o _ q => I.gh a o q⟩
  | dv =>
    obtain ⟨_, v, e, z⟩ := p
    exact ⟨v, by rw [e1, e], z.mono (fun _ _ q => q) fun a o _ q => I.gh a o q⟩
  | ow n =>
    obtain ⟨v, e, z⟩ := p
    exact ⟨v, by rw [e1, e], z.view hfp⟩
  | dw =>
    obtain ⟨v, e, z⟩ := p
    exact ⟨v, by rw [e1, e], z.view hfp⟩
theorem SI.getAm (I : SI K B ρ σ H F s) {i : Nat} (h : ρ[i]? = some .am) : ∃ a, B.a0 = some a ∧ σ[i]? = some (some (.ref a)) := by
  obtain ⟨fps, al, nd, kk⟩ := I.sl
  obtain ⟨y, fp, pre, post, e1, p, e2, _⟩ := al.at_ h
  obtain ⟨_, a, e3, e4⟩ := p
  exact ⟨a, e3, by rw [e1, e4]⟩
/-- kinds that a slot may take of an expression's value -/
def Kd.kept : Kd → Bool
  | .vw 0 => true
  | .ow _ => true
  | .dw => true
  | _ => false
theorem mem3 {a : Addr} {x y z : List Addr} : a ∈ x ++ y ++ z ↔ a ∈ x ∨ a ∈ y ∨ a ∈ z := by simp [or_assoc]
theorem nodup3 {x y z y' : List Addr} (h : (x ++ y ++ z).Nodup) (hy : y'.Nodup) (hd : ∀ a ∈ y', a ∉ x ∧ a ∉ z) : (x ++ y' ++ z).Nodup := by
  rw [List.nodup_append] at h ⊢
  obtain ⟨h1, h2, h3⟩ := h
  rw [List.nodup_append] at h1 ⊢
  obtain ⟨h4, h5, h6⟩ := h1
  refine ⟨⟨h4, hy, fun a ha b hb e => (hd b hb).1 (e ▸ ha)⟩, h2, fun a ha b hb e => ?_⟩
  rcases List.mem_append.mp ha with z | z
  · exact h3 a (List.mem_append_left _ z) b hb e
  · exact (hd a z).2 (e ▸ hb)
/-- a slot is set to an expression's value: SI stands at the heap behind it, the value is new over an older heap -/
theorem SI.set (I : SI K B ρ σ H F s) (st : Step K B F H F' H' s') {k : Kd} (r : Res K B F' H' H k v d) (hk : k.kept = true) {i : Nat} {y : Slot} (hi : ρ[i]? = some y) : SI K B (ρ.set i (.val k d)) (σ.set i (some v)) H' F' s' := by
  have J := I.step st
  obtain ⟨fps0, al0, nd0, kk0⟩ := I.sl
  have th : ∀ a ∈ fps0, ∃ o, H a = some o := fun a ha => by
    obtain ⟨x, y, fp, p, hp⟩ := al0.mem ha
    exact p.there a hp
  -- the same footprints behind the step
  have eq : ∀ a ∈ fps0, H' a = H a := fun a ha => by
    obtain ⟨o, e⟩ := th a ha
    rw [e]
    exact st.hh a o (kk0 a ha).2.2 e
  have al := al0.mono (P' := SlotOk K B F' H') fun x y fp p hp => p.mono st.ff fun a ha => eq a (hp a ha)
  have kk : ∀ a ∈ fps0, F' a = none ∧ B.G a = none ∧ B.a0 ≠ some a := fun a ha => by
    refine ⟨?_, (kk0 a ha).2⟩
    cases q : F' a with
    | none => rfl
    | some o =>
      rcases st.nw a o q with ⟨o', z⟩ | z
      · rw [(kk0 a ha).1] at z
        cases z
      · obtain ⟨o', e⟩ := th a ha
        rw [e] at z
        cases z
  obtain ⟨y', fp, pre, post, e1, p, e2, putZ⟩ := al.at_ hi
  have put := putZ _ fun _ _ _ q _ => q
  have fresh : ∀ fp' : List Addr, fp'.Nodup → (∀ a ∈ fp', H a = none ∧ F' a = none) → (pre ++ fp' ++ post).Nodup ∧ ∀ a ∈ pre ++ fp' ++ post, F' a = none ∧ B.G a = none ∧ B.a0 ≠ some a := fun fp' n' k' => by
    refine ⟨nodup3 (e2 ▸ nd0) n' fun a ha => ⟨fun z => ?_, fun z => ?_⟩, fun a ha => ?_⟩
    · obtain ⟨o, e⟩ := th a (by rw [e2]; simp [z])
      rw [(k' a ha).1] at e; cases e
    · obtain ⟨o, e⟩ := th a (by rw [e2]; simp [z])
      rw [(k' a ha).1] at e; cases e
    · rcases mem3.mp ha with z | z | z
      · exact kk a (by rw [e2]; simp [z])
      · refine ⟨(k' a z).2, ?_, fun q => ?_⟩
        · cases q : B.G a with
          | none => rfl
          | some o => have := I.gh a o q; rw [(k' a z).1] at this; cases this
        · obtain ⟨o, e⟩ := I.am.there q
          rw [(k' a z).1] at e; cases e
      · exact kk a (by rw [e2]; simp [z])
  cases k with
  | vw n =>
    cases n with
    | zero =>
      obtain ⟨f1, f2⟩ := fresh [] List.nodup_nil (by simp)
      exact ⟨J.fh, J.f0, J.gh, J.nw, J.am, J.ln, _, put (.val (.vw 0) d) (some v) [] ⟨rfl, v, rfl, r⟩, f1, f2⟩
    | succ n => exact absurd hk (by simp [Kd.kept])
  | dv => exact absurd hk (by simp [Kd.kept])
  | ow n =>
    obtain ⟨fp', o, n', k'⟩ := r
    obtain ⟨f1, f2⟩ := fresh fp' n' k'
    exact ⟨J.fh, J.f0, J.gh, J.nw, J.am, J.ln, _, put (.val (.ow n) d) (some v) fp' ⟨v, rfl, o⟩, f1, f2⟩
  | dw =>
    obtain ⟨fp', o, n', k'⟩ := r
    obtain ⟨f1, f2⟩ := fresh fp' n' k'
    exact ⟨J.fh, J.f0, J.gh, J.nw, J.am, J.ln, _, put (.val .dw d) (some v) fp' ⟨v, rfl, o⟩, f1, f2⟩
/-- .. whether or not there is such a slot -/
theorem SI.set' (I : SI K B ρ σ H F s) (st : Step K B F H F' H' s') {k : Kd} (r : Res K B F' H' H k v d) (hk : k.kept = true) (i : Nat) : SI K B (ρ.set i (.val k d)) (σ.set i (some v)) H' F' s' := by
  obtain ⟨fps, al, _, _⟩ := id I.sl
  have e := al.length
  by_cases hi : i < ρ.length
  · exact I.set st r hk (List.getElem?_eq_getElem hi)
  · rw [List.set_eq_of_length_le (by omega), List.set_eq_of_length_le (by omega)]
    exact I.step st
/-- slots forgotten -/
inductive Weak : List Slot → List Slot → Prop where
  | nil : Weak [] []
  | any {x : Slot} {xs ys : List Slot} : Weak xs ys → Weak (x :: xs) (.any :: ys)
  | same {x : Slot} {xs ys : List Slot} : Weak xs ys → Weak (x :: xs) (x :: ys)
theorem All3.weak {P : Slot → Option V → List Addr → Prop} (hp : ∀ o, P .any o []) {xs ys : List Slot} (w : Weak xs ys) : ∀ {σ : List (Option V)} {fps : List Addr}, All3 P xs σ fps → ∃ fps', All3 P ys σ fps' ∧ fps'.Sublist fps := by
  induction w with
  | nil =>
    intro σ fps h
    cases h
    exact ⟨[], .nil, List.Sublist.refl _⟩
  | any w ih =>
    intro σ fps h
    cases h with
    | cons p t =>
      rename_i y ys fp fps
      obtain ⟨f', a, s⟩ := ih t
      exact ⟨[] ++ f', .cons (hp y) a, by simpa using List.Sublist.trans s (List.sublist_append_right fp fps)⟩
  | same w ih =>
    intro σ fps h
    cases h with
    | cons p t =>
      rename_i y ys fp fps
      obtain ⟨f', a, s⟩ := ih t
      exact ⟨fp ++ f', .cons p a, List.Sublist.append (List.Sublist.refl _) s⟩
theorem SI.weak {ρ' : List Slot} (I : SI K B ρ σ H F s) (w : Weak ρ ρ') : SI K B ρ' σ H F s := by
  obtain ⟨fps, al, nd, k⟩ := I.sl
  obtain ⟨f', a, sl⟩ := All3.weak (P := SlotOk K B F H) (fun o => rfl) w al
  exact ⟨I.fh, I.f0, I.gh, I.nw, I.am, I.ln, f', a, nd.sublist sl, fun b hb => k b (sl.subset hb)⟩
/-- no slot -/
theorem SI.bare (I : SI K B ρ σ H F s) : SI K B [] [] H F s := ⟨I.fh, I.f0, I.gh, I.nw, I.am, I.ln, [], .nil, List.nodup_nil, by simp⟩
/-- an owned list becomes shared -/
theorem SI.freeze (I : SI K B ρ σ H F s) {i n : Nat} (h : ρ[i]? = some (.val (.ow n) d)) : ∃ F', SI K B (ρ.set i (.val (.vw 0) d)) σ H F' s ∧ Same F F' := by
  obtain ⟨fps, al, nd, k⟩ := I.sl
  obtain ⟨y', fp, pre, post, e1, p, e2, put⟩ := al.at_ h
  obtain ⟨v, e, o⟩ := p
  have hfp : ∀ a ∈ fp, a ∈ fps := fun a ha => by rw [e2]; simp [ha]
  let F' : Hp := fun a => if a ∈ fp then H a else F a
  have ff : Same F F' := fun a u q => by
    show (if a ∈ fp then H a else F a) = some u
    rw [if_neg fun z => by rw [(k a (hfp a z)).1] at q; cases q]
    exact q
  have inF : ∀ a ∈ fp, F' a = H a := fun a ha => if_pos ha
  have outF : ∀ a, a ∉ fp → F' a = F a := fun a ha => if_neg ha
  have dj : ∀ a ∈ fp, a ∉ pre ∧ a ∉ post := fun a ha => by
    rw [e2, List.nodup_append] at nd
    obtain ⟨n1, _, n3⟩ := nd
    rw [List.nodup_append] at n1
    exact ⟨fun z => n1.2.2 a z a ha rfl, fun z => n3 a (by simp [ha]) a z rfl⟩
  have e3 : σ.set i (some v) = σ := by
    have hs : σ[i]? = some (some v) := by rw [e1, e]
    obtain ⟨hi, hv⟩ := List.getElem?_eq_some_iff.mp hs
    rw [← hv]
    exact List.set_getElem_self hi
  have a3 := put (SlotOk K B F' H) (fun x y g q hq => q.mono ff fun a ha => rfl) (.val (.vw 0) d) (some v) [] ⟨rfl, v, rfl, Own.freeze ff o inF⟩
  rw [e3] at a3
  refine ⟨F', ⟨fun a u q => ?_, fun a u q => ff a u (I.f0 a u q), I.gh, fun a u q => ?_, ?_, I.ln, _, a3, ?_, fun a ha => ?_⟩, ff⟩
  · by_cases z : a ∈ fp
    · rw [inF a z] at q; exact q
    · rw [outF a z] at q; exact I.fh a u q
  · by_cases z : a ∈ fp
    · exact .inr (k a (hfp a z)).2.1
    · rw [outF a z] at q; exact I.nw a u q
  · have am := I.am
    unfold AmbOk at am ⊢
    cases q : B.a0 with
    | none => trivial
    | some b =>
      rw [q] at am
      obtain ⟨⟨vs, h1, h2⟩, h3, h4⟩ := am
      exact ⟨⟨vs, h1, DpmAll ff h2⟩, (outF b fun z => (k b (hfp b z)).2.2 q).trans h3, h4⟩
  · exact nodup3 (e2 ▸ nd) List.nodup_nil (by simp)
  · rcases mem3.mp ha with z | z | z
    · exact ⟨(outF a fun q => (dj a q).1 z).trans (k a (by rw [e2]; simp [z])).1, (k a (by rw [e2]; simp [z])).2⟩
    · cases z
    · exact ⟨(outF a fun q => (dj a q).2 z).trans (k a (by rw [e2]; simp [z])).1, (k a (by rw [e2]; simp [z])).2⟩
end
end DL
end
section
namespace DL
open PySem PySem.Spec PyProof.Rows L2
/-! ### from options -/
def opt {α : Type} : Option α → R α
  | some a => .ok a
  | none => .bad
abbrev lfo {M : Type → Type} [EM M] {α : Type} (o : Option α) : M α := lft (opt o)
section
variable {M : Type → Type} [EM M] {T : Tx} {W : WX} {ρ : List Slot} {B : Base} {σ : List (Option V)} {F F' F'' F1 F2 H H' H'' H1 H2 : Hp} {s s' s1 s2 : List D} {v : V} {d : D}
theorem wp_lfo {α : Type} {o : Option α} {ψ : α → List D → Prop} {χ : XC → List D → Prop} (h : EM.wp (M := M) (lfo o) ψ χ s) : ∃ a, o = some a ∧ ψ a s := by
  have z := EM.wp_lft h
  cases o with
  | none => exact z.elim
  | some a => exact ⟨a, rfl, z⟩
theorem wantX_trans {x : XC} (st : Step T.K B F H F1 H1 s1) (h : WantX T.toCst B F H W σ x s) : WantX T.toCst B F1 H1 W σ x s := fun cls dd F' H' st' xr => h cls dd F' H' (st.trans st') xr
theorem want_trans {k : Kd} {Q : VK} (st : Step T.K B F H F1 H1 s1) (hn : ∀ a, H1 a = none → H a = none) (h : Want T.toCst B F H k Q d s) : Want T.toCst B F1 H1 k Q d s := fun v F' H' st' r => h v F' H' (st.trans st') (r.top hn)
theorem Step.gone (st : Step T.K B F H F1 H1 s1) (am : AmbOk T.K B F H s) : ∀ a, H1 a = none → H a = none := fun a e => by
  cases q : H a with
  | none => rfl
  | some o =>
    by_cases n : B.a0 = some a
    · obtain ⟨o', e'⟩ := st.am.there n
      rw [e] at e'; cases e'
    · rw [st.hh a o n q] at e; cases e
theorem SI.gone (I : SI T.K B ρ σ H F s) (st : Step T.K B F H F1 H1 s1) : ∀ a, H1 a = none → H a = none := st.gone I.am
theorem SI.top_ (I : SI T.K B ρ σ H F s) : ∀ a, B.a0 = some a → ∃ o, H a = some o := fun a e => I.am.there e
/-- one part, then what is made of it -/
theorem one1 {e : Expr} {k k' : Kd} {m : M D} {f : D → M D} {te : TE} {Q : VK} {R : V → Hp → Prop}
    (sa : ∀ (B : Base) (σ : L2.St) (H F : Hp) (s : List D) (Q : VK), SI T.K B ρ σ H F s → EM.wp m (Want T.toCst B F H k Q) (WantX T.toCst B F H W σ) s → te σ H Q)
    (I : SI T.K B ρ σ H F s) (h : EM.wp (m >>= f) (Want T.toCst B F H k' Q) (WantX T.toCst B F H W σ) s)
    (c : ∀ d s1 v F1 H1, Step T.K B F H F1 H1 s1 → SI T.K B ρ σ H1 F1 s1 → Res T.K B F1 H1 H k v d → EM.wp (f d) (Want T.toCst B F1 H1 k' Q) (WantX T.toCst B F1 H1 W σ) s1 → R v H1) : te σ H R := by
  refine sa B σ H F s _ I (EM.mono (EM.wp_bind h) (fun d s1 h1 v F1 H1 st r => ?_) fun x s1 hx => hx)
  exact c d s1 v F1 H1 st (I.step st) r (EM.mono h1 (fun d' s2 w => want_trans st (I.gone st) w) fun x s2 w => wantX_trans st w)
/-- .. a test of it -/
theorem one1T {k : Kd} {m : M D} {f : D → M Bool} {te : TE} {Q : Bool → Hp → Prop} {R : V → Hp → Prop}
    (sa : ∀ (B : Base) (σ : L2.St) (H F : Hp) (s : List D) (Q : VK), SI T.K B ρ σ H F s → EM.wp m (Want T.toCst B F H k Q) (WantX T.toCst B F H W σ) s → te σ H Q)
    (I : SI T.K B ρ σ H F s) (h : EM.wp (m >>= f) (fun c s' => ∀ F' H', Step T.K B F H F' H' s' → Q c H') (WantX T.toCst B F H W σ) s)
    (c : ∀ d s1 v F1 H1, Step T.K B F H F1 H1 s1 → SI T.K B ρ σ H1 F1 s1 → Res T.K B F1 H1 H k v d → EM.wp (f d) (fun c s' => ∀ F' H', Step T.K B F1 H1 F' H' s' → Q c H') (WantX T.toCst B F1 H1 W σ) s1 → R v H1) : te σ H R := by
  refine sa B σ H F s _ I (EM.mono (EM.wp_bind h) (fun d s1 h1 v F1 H1 st r => ?_) fun x s1 hx => hx)
  exact c d s1 v F1 H1 st (I.step st) r (EM.mono h1 (fun c s2 w F' H' st' => w F' H' (st.trans st')) fun x s2 w => wantX_trans st w)

/-! ### names, constants -/
structure Nm (T : Tx) (i : Nat) (x : Str) : Prop where
  ix : T.N[i]? = some x
  vis : Vis T.sc x
  d1 : (x == ("__debug__" : Str)) = false
  d2 : (x == ("__classdict__" : Str)) = false
theorem Nm.pe {i : Nat} {x : Str} {pos : Pos} (n : Nm T i x) {X : Cx} (hX : Fits T X) : PE X (.Name x pos) (tVar i) := pe_var (by rw [hX.N]; exact n.ix) (by rw [hX.sc]; exact n.vis) n.d1 n.d2
theorem ed_name {i : Nat} {x : Str} {pos : Pos} {k : Kd} (n : Nm T i x) (h : ρ[i]? = some (.val k d)) : ED (M := M) T W ρ (.Name x pos) k.see (pure d) := by
  refine ⟨tVar i, fun X hX _ => n.pe hX, fun B σ H F s Q I w => ?_⟩
  obtain ⟨v, e, r⟩ := I.get h
  exact ⟨v, e, EM.wp_pure w v F H I.refl r⟩
theorem ed_const {e : Expr} {v : V} (hp : ∀ X, Fits T X → PE X e (tC v)) (hd : ∀ F, Dp T.K F v d) : ED (M := M) T W ρ e (.vw 0) (pure d) :=
  ⟨tC v, fun X hX _ => hp X hX, fun B σ H F s Q I w => EM.wp_pure w v F H I.refl (hd F)⟩
theorem ed_int {i : Int} {j : Nat} {pos : Pos} : ED (M := M) T W ρ (.Constant (.int i) j pos) (.vw 0) (pure (.int i)) := ed_const (fun _ _ => pe_int) fun _ => .int i
theorem ed_str {x : Str} {j : Nat} {pos : Pos} : ED (M := M) T W ρ (.Constant (.str x) j pos) (.vw 0) (pure (.str x)) := ed_const (fun _ _ => pe_str) fun _ => .str x
theorem ed_non {j : Nat} {pos : Pos} : ED (M := M) T W ρ (.Constant .none j pos) (.vw 0) (pure .none) := ed_const (fun _ _ => pe_non) fun _ => .non
theorem ed_bl {b : Bool} {j : Nat} {pos : Pos} : ED (M := M) T W ρ (.Constant (.bool b) j pos) (.vw 0) (pure (.bool b)) := ed_const (fun _ _ => pe_bl) fun _ => .bl b
/-- a name of the module -/
abbrev GlT (T : Tx) (x : Str) : Prop := T.sc.names.lookup x = some .globalImplicit
theorem GlT.gl {x : Str} (g : GlT T x) {X : Cx} (hX : Fits T X) : Gl X x := by
  show X.env.scope.names.lookup x = _
  rw [hX.sc]; exact g
theorem ed_gint {x : Str} {i : Int} {pos : Pos} (g : GlT T x) (hm : ∃ t, T.mg x = some (.int i t)) (hd : (x == ("__debug__" : Str)) = false := by decide) : ED (M := M) T W ρ (.Name x pos) (.vw 0) (pure (.int i)) := by
  obtain ⟨t, hm⟩ := hm
  exact ed_const (fun X hX => pe_glob (g.gl hX) (by rw [hX.mg]; exact hm) (v := .int i) ⟨t, rfl⟩ hd) fun _ => .int i
theorem ed_gstr {x z : Str} {pos : Pos} (g : GlT T x) (hm : ∃ t, T.mg x = some (.str z t)) (hd : (x == ("__debug__" : Str)) = false := by decide) : ED (M := M) T W ρ (.Name x pos) (.vw 0) (pure (.str z)) := by
  obtain ⟨t, hm⟩ := hm
  exact ed_const (fun X hX => pe_glob (g.gl hX) (by rw [hX.mg]; exact hm) (v := .str z) ⟨t, rfl⟩ hd) fun _ => .str z
/-- what is never reached, or is not told -/
theorem ed_bad {e : Expr} {k : Kd} : ED (M := M) T W ρ e k (lft .bad) := ⟨fun _ _ _ => False, fun _ _ _ => ⟨fun _ _ _ _ _ _ h => h.elim⟩, fun B σ H F s Q I w => (EM.wp_lft w).elim⟩

/-! ### kinds -/
theorem ED.imp {e : Expr} {k k' : Kd} {m : M D} (h : ED T W ρ e k m) (c : ∀ (B : Base) (σ : L2.St) (F H F1 H1 : Hp) (s s1 : List D) (d : D) (v : V), SI T.K B ρ σ H F s → Step T.K B F H F1 H1 s1 → Res T.K B F1 H1 H k v d → ∃ F2, Step T.K B F H F2 H1 s1 ∧ Res T.K B F2 H1 H k' v d) : ED T W ρ e k' m := by
  obtain ⟨te, p, sa⟩ := h
  refine ⟨te, p, fun B σ H F s Q I w => sa B σ H F s Q I (EM.mono w (fun d s1 w v F1 H1 st r => ?_) fun x s1 w => w)⟩
  obtain ⟨F2, st2, r2⟩ := c B σ F H F1 H1 s s1 d v I st r
  exact w v F2 H1 st2 r2
theorem ED.up {e : Expr} {n : Nat} {m : M D} (h : ED T W ρ e (.vw n) m) : ED T W ρ e (.vw (n + 1)) m := h.imp fun B σ F H F1 H1 s s1 d v I st r => ⟨F1, st, View.up r⟩
theorem ED.see {e : Expr} {k : Kd} {m : M D} (h : ED T W ρ e k m) : ED T W ρ e k.see m := h.imp fun B σ F H F1 H1 s s1 d v I st r => ⟨F1, st, r.see I.top_⟩
/-- a new list becomes shared -/
theorem ED.fr {e : Expr} {n : Nat} {m : M D} (h : ED T W ρ e (.ow n) m) : ED T W ρ e (.vw 0) m := h.imp fun B σ F H F1 H1 s s1 d v I st r => by
  obtain ⟨fp, o, nd, k⟩ := r
  refine ⟨fun a => if a ∈ fp then H1 a else F1 a, ?_⟩
  have outF : ∀ a o, F1 a = some o → (if a ∈ fp then H1 a else F1 a) = some o := fun a o e => by
    rw [if_neg fun z => by rw [(k a z).2] at e; cases e]
    exact e
  refine ⟨⟨fun a o e => outF a o (st.ff a o e), fun a o e => ?_, st.hh, fun a o e => ?_, ?_, st.ln⟩, Own.freeze outF o fun a ha => if_pos ha⟩
  · by_cases z : a ∈ fp
    · rw [if_pos z] at e; exact e
    · rw [if_neg z] at e; exact st.fh a o e
  · by_cases z : a ∈ fp
    · exact .inr (k a z).1
    · rw [if_neg z] at e; exact st.nw a o e
  · have am := st.am
    unfold AmbOk at am ⊢
    cases q : B.a0 with
    | none => trivial
    | some b =>
      rw [q] at am
      obtain ⟨⟨vs, h1, h2⟩, h3, h4⟩ := am
      refine ⟨⟨vs, h1, DpmAll outF h2⟩, ?_, h4⟩
      show (if b ∈ fp then H1 b else F1 b) = none
      rw [if_neg fun z => by obtain ⟨u, e⟩ := I.top_ b q; rw [(k b z).1] at e; cases e]
      exact h3

/-! ### operators -/
/-- f on two values: g on data -/
def OpD (T : Tx) (f : Value → Value → Sem Value) (n1 n2 : Nat) (k : Kd) (g : D → D → Option D) : Prop := ∃ r : R2, (∀ X, Fits T X → OpR X f r) ∧
  ∀ (B : Base) (F H : Hp) (s : List D) (dx dy d : D) (x y : V) (Q : VK), SI T.K B [] [] H F s → View T.K B.a0 F H n1 x dx → View T.K B.a0 F H n2 y dy → g dx dy = some d → Want T.toCst B F H k Q d s → r x y H Q
theorem two {k1 k2 : Kd} {ma mb : M D} {f : D → D → M D} {ta tb : TE} {k : Kd} {Q : VK} {R : V → V → Hp → Prop}
    (sa : ∀ (B : Base) (σ : L2.St) (H F : Hp) (s : List D) (Q : VK), SI T.K B ρ σ H F s → EM.wp ma (Want T.toCst B F H k1 Q) (WantX T.toCst B F H W σ) s → ta σ H Q)
    (sb : ∀ (B : Base) (σ : L2.St) (H F : Hp) (s : List D) (Q : VK), SI T.K B ρ σ H F s → EM.wp mb (Want T.toCst B F H k2 Q) (WantX T.toCst B F H W σ) s → tb σ H Q)
    (I : SI T.K B ρ σ H F s) (h : EM.wp (ma >>= fun x => mb >>= fun y => f x y) (Want T.toCst B F H k Q) (WantX T.toCst B F H W σ) s)
    (c : ∀ dx dy s2 x y F2 H2, Step T.K B F H F2 H2 s2 → SI T.K B ρ σ H2 F2 s2 → Res T.K B F2 H2 H k1 x dx → Res T.K B F2 H2 H k2 y dy → EM.wp (f dx dy) (Want T.toCst B F2 H2 k Q) (WantX T.toCst B F2 H2 W σ) s2 → R x y H2) :
    ta σ H fun x H1 => tb σ H1 fun y H2 => R x y H2 := by
  refine one1 (e := .Constant .none 0 ⟨0, 0, 0, 0⟩) sa I h fun dx s1 x F1 H1 st1 I1 r1 h1 => ?_
  refine one1 (e := .Constant .none 0 ⟨0, 0, 0, 0⟩) sb I1 h1 fun dy s2 y F2 H2 st2 I2 r2 h2 => ?_
  exact c dx dy s2 x y F2 H2 (st1.trans st2) I2 (r1.step I1.am st2 I.top_) (r2.top (I.gone st1)) h2
theorem ed_bin {a b : Expr} {op : Operator} {pos : Pos} {n1 n2 : Nat} {k : Kd} {g : D → D → Option D} {ma mb : M D} (ho : OpD T (binaryOp op) n1 n2 k g) (ha : ED T W ρ a (.vw n1) ma) (hb : ED T W ρ b (.vw n2) mb) :
    ED T W ρ (.BinOp a op b pos) k (ma >>= fun x => mb >>= fun y => lfo (g x y)) := by
  obtain ⟨ta, pa, sa⟩ := ha
  obtain ⟨tb, pb, sb⟩ := hb
  obtain ⟨r, hr, sr⟩ := ho
  refine ⟨tOp r ta tb, fun X hX hW => pe_op (hr X hX) (pa X hX hW) (pb X hX hW), fun B σ H F s Q I h => ?_⟩
  refine two sa sb I h fun dx dy s2 x y F2 H2 st I2 r1 r2 h2 => ?_
  obtain ⟨d, e, w⟩ := wp_lfo h2
  exact sr B F2 H2 s2 dx dy d x y Q I2.bare r1 r2 e w
/-- a comparison: g on data -/
def OpB (T : Tx) (op : CmpOp) (n1 n2 : Nat) (g : D → D → Option Bool) : Prop := ∃ r : R2, (∀ X, Fits T X → OpR X (compareOp op) r) ∧
  ∀ (B : Base) (F H : Hp) (s : List D) (dx dy : D) (c : Bool) (x y : V) (Q : VK), Same F H → View T.K B.a0 F H n1 x dx → View T.K B.a0 F H n2 y dy → g dx dy = some c → Q (.bl c) H → r x y H Q
theorem ed_cmp {a b : Expr} {op : CmpOp} {pos : Pos} {n1 n2 : Nat} {g : D → D → Option Bool} {ma mb : M D} (ho : OpB T op n1 n2 g) (ha : ED T W ρ a (.vw n1) ma) (hb : ED T W ρ b (.vw n2) mb)
    (hm : behindInMarks op b = false := by first | exact nomark _ | rfl) : ED T W ρ (.Compare a [op] [b] pos) (.vw 0) (ma >>= fun x => mb >>= fun y => lfo ((g x y).map .bool)) := by
  obtain ⟨ta, pa, sa⟩ := ha
  obtain ⟨tb, pb, sb⟩ := hb
  obtain ⟨r, hr, sr⟩ := ho
  refine ⟨tOp r ta tb, fun X hX hW => pe_cmpR (hr X hX) (pa X hX hW) (pb X hX hW) hm, fun B σ H F s Q I h => ?_⟩
  refine two sa sb I h fun dx dy s2 x y F2 H2 st I2 r1 r2 h2 => ?_
  obtain ⟨d, e, w⟩ := wp_lfo h2
  obtain ⟨c, ec, ed⟩ := Option.map_eq_some_iff.mp e
  exact sr B F2 H2 s2 dx dy c x y Q I2.fh r1 r2 ec (w _ F2 H2 I2.refl (by rw [← ed]; exact .bl c))
theorem twoT {k1 k2 : Kd} {ma mb : M D} {f : D → D → M Bool} {ta tb : TE} {Q : Bool → Hp → Prop} {R : V → V → Hp → Prop}
    (sa : ∀ (B : Base) (σ : L2.St) (H F : Hp) (s : List D) (Q : VK), SI T.K B ρ σ H F s → EM.wp ma (Want T.toCst B F H k1 Q) (WantX T.toCst B F H W σ) s → ta σ H Q)
    (sb : ∀ (B : Base) (σ : L2.St) (H F : Hp) (s : List D) (Q : VK), SI T.K B ρ σ H F s → EM.wp mb (Want T.toCst B F H k2 Q) (WantX T.toCst B F H W σ) s → tb σ H Q)
    (I : SI T.K B ρ σ H F s) (h : EM.wp (ma >>= fun x => mb >>= fun y => f x y) (fun c s' => ∀ F' H', Step T.K B F H F' H' s' → Q c H') (WantX T.toCst B F H W σ) s)
    (c : ∀ dx dy s2 x y F2 H2, Step T.K B F H F2 H2 s2 → SI T.K B ρ σ H2 F2 s2 → Res T.K B F2 H2 H k1 x dx → Res T.K B F2 H2 H k2 y dy → EM.wp (f dx dy) (fun c s' => ∀ F' H', Step T.K B F2 H2 F' H' s' → Q c H') (WantX T.toCst B F2 H2 W σ) s2 → R x y H2) :
    ta σ H fun x H1 => tb σ H1 fun y H2 => R x y H2 := by
  refine one1T sa I h fun dx s1 x F1 H1 st1 I1 r1 h1 => ?_
  refine one1T sb I1 h1 fun dy s2 y F2 H2 st2 I2 r2 h2 => ?_
  exact c dx dy s2 x y F2 H2 (st1.trans st2) I2 (r1.step I1.am st2 I.top_) (r2.top (I.gone st1)) h2
theorem td_cmp {a b : Expr} {op : CmpOp} {pos : Pos} {n1 n2 : Nat} {g : D → D → Option Bool} {ma mb : M D} (ho : OpB T op n1 n2 g) (ha : ED T W ρ a (.vw n1) ma) (hb : ED T W ρ b (.vw n2) mb)
    (hm : behindInMarks op b = false := by first | exact nomark _ | rfl) : TD T W ρ (.Compare a [op] [b] pos) (ma >>= fun x => mb >>= fun y => lfo (g x y)) := by
  obtain ⟨ta, pa, sa⟩ := ha
  obtain ⟨tb, pb, sb⟩ := hb
  obtain ⟨r, hr, sr⟩ := ho
  refine ⟨tTest (tOp r ta tb), fun X hX hW => pt_cmpR (hr X hX) (pa X hX hW) (pb X hX hW) hm, fun B σ H F s Q I h => ?_⟩
  refine twoT sa sb I h fun dx dy s2 x y F2 H2 st I2 r1 r2 h2 => ?_
  obtain ⟨c, e, w⟩ := wp_lfo h2
  exact sr B F2 H2 s2 dx dy c x y _ I2.fh r1 r2 e ⟨c, rfl, w F2 H2 I2.refl⟩
end
section
variable {M : Type → Type} [EM M] {T : Tx} {W : WX} {ρ : List Slot}
/-! ### tests -/
def truO : D → Option Bool
  | .none => some false
  | .bool b => some b
  | .int i => some (i != 0)
  | .str x => if x.length ≤ sizeLine then some ((x.length : Int) != 0) else none
  | .list xs => some (!xs.isEmpty)
  | .tuple xs => some (!xs.isEmpty)
  | .dict _ => none
theorem dpall_len {K : PySem.W.Frag} {H : Hp} : ∀ {vs : List V} {ds : List D}, DpAll K H vs ds → vs.length = ds.length
  | _, _, .nil => rfl
  | _, _, .cons _ t => congrArg (· + 1) (dpall_len t)
theorem dpall_emp {K : PySem.W.Frag} {H : Hp} {vs : List V} {ds : List D} (h : DpAll K H vs ds) : (!vs.isEmpty) = !ds.isEmpty := by cases h <;> rfl
theorem truV {K : PySem.W.Frag} {H : Hp} {v : V} {d : D} {c : Bool} (h : Dp K H v d) (e : truO d = some c) : TruV K v H c := by
  cases h with
  | non => exact (Option.some.inj e).symm
  | bl b => exact (Option.some.inj e).symm
  | int i => exact (Option.some.inj e).symm
  | str x =>
    have e' : (if x.length ≤ sizeLine then some ((x.length : Int) != 0) else none) = some c := e
    by_cases hx : x.length ≤ sizeLine
    · rw [if_pos hx] at e'
      exact ⟨hx, (Option.some.inj e').symm⟩
    · rw [if_neg hx] at e'; cases e'
  | lst hs ha => exact .inl ⟨_, hs, by rw [dpall_emp ha]; exact (Option.some.inj e).symm⟩
  | tup hs ha => exact .inr (.inl ⟨_, hs, by rw [dpall_emp ha]; exact (Option.some.inj e).symm⟩)
/-- a test by truth, of an expression that is no comparison, no and, or, not -/
theorem td_val {e : Expr} {n : Nat} {m : M D} (h : ED T W ρ e (.vw n) m) (he : ∀ env whole, isTrue e env whole = (do let v ← whole; standAt e.pos; holding [v] (truthy v)) := by intro _ _; rfl) :
    TD T W ρ e (m >>= fun x => lfo (truO x)) := by
  obtain ⟨ta, pa, sa⟩ := h
  refine ⟨fun σ H Q => ta σ H fun x H' => ∃ k, TruV T.K x H' k ∧ Q k H', fun X hX hW => ?_, fun B σ H F s Q I h => ?_⟩
  · have z := pt_truth (pa X hX hW) (he X.env)
    rw [hX.K] at z
    exact z
  · refine one1T sa I h fun d s1 v F1 H1 st I1 r h1 => ?_
    obtain ⟨c, e, w⟩ := wp_lfo h1
    exact ⟨c, truV (View.dp I1.fh r) e, w F1 H1 I1.refl⟩
theorem td_and1 {a : Expr} {pos : Pos} {m : M Bool} (h : TD T W ρ a m) : TD T W ρ (.BoolOp .And [a] pos) m := by
  obtain ⟨ta, pa, sa⟩ := h
  exact ⟨ta, fun X hX hW => (pw_and1 (pa X hX hW)).pt, sa⟩
end
/-- a test whatever stands around it (and, or) -/
def WD {M : Type → Type} [EM M] (T : Tx) (W : WX) (ρ : List Slot) (e : Expr) (m : M Bool) : Prop :=
  ∃ te : TT, (∀ X, Fits T X → Takes X W → PW X e te) ∧ ∀ (B : Base) (σ : L2.St) (H F : Hp) (s : List D) (Q : Bool → Hp → Prop), SI T.K B ρ σ H F s → EM.wp m (fun c s' => ∀ F' H', Step T.K B F H F' H' s' → Q c H') (WantX T.toCst B F H W σ) s → te σ H Q
section
variable {M : Type → Type} [EM M] {T : Tx} {W : WX} {ρ : List Slot} {B : Base} {σ : List (Option V)} {F H : Hp} {s : List D}
theorem WD.td {e : Expr} {m : M Bool} (h : WD T W ρ e m) : TD T W ρ e m := by
  obtain ⟨ta, pa, sa⟩ := h
  exact ⟨ta, fun X hX hW => (pa X hX hW).pt, sa⟩
theorem wd_and1 {a : Expr} {pos : Pos} {m : M Bool} (h : TD T W ρ a m) : WD T W ρ (.BoolOp .And [a] pos) m := by
  obtain ⟨ta, pa, sa⟩ := h
  exact ⟨ta, fun X hX hW => pw_and1 (pa X hX hW), sa⟩
theorem wd_or1 {a : Expr} {pos : Pos} {m : M Bool} (h : TD T W ρ a m) : WD T W ρ (.BoolOp .Or [a] pos) m := by
  obtain ⟨ta, pa, sa⟩ := h
  exact ⟨ta, fun X hX hW => pw_or1 (pa X hX hW), sa⟩
/-- a test, then what follows -/
theorem tst {m : M Bool} {α : Type} {f : Bool → M α} {te : TT} {ψ : α → List D → Prop} {R : Bool → Hp → Prop}
    (sa : ∀ (B : Base) (σ : L2.St) (H F : Hp) (s : List D) (Q : Bool → Hp → Prop), SI T.K B ρ σ H F s → EM.wp m (fun c s' => ∀ F' H', Step T.K B F H F' H' s' → Q c H') (WantX T.toCst B F H W σ) s → te σ H Q)
    (I : SI T.K B ρ σ H F s) (h : EM.wp (m >>= f) ψ (WantX T.toCst B F H W σ) s)
    (c : ∀ c s1 F1 H1, Step T.K B F H F1 H1 s1 → SI T.K B ρ σ H1 F1 s1 → EM.wp (f c) ψ (WantX T.toCst B F1 H1 W σ) s1 → R c H1) : te σ H R := by
  refine sa B σ H F s _ I (EM.mono (EM.wp_bind h) (fun d s1 h1 F1 H1 st => ?_) fun x s1 hx => hx)
  exact c d s1 F1 H1 st (I.step st) (EM.mono h1 (fun _ _ w => w) fun x s2 w => wantX_trans st w)
theorem wd_and {a b : Expr} {rest : List Expr} {pos : Pos} {ma mb : M Bool} (ha : TD T W ρ a ma) (hb : WD T W ρ (.BoolOp .And (b :: rest) pos) mb) : WD T W ρ (.BoolOp .And (a :: b :: rest) pos) (ma >>= fun c => if c then mb else pure false) := by
  obtain ⟨ta, pa, sa⟩ := ha
  obtain ⟨tb, pb, sb⟩ := hb
  refine ⟨tAnd ta tb, fun X hX hW => pw_and (pa X hX hW) (pb X hX hW), fun B σ H F s Q I h => ?_⟩
  refine tst (te := ta) sa I h fun c s1 F1 H1 st I1 h1 => ?_
  cases c with
  | true => exact sb B σ H1 F1 s1 Q I1 (EM.mono h1 (fun c s2 w F' H' st' => w F' H' (st.trans st')) fun _ _ w => w)
  | false => exact EM.wp_pure h1 F1 H1 st
theorem wd_or {a b : Expr} {rest : List Expr} {pos : Pos} {ma mb : M Bool} (ha : TD T W ρ a ma) (hb : WD T W ρ (.BoolOp .Or (b :: rest) pos) mb) : WD T W ρ (.BoolOp .Or (a :: b :: rest) pos) (ma >>= fun c => if c then pure true else mb) := by
  obtain ⟨ta, pa, sa⟩ := ha
  obtain ⟨tb, pb, sb⟩ := hb
  refine ⟨tOr ta tb, fun X hX hW => pw_or (pa X hX hW) (pb X hX hW), fun B σ H F s Q I h => ?_⟩
  refine tst (te := ta) sa I h fun c s1 F1 H1 st I1 h1 => ?_
  cases c with
  | false => exact sb B σ H1 F1 s1 Q I1 (EM.mono h1 (fun c s2 w F' H' st' => w F' H' (st.trans st')) fun _ _ w => w)
  | true => exact EM.wp_pure h1 F1 H1 st
theorem td_not {a : Expr} {pos : Pos} {m : M Bool} (h : TD T W ρ a m) : TD T W ρ (.UnaryOp .Not a pos) (m >>= fun c => pure (!c)) := by
  obtain ⟨ta, pa, sa⟩ := h
  refine ⟨tNot ta, fun X hX hW => pt_not (pa X hX hW), fun B σ H F s Q I h => ?_⟩
  exact tst (te := ta) sa I h fun c s1 F1 H1 st I1 h1 => EM.wp_pure h1 F1 H1 st
theorem ed_ifexp {c a b : Expr} {pos : Pos} {k : Kd} {mc : M Bool} {ma mb : M D} (hc : TD T W ρ c mc) (ha : ED T W ρ a k ma) (hb : ED T W ρ b k mb) : ED T W ρ (.IfExp c a b pos) k (mc >>= fun c => if c then ma else mb) := by
  obtain ⟨tc, pc, sc⟩ := hc
  obtain ⟨ta, pa, sa⟩ := ha
  obtain ⟨tb, pb, sb⟩ := hb
  refine ⟨tIf tc ta tb, fun X hX hW => pe_ifExp (pc X hX hW) (pa X hX hW) (pb X hX hW), fun B σ H F s Q I h => ?_⟩
  refine tst (te := tc) sc I h fun c s1 F1 H1 st I1 h1 => ?_
  cases c with
  | true => exact sa B σ H1 F1 s1 Q I1 (EM.mono h1 (fun d s2 w => want_trans st (I.gone st) w) fun _ _ w => w)
  | false => exact sb B σ H1 F1 s1 Q I1 (EM.mono h1 (fun d s2 w => want_trans st (I.gone st) w) fun _ _ w => w)
/-! ### and, or, not as values -/
theorem ed_one {op : BoolOp} {a : Expr} {pos : Pos} {k : Kd} {m : M D} (h : ED T W ρ a k m) : ED T W ρ (.BoolOp op [a] pos) k m := by
  obtain ⟨ta, pa, sa⟩ := h
  exact ⟨ta, fun X hX hW => pe_one (pa X hX hW), sa⟩
theorem ed_or {a b : Expr} {rest : List Expr} {pos : Pos} {ma mb : M D} (ha : ED T W ρ a (.vw 0) ma) (hb : ED T W ρ (.BoolOp .Or (b :: rest) pos) (.vw 0) mb) :
    ED T W ρ (.BoolOp .Or (a :: b :: rest) pos) (.vw 0) (ma >>= fun x => lfo (truO x) >>= fun c => if c then pure x else mb) := by
  obtain ⟨ta, pa, sa⟩ := ha
  obtain ⟨tb, pb, sb⟩ := hb
  refine ⟨tOrT T.K ta tb, fun X hX hW => ?_, fun B σ H F s Q I h => ?_⟩
  · have z := pe_orT (pos := pos) (pa X hX hW) (pb X hX hW)
    rw [hX.K] at z
    exact z
  refine one1 (e := a) (te := ta) sa I h fun d s1 v F1 H1 st I1 r h1 => ?_
  obtain ⟨c, e, w⟩ := wp_lfo (EM.wp_bind h1)
  refine ⟨c, truV (View.dp I1.fh r) e, ?_⟩
  cases c with
  | true => exact EM.wp_pure w v F1 H1 I1.refl r
  | false => exact sb B σ H1 F1 s1 Q I1 w
theorem ed_and {a b : Expr} {rest : List Expr} {pos : Pos} {ma mb : M D} (ha : ED T W ρ a (.vw 0) ma) (hb : ED T W ρ (.BoolOp .And (b :: rest) pos) (.vw 0) mb) :
    ED T W ρ (.BoolOp .And (a :: b :: rest) pos) (.vw 0) (ma >>= fun x => lfo (truO x) >>= fun c => if c then mb else pure x) := by
  obtain ⟨ta, pa, sa⟩ := ha
  obtain ⟨tb, pb, sb⟩ := hb
  refine ⟨tAndT T.K ta tb, fun X hX hW => ?_, fun B σ H F s Q I h => ?_⟩
  · have z := pe_andT (pos := pos) (pa X hX hW) (pb X hX hW)
    rw [hX.K] at z
    exact z
  refine one1 (e := a) (te := ta) sa I h fun d s1 v F1 H1 st I1 r h1 => ?_
  obtain ⟨c, e, w⟩ := wp_lfo (EM.wp_bind h1)
  refine ⟨c, truV (View.dp I1.fh r) e, ?_⟩
  cases c with
  | false => exact EM.wp_pure w v F1 H1 I1.refl r
  | true => exact sb B σ H1 F1 s1 Q I1 w
theorem ed_not {a : Expr} {pos : Pos} {n : Nat} {m : M D} (h : ED T W ρ a (.vw n) m) : ED T W ρ (.UnaryOp .Not a pos) (.vw 0) (m >>= fun x => lfo ((truO x).map fun c => .bool (!c))) := by
  obtain ⟨ta, pa, sa⟩ := h
  refine ⟨tNotT T.K ta, fun X hX hW => ?_, fun B σ H F s Q I h => ?_⟩
  · have z := pe_notT (pos := pos) (pa X hX hW)
    rw [hX.K] at z
    exact z
  refine one1 (e := a) (te := ta) sa I h fun d s1 v F1 H1 st I1 r h1 => ?_
  obtain ⟨d', e, w⟩ := wp_lfo h1
  obtain ⟨c, ec, ed⟩ := Option.map_eq_some_iff.mp e
  exact ⟨c, truV (View.dp I1.fh r) ec, w _ F1 H1 I1.refl (by rw [← ed]; exact .bl _)⟩
end
end DL
end
section
namespace DL
open PySem PySem.Spec PyProof.Rows L2
section
variable {M : Type → Type} [EM M] {T : Tx} {W : WX} {ρ : List Slot} {B : Base} {σ : List (Option V)} {F F' F1 F2 H H' H1 H2 : Hp} {s s' s1 s2 : List D} {v : V} {d : D}
/-! ### arguments -/
theorem ad_nil {α : Type} : AD (M := M) (α := α) T W ρ [] [] (fun f => f []) :=
  ⟨tNil, fun _ _ _ => pa_nil, fun B σ H F s Q f ψ I w c => c [] s [] F H I.refl w .nil⟩
def Kd.arg : Kd → Bool
  | .vw _ => true
  | .dv => true
  | _ => false
theorem ArgOk.of {k : Kd} (hk : k.arg = true) {tp : Hp} (r : Res T.K B F H tp k v d) : ArgOk T.K B F H (.p k) v d := by
  cases k with
  | vw n => exact r
  | dv => exact r
  | ow n => cases hk
  | dw => cases hk
theorem ArgOk.step {k : Kp} (r : ArgOk T.K B F H k v d) (st : Step T.K B F H F' H' s') : ArgOk T.K B F' H' k v d := by
  cases k with
  | am => exact r
  | p k =>
    cases k with
    | vw n => exact View.mono st.ff st.hh r
    | dv => exact ViewD.mono st.ff st.hh r
    | ow n => exact r.elim
    | dw => exact r.elim
theorem ad_cons {α : Type} {e : Expr} {es : List Expr} {k : Kd} {ks : List Kp} {m : M D} {κ : (List D → M α) → M α} (he : ED T W ρ e k m) (hr : AD T W ρ es ks κ) (hk : k.arg = true := by rfl) (hs : ∀ env, starEach (e :: es) env = (false, eval e env) :: starEach es env := by intro _; rfl) :
    AD T W ρ (e :: es) (.p k :: ks) (fun f => m >>= fun d => κ fun ds => f (d :: ds)) := by
  obtain ⟨te, pe, se⟩ := he
  obtain ⟨ta, pa, sa⟩ := hr
  refine ⟨tCons te ta, fun X hX hW => pa_cons (pe X hX hW) (pa X hX hW) (hs X.env), fun B σ H F s Q f ψ I w c => ?_⟩
  refine se B σ H F s _ I (EM.mono (EM.wp_bind w) (fun d s1 w1 v F1 H1 st r => ?_) fun x s1 hx => hx)
  refine sa B σ H1 F1 s1 _ _ ψ (I.step st) (EM.mono w1 (fun _ _ q => q) fun x s2 q => wantX_trans st q) fun ds s2 vs F2 H2 st2 w2 r2 => ?_
  exact c _ s2 _ F2 H2 (st.trans st2) w2 (.cons ((ArgOk.of hk r).step st2) r2)
/-- the list that all see, handed on -/
theorem ad_am {α : Type} {i : Nat} {x : Str} {pos : Pos} {es : List Expr} {ks : List Kp} {κ : (List D → M α) → M α} (n : Nm T i x) (h : ρ[i]? = some .am) (hr : AD T W ρ es ks κ) : AD T W ρ (.Name x pos :: es) (.am :: ks) (fun f => κ fun ds => f (.none :: ds)) := by
  obtain ⟨ta, pa, sa⟩ := hr
  refine ⟨tCons (tVar i) ta, fun X hX hW => pa_cons (n.pe hX) (pa X hX hW) (by rfl), fun B σ H F s Q f ψ I w c => ?_⟩
  obtain ⟨a, e1, e2⟩ := I.getAm h
  refine ⟨.ref a, e2, ?_⟩
  exact sa B σ H F s _ _ ψ I w fun ds s2 vs F2 H2 st2 w2 r2 => c _ s2 _ F2 H2 st2 w2 (.cons ⟨a, e1, rfl⟩ r2)

/-! ### displays -/
theorem args_dp : ∀ {n : Nat} {vs : List V} {ds : List D}, Args T.K B F H (List.replicate n (.p (.vw 0))) vs ds → DpAll T.K F vs ds ∧ vs.length = n
  | 0, _, _, .nil => ⟨.nil, rfl⟩
  | n + 1, _, _, .cons a t => by
    obtain ⟨h1, h2⟩ := args_dp t
    exact ⟨.cons a h1, congrArg (· + 1) h2⟩
/-- a new object laid: F grows by it, or not -/
theorem SI.stepNew (I : SI T.K B ρ σ H F s) {p : Addr} {o : HO} (hp : H p = none) (ho : LenO o) (sh : Bool) : Step T.K B F H (if sh then upd F p o else F) (upd H p o) s := by
  have fp : F p = none := by
    cases q : F p with
    | none => rfl
    | some u => rw [I.fh p u q] at hp; cases hp
  have na : B.a0 ≠ some p := fun z => by obtain ⟨u, q⟩ := I.am.there z; rw [hp] at q; cases q
  have kH : ∀ a u, H a = some u → upd H p o a = some u := fun a u q => by rw [upd_ne (ne_of_none q hp)]; exact q
  have kF : ∀ a u, F a = some u → upd F p o a = some u := fun a u q => by rw [upd_ne (ne_of_none q fp)]; exact q
  have am : ∀ F', Same F F' → F' p = none ∨ B.a0 ≠ some p → (∀ a, a ≠ p → F' a = F a) → AmbOk T.K B F' (upd H p o) s := fun F' ff _ ne => by
    have z := I.am
    unfold AmbOk at z ⊢
    cases q : B.a0 with
    | none => trivial
    | some b =>
      rw [q] at z
      obtain ⟨⟨vs, h1, h2⟩, h3, h4⟩ := z
      have nb : b ≠ p := fun e => na (by rw [q, e])
      exact ⟨⟨vs, kH _ _ h1, DpmAll ff h2⟩, (ne b nb).trans h3, h4⟩
  cases sh with
  | false => exact ⟨fun _ _ q => q, fun a u q => kH a u (I.fh a u q), fun a u _ q => kH a u q, fun a u q => .inl ⟨u, q⟩, am F (fun _ _ q => q) (.inl fp) (fun _ _ => rfl), I.ln.upd ho⟩
  | true =>
    refine ⟨kF, fun a u q => ?_, fun a u _ q => kH a u q, fun a u q => ?_, am _ kF (.inr na) (fun a ha => upd_ne ha), I.ln.upd ho⟩
    · by_cases e : a = p
      · subst e
        have q : upd F a o a = some u := q
        rw [upd_same] at q ⊢; exact q
      · have q : upd F p o a = some u := q
        rw [upd_ne e] at q ⊢; exact I.fh a u q
    · by_cases e : a = p
      · exact .inr (by rw [e]; exact hp)
      · have q : upd F p o a = some u := q
        rw [upd_ne e] at q; exact .inl ⟨u, q⟩
/-- a new tuple is shared -/
theorem SI.newTup (I : SI T.K B ρ σ H F s) {p : Addr} {vs : List V} {ds : List D} (hp : H p = none) (hl : vs.length ≤ sizeLine) (h : DpAll T.K F vs ds) : Step T.K B F H (upd F p (.tup vs)) (upd H p (.tup vs)) s ∧ Dp T.K (upd F p (.tup vs)) (.ref p) (.tuple ds) := by
  have st := I.stepNew (o := .tup vs) hp hl true
  exact ⟨st, .tup (.of upd_same) (DpmAll st.ff h)⟩
theorem own_dp {K : PySem.W.Frag} : ∀ {vs : List V} {ds : List D}, DpAll K F vs ds → All3 (Own K F H 0) vs ds []
  | _, _, .nil => .nil
  | _, _, .cons a t => All3.cons (fp := []) ⟨rfl, a⟩ (own_dp t)
/-- a new list of shared ones is owned -/
theorem SI.newLst (I : SI T.K B ρ σ H F s) {p : Addr} {vs : List V} {ds : List D} (hp : H p = none) (hl : vs.length ≤ sizeLine) (h : DpAll T.K F vs ds) : Step T.K B F H F (upd H p (.lst vs)) s ∧ Res T.K B F (upd H p (.lst vs)) H (.ow 1) (.ref p) (.list ds) := by
  refine ⟨I.stepNew (o := .lst vs) hp hl false, [p], ⟨p, vs, ds, [], rfl, rfl, upd_same, own_dp h, rfl⟩, by simp, fun a ha => ?_⟩
  have e : a = p := by simpa using ha
  subst e
  refine ⟨hp, ?_⟩
  cases q : F a with
  | none => rfl
  | some u => rw [I.fh a u q] at hp; cases hp
theorem small_line {n : Nat} (h : n ≤ 1000) : n ≤ sizeLine := Nat.le_of_lt (small1000 h)
/-- (a, b, ..) -/
theorem ed_tup {es : List Expr} {ks : List Kp} {j : Nat} {pos : Pos} {κ : (List D → M D) → M D} (hr : AD T W ρ es ks κ) (hk : ks = List.replicate ks.length (.p (.vw 0)) := by rfl) (hn : ks.length ≤ 1000 := by decide) :
    ED T W ρ (.Tuple es j pos) (.vw 0) (κ fun ds => pure (.tuple ds)) := by
  obtain ⟨ta, pa, sa⟩ := hr
  refine ⟨tTup ta, fun X hX hW => pe_tup (pa X hX hW), fun B σ H F s Q I w => ?_⟩
  refine sa B σ H F s _ _ _ I w fun ds s1 vs F1 H1 st w1 r => ?_
  rw [hk] at r
  obtain ⟨r1, r2⟩ := args_dp r
  refine ⟨by rw [r2]; exact small_line hn, fun p hp => ?_⟩
  obtain ⟨s3, r3⟩ := (I.step st).newTup hp (by rw [r2]; exact small_line hn) r1
  exact EM.wp_pure w1 _ _ _ (st.trans s3) r3
/-- [a, b, ..] -/
theorem ed_lst {es : List Expr} {ks : List Kp} {pos : Pos} {κ : (List D → M D) → M D} (hr : AD T W ρ es ks κ) (hk : ks = List.replicate ks.length (.p (.vw 0)) := by rfl) (hn : ks.length ≤ 1000 := by decide) :
    ED T W ρ (.List es pos) (.ow 1) (κ fun ds => pure (.list ds)) := by
  obtain ⟨ta, pa, sa⟩ := hr
  refine ⟨tLst ta, fun X hX hW => pe_lst (pa X hX hW), fun B σ H F s Q I w => ?_⟩
  refine sa B σ H F s _ _ _ I w fun ds s1 vs F1 H1 st w1 r => ?_
  rw [hk] at r
  obtain ⟨r1, r2⟩ := args_dp r
  refine ⟨by rw [r2]; exact small_line hn, fun p hp => ?_⟩
  obtain ⟨s3, r3⟩ := (I.step st).newLst hp (by rw [r2]; exact small_line hn) r1
  exact EM.wp_pure w1 _ _ _ (st.trans s3) (r3.top (I.gone st))

/-! ### built-in functions -/
def CallD (T : Tx) (fv : Value) (ks : List Kp) (k : Kd) (g : List D → Option D) : Prop := ∃ r : List V → Hp → VK → Prop, (∀ X, Fits T X → CallR X fv r) ∧
  ∀ (B : Base) (F H : Hp) (s : List D) (ds : List D) (d : D) (vs : List V) (Q : VK), SI T.K B [] [] H F s → Args T.K B F H ks vs ds → g ds = some d → Want T.toCst B F H k Q d s → r vs H Q
theorem ed_blt {x : Str} {id : String} {e : Expr} {es : List Expr} {p pos : Pos} {ks : List Kp} {k : Kd} {g : List D → Option D} {κ : (List D → M D) → M D} (hc : CallD T (.builtin id) ks k g) (hg : GlT T x) (hm : T.mg x = none) (hv : bootBuiltins x = some (.builtin id))
    (ha : AD T W ρ (e :: es) ks κ) (hn : x ≠ "__name__" := by decide) (hdb : (x == ("__debug__" : Str)) = false := by decide) (he : ∀ env, starEach (e :: es) env = (false, eval e env) :: starEach es env := by intro _; rfl)
    (hpl : ∀ env, (backTo pos (starEach es env)).any (·.1) = false := by intro _; rfl) : ED T W ρ (.Call (.Name x p) (e :: es) [] pos) k (κ fun ds => lfo (g ds)) := by
  obtain ⟨ta, pa, sa⟩ := ha
  obtain ⟨r, hr, sr⟩ := hc
  refine ⟨tCB r ta, fun X hX hW => pe_callB (hr X hX) (hg.gl hX) (by rw [hX.mg]; exact hm) hv (pa X hX hW) hn hdb (he X.env) (hpl X.env), fun B σ H F s Q I w => ?_⟩
  refine sa B σ H F s _ _ _ I w fun ds s1 vs F1 H1 st w1 ar => ?_
  obtain ⟨d, e, w2⟩ := wp_lfo w1
  exact sr B F1 H1 s1 ds d vs Q (I.step st).bare ar e (want_trans st (I.gone st) w2)
theorem ed_blty {x : Str} {id : String} {e : Expr} {es : List Expr} {p pos : Pos} {ks : List Kp} {k : Kd} {g : List D → Option D} {κ : (List D → M D) → M D} (hc : CallD T (.type id) ks k g) (hg : GlT T x) (hm : T.mg x = none) (hv : bootBuiltins x = some (.type id))
    (ha : AD T W ρ (e :: es) ks κ) (hn : x ≠ "__name__" := by decide) (hdb : (x == ("__debug__" : Str)) = false := by decide) (he : ∀ env, starEach (e :: es) env = (false, eval e env) :: starEach es env := by intro _; rfl)
    (hpl : ∀ env, (backTo pos (starEach es env)).any (·.1) = false := by intro _; rfl) : ED T W ρ (.Call (.Name x p) (e :: es) [] pos) k (κ fun ds => lfo (g ds)) := by
  obtain ⟨ta, pa, sa⟩ := ha
  obtain ⟨r, hr, sr⟩ := hc
  refine ⟨tCB r ta, fun X hX hW => pe_callTy (hr X hX) (hg.gl hX) (by rw [hX.mg]; exact hm) hv (pa X hX hW) hn hdb (he X.env) (hpl X.env), fun B σ H F s Q I w => ?_⟩
  refine sa B σ H F s _ _ _ I w fun ds s1 vs F1 H1 st w1 ar => ?_
  obtain ⟨d, e, w2⟩ := wp_lfo w1
  exact sr B F1 H1 s1 ds d vs Q (I.step st).bare ar e (want_trans st (I.gone st) w2)

/-! ### defs -/
/-- the caller's side of a call: everything that is there stands still, but what all see -/
def Base.at (a0 : Option Addr) (F H : Hp) : Base := ⟨fun b => if a0 = some b then none else H b, F, a0⟩
def spD (C : Cst) (ks : List Kp) (rk : Kd) (f : List D → M D) : Sp := fun vs H Q E => ∃ (a0 : Option Addr) (F : Hp) (s ds : List D), Same F H ∧ LenOk H ∧ AmbOk C.K (.at a0 F H) F H s ∧ Args C.K (.at a0 F H) F H ks vs ds ∧
  EM.wp (f ds) (fun d s' => ∀ v F' H', Step C.K (.at a0 F H) F H F' H' s' → Res C.K (.at a0 F H) F' H' H rk v d → Q v H') (fun x s' => ∀ cls dd F' H', Step C.K (.at a0 F H) F H F' H' s' → XR C F' H' x cls dd → E cls dd H') s
theorem args_len {ks : List Kp} {vs : List V} {ds : List D} {K : PySem.W.Frag} (h : Args K B F H ks vs ds) : vs.length = ks.length ∧ ds.length = ks.length := by
  induction h with
  | nil => exact ⟨rfl, rfl⟩
  | cons a t ih => exact ⟨congrArg (· + 1) ih.1, congrArg (· + 1) ih.2⟩
/-- a def of the text, as it may be called -/
structure Cal (C : Cst) (k : Nat) (x : Str) (ks : List Kp) (rk : Kd) (f : List D → M D) : Prop where
  ex : ∃ (fa : Addr) (fd : FuncData) (ps : List Str), C.mg x = some (.ref fa) ∧ FnOk C.P C.w C.K C.mg C.base (L2.CX C.P C.w) k fa fd ps (spD C ks rk f) ∧ PySem.W.keepIn C.K (.ref fa) = true ∧ Binds C.K fd ps []
end
end DL
end
section
namespace DL
open PySem PySem.Spec PyProof.Rows L2
section
variable {M : Type → Type} [EM M] {T : Tx} {W : WX} {ρ : List Slot} {B B' : Base} {σ : List (Option V)} {F F' F1 F2 H H' H1 H2 tp : Hp} {s s' s1 s2 : List D} {v : V} {d : D} {K : PySem.W.Frag}
theorem AmbOk.base (h : AmbOk K B F H s) (e : B.a0 = B'.a0) (g : ∀ a, B'.a0 = some a → B'.G a = none) : AmbOk K B' F H s := by
  unfold AmbOk at h ⊢
  rw [e] at h
  cases q : B'.a0 with
  | none => trivial
  | some a =>
    rw [q] at h
    exact ⟨h.1, h.2.1, g a q⟩
theorem Step.base (st : Step K B F H F' H' s') (e : B.a0 = B'.a0) (g : ∀ a, B'.a0 = some a → B'.G a = none) : Step K B' F H F' H' s' := ⟨st.ff, st.fh, fun a o n => st.hh a o (by rw [e]; exact n), st.nw, st.am.base e g, st.ln⟩
theorem Res.base {k : Kd} (r : Res K B F H tp k v d) (e : B.a0 = B'.a0) : Res K B' F H tp k v d := by
  cases k with
  | vw n =>
    have r : View K B.a0 F H n v d := r
    rw [e] at r; exact r
  | dv =>
    have r : ViewD K B.a0 F H v d := r
    rw [e] at r; exact r
  | ow n => exact r
  | dw => exact r
theorem Args.base {ks : List Kp} {vs : List V} {ds : List D} (h : Args K B F H ks vs ds) (e : B.a0 = B'.a0) : Args K B' F H ks vs ds := by
  induction h with
  | nil => exact .nil
  | cons a t ih =>
    rename_i k v d ks vs ds
    refine .cons ?_ ih
    cases k with
    | am =>
      obtain ⟨b, h1, h2⟩ := a
      exact ⟨b, by rw [← e]; exact h1, h2⟩
    | p k =>
      cases k with
      | vw n =>
        have a : View K B.a0 F H n v d := a
        rw [e] at a; exact a
      | dv =>
        have a : ViewD K B.a0 F H v d := a
        rw [e] at a; exact a
      | ow n => exact a.elim
      | dw => exact a.elim
theorem at_amb {a0 : Option Addr} (h : AmbOk K B F H s) (e : B.a0 = a0) : AmbOk K (.at a0 F H) F H s := by
  refine h.base e fun a q => ?_
  have q : a0 = some a := q
  show (if a0 = some a then none else H a) = none
  rw [if_pos q]
/-- f(e, ..), f a def of the text -/
theorem ed_call {x : Str} {k : Nat} {e : Expr} {es : List Expr} {p pos : Pos} {ks : List Kp} {rk : Kd} {f : List D → M D} {κ : (List D → M D) → M D} (c : Cal T.toCst k x ks rk f) (hk : k ≤ T.k) (hg : GlT T x) (ha : AD T W ρ (e :: es) ks κ)
    (hdb : (x == ("__debug__" : Str)) = false := by decide) (he : ∀ env, starEach (e :: es) env = (false, eval e env) :: starEach es env := by intro _; rfl) (hpl : ∀ env, (backTo pos (starEach es env)).any (·.1) = false := by intro _; rfl) :
    ED T W ρ (.Call (.Name x p) (e :: es) [] pos) rk (κ f) := by
  obtain ⟨ta, pa, sa⟩ := ha
  obtain ⟨fa, fd, ps, mg, Fn, kp, bi⟩ := c.ex
  refine ⟨tCallS (spD T.toCst ks rk f) (WE W) ta, fun X hX hW => ?_, fun B σ H F s Q I w => ?_⟩
  · refine pe_callS (CX := L2.CX T.P T.w) (k := k) (f := fa) (fd := fd) (ps := ps) ?_ (hX.room.mono hk) (hg.gl hX) (by rw [hX.mg]; exact mg) (by rw [hX.K]; exact kp) (by rw [hX.K]; exact bi) (fun σ => ?_) (pa X hX hW) hdb (he X.env) (hpl X.env)
    · rw [hX.prog, hX.w, hX.K, hX.mg, hX.base]; exact Fn
    · have z := passAt hW σ
      rw [hX.prog, hX.w] at z
      exact z
  · refine sa B σ H F s _ f _ I w fun ds s1 vs F1 H1 st w1 ar => ?_
    have I1 := I.step st
    refine ⟨B.a0, F1, s1, ds, I1.fh, I1.ln, at_amb I1.am rfl, ar.base rfl, EM.mono w1 (fun d s2 q v F2 H2 st2 r2 => ?_) fun x s2 q cls dd F2 H2 st2 xr => ?_⟩
    · have st3 : Step T.K B F1 H1 F2 H2 s2 := st2.base rfl fun a e => I1.am.noG e
      exact q v F2 H2 (st.trans st3) ((r2.base rfl).top (I.gone st))
    · exact q cls dd F2 H2 (st2.base rfl fun a e => I1.am.noG e) xr
/-- no list that all see among the arguments -/
def Kp.pure : Kp → Bool
  | .p _ => true
  | .am => false
theorem Args.none {ks : List Kp} {vs : List V} {ds : List D} (h : Args K B F H ks vs ds) (hp : ks.all Kp.pure = true) : Args K (.at none F H) F H ks vs ds := by
  induction h with
  | nil => exact .nil
  | cons a t ih =>
    rename_i k v d ks vs ds
    have hp : (k.pure && ks.all Kp.pure) = true := hp
    rw [Bool.and_eq_true] at hp
    refine .cons ?_ (ih hp.2)
    cases k with
    | am => exact absurd hp.1 (by decide)
    | p k =>
      cases k with
      | vw n => exact View.none a
      | dv => exact ViewD.none a
      | ow n => exact a.elim
      | dw => exact a.elim
/-- .. f one that needs no such list -/
theorem ed_callR {x : Str} {k : Nat} {e : Expr} {es : List Expr} {p pos : Pos} {ks : List Kp} {rk : Kd} {f : List D → R D} {κ : (List D → M D) → M D} (c : Cal T.toCst k x ks rk f) (hk : k ≤ T.k) (hg : GlT T x) (ha : AD T W ρ (e :: es) ks κ)
    (hp : ks.all Kp.pure = true := by rfl) (hr : rk.kept = true := by rfl)
    (hdb : (x == ("__debug__" : Str)) = false := by decide) (he : ∀ env, starEach (e :: es) env = (false, eval e env) :: starEach es env := by intro _; rfl) (hpl : ∀ env, (backTo pos (starEach es env)).any (·.1) = false := by intro _; rfl) :
    ED T W ρ (.Call (.Name x p) (e :: es) [] pos) rk (κ fun ds => lft (f ds)) := by
  obtain ⟨ta, pa, sa⟩ := ha
  obtain ⟨fa, fd, ps, mg, Fn, kp, bi⟩ := c.ex
  refine ⟨tCallS (spD T.toCst ks rk f) (WE W) ta, fun X hX hW => ?_, fun B σ H F s Q I w => ?_⟩
  · refine pe_callS (CX := L2.CX T.P T.w) (k := k) (f := fa) (fd := fd) (ps := ps) ?_ (hX.room.mono hk) (hg.gl hX) (by rw [hX.mg]; exact mg) (by rw [hX.K]; exact kp) (by rw [hX.K]; exact bi) (fun σ => ?_) (pa X hX hW) hdb (he X.env) (hpl X.env)
    · rw [hX.prog, hX.w, hX.K, hX.mg, hX.base]; exact Fn
    · have z := passAt hW σ
      rw [hX.prog, hX.w] at z
      exact z
  · refine sa B σ H F s _ _ _ I w fun ds s1 vs F1 H1 st w1 ar => ?_
    have I1 := I.step st
    have conv : ∀ F2 H2 s2, Step T.K (.at none F1 H1) F1 H1 F2 H2 s2 → Step T.K B F1 H1 F2 H2 s1 := fun F2 H2 s2 st2 => by
      refine ⟨st2.ff, st2.fh, fun a o _ e => st2.hh a o (fun z => nomatch z) e, st2.nw, ?_, st2.ln⟩
      have am := I1.am
      unfold AmbOk at am ⊢
      cases q : B.a0 with
      | none => trivial
      | some b =>
        rw [q] at am
        obtain ⟨⟨us, h1, h2⟩, h3, h4⟩ := am
        refine ⟨⟨us, st2.hh b _ (fun z => nomatch z) h1, DpmAll st2.ff h2⟩, ?_, h4⟩
        cases q2 : F2 b with
        | none => rfl
        | some o =>
          rcases st2.nw b o q2 with ⟨o', z⟩ | z
          · rw [h3] at z; cases z
          · rw [h1] at z; cases z
    refine ⟨none, F1, s1, ds, I1.fh, I1.ln, trivial, ar.none hp, R.wp_mono (EM.wp_lft w1) (fun d q v F2 H2 st2 r2 => ?_) fun x q cls dd F2 H2 st2 xr => ?_⟩
    · refine q v F2 H2 (st.trans (conv F2 H2 _ st2)) (Res.top ?_ (I.gone st))
      cases rk with
      | vw n =>
        cases n with
        | zero => exact r2
        | succ n => cases hr
      | dv => cases hr
      | ow n => exact r2
      | dw => exact r2
    · exact q cls dd F2 H2 (conv F2 H2 _ st2) xr
end
end DL
end
section
namespace DL
open PySem PySem.Spec PyProof.Rows L2
/-! ### blocks -/
/-- how a block ends: behind it, by return, break, continue; with what the slots hold -/
inductive Out where
  | nx (ρ : List Slot) | rt (d : D) | bk (ρ : List Slot) | ct (ρ : List Slot)
def Post (K : PySem.W.Frag) (B : Base) (F : Hp) (rk : Kd) (De : Ends) (s' : List D) : Out → Prop
  | .nx ρ => ∀ σ' F' H', Same F F' → SI K B ρ σ' H' F' s' → De.nx σ' H'
  | .rt d => ∀ v F' H', SI K B [] [] H' F' s' → Res K B F' H' B.top rk v d → De.rt v H'
  | .bk ρ => ∀ σ' F' H', Same F F' → SI K B ρ σ' H' F' s' → De.bk σ' H'
  | .ct ρ => ∀ σ' F' H', Same F F' → SI K B ρ σ' H' F' s' → De.ct σ' H'
theorem Post.mono {K : PySem.W.Frag} {B : Base} {F F1 : Hp} {rk : Kd} {De : Ends} {s' : List D} (k : Same F F1) : ∀ {o : Out}, Post K B F rk De s' o → Post K B F1 rk De s' o
  | .nx _, h => fun σ' F' H' k2 => h σ' F' H' (k.trans k2)
  | .rt _, h => h
  | .bk _, h => fun σ' F' H' k2 => h σ' F' H' (k.trans k2)
  | .ct _, h => fun σ' F' H' k2 => h σ' F' H' (k.trans k2)
/-- an exception that leaves a block -/
abbrev PostX (T : Cst) (B : Base) (W : WX) (s' : List D) (x : XC) : Prop := ∀ cls dd σ' F' H', SI T.K B [] [] H' F' s' → XR T F' H' x cls dd → W cls dd σ' H'
section
variable {M : Type → Type} [EM M]
/-- a block -/
def BX (T : Tx) (W : WX) (rk : Kd) (ρ : List Slot) (sts : List Stmt) {α : Type} (it : α → Out) (m : M α) : Prop :=
  ∃ ts : TS, (∀ X, FitS T X → Takes X W → PSs X sts ts) ∧ ∀ (B : Base) (De : Ends) (σ : L2.St) (H F : Hp) (s : List D), SI T.K B ρ σ H F s → EM.wp m (fun a s' => Post T.K B F rk De s' (it a)) (fun x s' => PostX T.toCst B W s' x) s → ts De σ H
/-- a statement -/
def SX (T : Tx) (W : WX) (rk : Kd) (ρ : List Slot) (st : Stmt) {α : Type} (it : α → Out) (m : M α) : Prop :=
  ∃ ts : TS, (∀ X, FitS T X → Takes X W → PS X st ts) ∧ ∀ (B : Base) (De : Ends) (σ : L2.St) (H F : Hp) (s : List D), SI T.K B ρ σ H F s → EM.wp m (fun a s' => Post T.K B F rk De s' (it a)) (fun x s' => PostX T.toCst B W s' x) s → ts De σ H
end
section
variable {M : Type → Type} [EM M] {T : Tx} {W : WX} {rk : Kd} {ρ : List Slot} {B : Base} {σ : List (Option V)} {F F' F1 F2 H H' H1 H2 : Hp} {s s' s1 s2 : List D} {v : V} {d : D} {α β : Type} {it : α → Out} {de : Ends}
/-- what an expression wishes of an exception -/
theorem postX {x : XC} (I : SI T.K B ρ σ H F s) (h : PostX T.toCst B W s' x) : WantX T.toCst B F H W σ x s' := fun cls dd F' H' st xr => h cls dd σ F' H' (I.step st).bare xr
theorem SI.top2 (I : SI T.K B ρ σ H F s) : ∀ a, H a = none → B.top a = none := fun a e => by
  show (if B.a0 = some a then some (.lst []) else B.G a) = none
  rw [if_neg fun z => by obtain ⟨o, q⟩ := I.am.there z; rw [e] at q; cases q]
  cases q : B.G a with
  | none => rfl
  | some o => have := I.gh a o q; rw [e] at this; cases this
theorem bx_nil {a : α} {ρ' : List Slot} (h : it a = .nx ρ') (w : Weak ρ ρ') : BX (M := M) T W rk ρ [] it (pure a) := by
  refine ⟨tNext, fun _ _ _ => pss_nil, fun B De σ H F s I h1 => ?_⟩
  have z := EM.wp_pure h1
  rw [h] at z
  exact z σ F H (Same.refl F) (I.weak w)
theorem bx_one {st : Stmt} {m : M α} (h : SX T W rk ρ st it m) : BX T W rk ρ [st] it m := by
  obtain ⟨ts, p, q⟩ := h
  exact ⟨ts, fun X hX hW => pss_one (p X hX hW), q⟩
/-- a statement that ends with what a state tells, then the rest -/
theorem bx_seq {st : Stmt} {rest : List Stmt} {J : β → List Slot} {m : M β} {f : β → M α} (h : SX T W rk ρ st (fun b => .nx (J b)) m) (hr : ∀ b, BX T W rk (J b) rest it (f b)) : BX T W rk ρ (st :: rest) it (m >>= f) := by
  obtain ⟨ts, p, q⟩ := h
  refine ⟨tSeq ts fun D σ H => ∃ b s F F0 B, Same F0 F ∧ SI T.K B (J b) σ H F s ∧ EM.wp (f b) (fun a s' => Post T.K B F0 rk D s' (it a)) (fun x s' => PostX T.toCst B W s' x) s, fun X hX hW => pss_cons (p X hX hW) ⟨fun pins s σ H D I hh => ?_⟩, fun B De σ H F s I h1 => ?_⟩
  · obtain ⟨b, s0, F, F0, B, kk, J1, w⟩ := hh
    obtain ⟨tr, pr, qr⟩ := hr b
    exact (pr X hX hW).run pins s σ H D I (qr B D σ H F s0 J1 (EM.mono w (fun _ _ z => z.mono kk) fun _ _ z => z))
  · refine q B _ σ H F s I (EM.mono (EM.wp_bind h1) (fun b s1 w => ?_) fun x s1 w => w)
    intro σ' F' H' kk I'
    exact ⟨b, s1, F', F, B, kk, I', w⟩
/-- .. that may end otherwise: g where it does -/
theorem bx_seqX {st : Stmt} {rest : List Stmt} {i1 : β → Out} {m : M β} {f : β → M α} (h : SX T W rk ρ st i1 m) (hr : ∀ b ρ', i1 b = .nx ρ' → BX T W rk ρ' rest it (f b)) (hx : ∀ b, (∀ ρ', i1 b ≠ .nx ρ') → ∃ a, f b = pure a ∧ it a = i1 b) : BX T W rk ρ (st :: rest) it (m >>= f) := by
  obtain ⟨ts, p, q⟩ := h
  refine ⟨tSeq ts fun D σ H => ∃ b ρ' s F F0 B, i1 b = .nx ρ' ∧ Same F0 F ∧ SI T.K B ρ' σ H F s ∧ EM.wp (f b) (fun a s' => Post T.K B F0 rk D s' (it a)) (fun x s' => PostX T.toCst B W s' x) s, fun X hX hW => pss_cons (p X hX hW) ⟨fun pins s σ H D I hh => ?_⟩, fun B De σ H F s I h1 => ?_⟩
  · obtain ⟨b, ρ', s0, F, F0, B, e, kk, J1, w⟩ := hh
    obtain ⟨tr, pr, qr⟩ := hr b ρ' e
    exact (pr X hX hW).run pins s σ H D I (qr B D σ H F s0 J1 (EM.mono w (fun _ _ z => z.mono kk) fun _ _ z => z))
  · refine q B _ σ H F s I (EM.mono (EM.wp_bind h1) (fun b s1 w => ?_) fun x s1 w => w)
    cases e : i1 b with
    | nx ρ' =>
      intro σ' F' H' kk I'
      exact ⟨b, ρ', s1, F', F, B, e, kk, I', w⟩
    | rt d =>
      obtain ⟨a, ea, ia⟩ := hx b (fun ρ' z => by rw [e] at z; cases z)
      rw [ea] at w
      have z := EM.wp_pure w
      rw [ia, e] at z
      exact z
    | bk ρ' =>
      obtain ⟨a, ea, ia⟩ := hx b (fun ρ' z => by rw [e] at z; cases z)
      rw [ea] at w
      have z := EM.wp_pure w
      rw [ia, e] at z
      exact z
    | ct ρ' =>
      obtain ⟨a, ea, ia⟩ := hx b (fun ρ' z => by rw [e] at z; cases z)
      rw [ea] at w
      have z := EM.wp_pure w
      rw [ia, e] at z
      exact z
/-- an owned list of the slots becomes shared, ahead of a block -/
theorem bx_fr {sts : List Stmt} {m : M α} {i n : Nat} (h : ρ[i]? = some (.val (.ow n) d)) (hb : BX T W rk (ρ.set i (.val (.vw 0) d)) sts it m) : BX T W rk ρ sts it m := by
  obtain ⟨ts, p, q⟩ := hb
  refine ⟨ts, p, fun B De σ H F s I h1 => ?_⟩
  obtain ⟨F', I', k⟩ := I.freeze h
  exact q B De σ H F' s I' (EM.mono h1 (fun _ _ z => z.mono k) fun _ _ z => z)
/-! ### simple statements -/
theorem bx_ret {e : Expr} {pos : Pos} {rest : List Stmt} {m : M D} {g : D → α} (he : ED T W ρ e rk m) (hg : ∀ d, it (g d) = .rt d) : BX T W rk ρ (.Return (some e) pos :: rest) it (m >>= fun d => pure (g d)) := by
  obtain ⟨te, p, q⟩ := he
  refine ⟨tSeq (tRet te) tNever, fun X hX hW => pss_cons (ps_ret (p X hX.toFits hW)) pss_never, fun B De σ H F s I h1 => ?_⟩
  refine q B σ H F s _ I (EM.mono (EM.wp_bind h1) (fun d s1 w v F1 H1 st r => ?_) fun x s1 w => postX I w)
  have z := EM.wp_pure w
  rw [hg d] at z
  have I1 := I.step st
  exact z v F1 H1 I1.bare (r.top I.top2)
/-- at the end of a def -/
theorem bx_retD {e : Expr} {pos : Pos} {rest : List Stmt} {m : M D} (he : ED T W ρ e rk m) : BX T W rk ρ (.Return (some e) pos :: rest) Out.rt m := by
  obtain ⟨te, p, q⟩ := he
  refine ⟨tSeq (tRet te) tNever, fun X hX hW => pss_cons (ps_ret (p X hX.toFits hW)) pss_never, fun B De σ H F s I h1 => ?_⟩
  refine q B σ H F s _ I (EM.mono h1 (fun d s1 z v F1 H1 st r => ?_) fun x s1 w => postX I w)
  have I1 := I.step st
  exact z v F1 H1 I1.bare (r.top I.top2)
theorem bx_brk {a : α} {ρ' : List Slot} {pos : Pos} {rest : List Stmt} (h : it a = .bk ρ') (w : Weak ρ ρ') : BX (M := M) T W rk ρ (.Break pos :: rest) it (pure a) := by
  refine ⟨tSeq tBreak tNever, fun _ _ _ => pss_cons ps_break pss_never, fun B De σ H F s I h1 => ?_⟩
  have z := EM.wp_pure h1
  rw [h] at z
  exact z σ F H (Same.refl F) (I.weak w)
theorem bx_cnt {a : α} {ρ' : List Slot} {pos : Pos} {rest : List Stmt} (h : it a = .ct ρ') (w : Weak ρ ρ') : BX (M := M) T W rk ρ (.Continue pos :: rest) it (pure a) := by
  refine ⟨tSeq tCont tNever, fun _ _ _ => pss_cons ps_continue pss_never, fun B De σ H F s I h1 => ?_⟩
  have z := EM.wp_pure h1
  rw [h] at z
  exact z σ F H (Same.refl F) (I.weak w)
/-- a statement that is never reached, or of which nothing is told -/
theorem bx_bad {sts : List Stmt} : BX (M := M) T W rk ρ sts it (lft .bad) := ⟨tNever, fun _ _ _ => pss_never, fun B De σ H F s I h1 => (EM.wp_lft h1).elim⟩
/-- where a name is stored -/
structure Sto (T : Tx) (i : Nat) (x : Str) : Prop where
  ix : T.N[i]? = some x
  loc : Loc T.sc x
  fn : T.fn x = true ∨ T.sc.names.lookup x = some .local
theorem SI.has (I : SI T.K B ρ σ H F s) (hl : σ.length = T.N.length) {i : Nat} {x : Str} (n : T.N[i]? = some x) : ∃ y, ρ[i]? = some y := by
  obtain ⟨fps, al, _, _⟩ := I.sl
  have e := al.length
  obtain ⟨hi, _⟩ := List.getElem?_eq_some_iff.mp n
  exact ⟨ρ[i]'(by omega), List.getElem?_eq_getElem (by omega)⟩
/-- x = e -/
theorem sx_set {i : Nat} {x : Str} {e : Expr} {pos pos' : Pos} {k : Kd} {m : M D} {y : Slot} (st : Sto T i x) (hy : ρ[i]? = some y) (he : ED T W ρ e k m) (hk : k.kept = true := by rfl) (hs : ∀ env, swapsWith e (some (.Name x pos')) pos.line env = pure false := by intro _; rfl) :
    SX T W rk ρ (.Assign [.Name x pos'] e pos) (fun d => .nx (ρ.set i (.val k d))) m := by
  obtain ⟨te, p, q⟩ := he
  refine ⟨tAsg te (gName i), fun X hX hW => ps_set (by rw [hX.N]; exact T.nd) (by rw [hX.N]; exact st.ix) (by rw [hX.sc]; exact st.loc) (p X hX.toFits hW) (hs X.env) (by rw [hX.fn, hX.sc]; exact st.fn), fun B De σ H F s I h1 => ?_⟩
  refine q B σ H F s _ I (EM.mono h1 (fun d s1 w v F1 H1 stp r => ?_) fun x s1 w => postX I w)
  exact w _ F1 H1 stp.ff (I.set stp r hk hy)
/-- an expression alone -/
theorem sx_expr {e : Expr} {pos : Pos} {k : Kd} {m : M D} (he : ED T W ρ e k m) (hs : ∀ env, swapsWith e none pos.line env = pure false := by intro _; rfl) : SX T W rk ρ (.Expr e pos) (fun _ => .nx ρ) m := by
  obtain ⟨te, p, q⟩ := he
  refine ⟨tDrop te, fun X hX hW => ps_expr (p X hX.toFits hW) (hs X.env), fun B De σ H F s I h1 => ?_⟩
  refine q B σ H F s _ I (EM.mono h1 (fun d s1 w v F1 H1 stp r => ?_) fun x s1 w => postX I w)
  exact w σ F1 H1 stp.ff (I.step stp)
/-- if -/
theorem sx_if {c : Expr} {a b : List Stmt} {pos : Pos} {mc : M Bool} {ma mb : M α} (hc : TD T W ρ c mc) (ha : BX T W rk ρ a it ma) (hb : BX T W rk ρ b it mb) : SX T W rk ρ (.If c a b pos) it (mc >>= fun c => if c then ma else mb) := by
  obtain ⟨tc, pc, qc⟩ := hc
  obtain ⟨ta, pa, qa⟩ := ha
  obtain ⟨tb, pb, qb⟩ := hb
  refine ⟨tIfS tc ta tb, fun X hX hW => ps_if (pc X hX.toFits hW) (pa X hX hW) (pb X hX hW), fun B De σ H F s I h1 => ?_⟩
  refine qc B σ H F s _ I (EM.mono (EM.wp_bind h1) (fun c s1 w F1 H1 st => ?_) fun x s1 w => postX I w)
  cases c with
  | true => exact qa B De σ H1 F1 s1 (I.step st) (EM.mono w (fun _ _ z => z.mono st.ff) fun _ _ z => z)
  | false => exact qb B De σ H1 F1 s1 (I.step st) (EM.mono w (fun _ _ z => z.mono st.ff) fun _ _ z => z)
/-- if .. : a block that ends otherwise than behind it; then the rest -/
theorem bx_ifT {c : Expr} {a rest : List Stmt} {pos : Pos} {mc : M Bool} {i1 : β → Out} {ma : M β} {mr : M α} {g : β → α} (hc : TD T W ρ c mc) (ha : BX T W rk ρ a i1 ma) (hr : BX T W rk ρ rest it mr) (hn : ∀ b ρ', i1 b ≠ .nx ρ') (hg : ∀ b, it (g b) = i1 b) :
    BX T W rk ρ (.If c a [] pos :: rest) it (mc >>= fun c => if c then ma >>= fun b => pure (g b) else mr) := by
  obtain ⟨tc, pc, qc⟩ := hc
  obtain ⟨ta, pa, qa⟩ := ha
  obtain ⟨tr, pr, qr⟩ := hr
  refine ⟨tSeq (tIfS tc ta tNext) tr, fun X hX hW => pss_cons (ps_if (pc X hX.toFits hW) (pa X hX hW) pss_nil) (pr X hX hW), fun B De σ H F s I h1 => ?_⟩
  refine qc B σ H F s _ I (EM.mono (EM.wp_bind h1) (fun c s1 w F1 H1 st => ?_) fun x s1 w => postX I w)
  cases c with
  | true =>
    refine qa B _ σ H1 F1 s1 (I.step st) (EM.mono (EM.wp_bind w) (fun b s2 w2 => ?_) fun x s2 w2 => w2)
    have z := Post.mono st.ff (EM.wp_pure w2)
    rw [hg b] at z
    cases e : i1 b with
    | nx ρ' => exact absurd e (hn b ρ')
    | rt d => rw [e] at z; exact z
    | bk ρ' => rw [e] at z; exact z
    | ct ρ' => rw [e] at z; exact z
  | false => exact qr B De σ H1 F1 s1 (I.step st) (EM.mono w (fun _ _ z => z.mono st.ff) fun _ _ z => z)
/-- .. at the end of a def -/
theorem bx_ifD {c : Expr} {a rest : List Stmt} {pos : Pos} {mc : M Bool} {ma mr : M D} (hc : TD T W ρ c mc) (ha : BX T W rk ρ a Out.rt ma) (hr : BX T W rk ρ rest Out.rt mr) : BX T W rk ρ (.If c a [] pos :: rest) Out.rt (mc >>= fun c => if c then ma else mr) := by
  obtain ⟨tc, pc, qc⟩ := hc
  obtain ⟨ta, pa, qa⟩ := ha
  obtain ⟨tr, pr, qr⟩ := hr
  refine ⟨tSeq (tIfS tc ta tNext) tr, fun X hX hW => pss_cons (ps_if (pc X hX.toFits hW) (pa X hX hW) pss_nil) (pr X hX hW), fun B De σ H F s I h1 => ?_⟩
  refine qc B σ H F s _ I (EM.mono (EM.wp_bind h1) (fun c s1 w F1 H1 st => ?_) fun x s1 w => postX I w)
  cases c with
  | true => exact qa B _ σ H1 F1 s1 (I.step st) (EM.mono w (fun d s2 w2 => Post.mono (o := .rt d) st.ff w2) fun x s2 w2 => w2)
  | false => exact qr B De σ H1 F1 s1 (I.step st) (EM.mono w (fun _ _ z => z.mono st.ff) fun _ _ z => z)
end
end DL
end
section
namespace DL
open PySem PySem.Spec PyProof.Rows L2
/-! ### a walk -/
structure Ext (F H F' H' : Hp) : Prop where
  ff : Same F F'
  fh : Same F' H'
  hh : Same H H'
  nw : ∀ a o, F' a = some o → (∃ o', F a = some o') ∨ H a = none
  ln : LenOk H → LenOk H'
theorem Ext.refl {F H : Hp} (h : Same F H) : Ext F H F H := ⟨fun _ _ e => e, h, fun _ _ e => e, fun a o e => .inl ⟨o, e⟩, id⟩
structure Walks (K : PySem.W.Frag) (J : It) (ds : List D) (F0 G0 : Hp) : Prop where
  len : ds.length ≤ sizeLine
  go : ∀ i H, i < ds.length → Same F0 H → Same G0 H → J.go i H
  stop : ∀ H, Same F0 H → Same G0 H → J.stop ds.length H
  yld : ∀ i H x H' F d, ds[i]? = some d → Same F0 F → Same F H → Same G0 H → J.yld i H x H' → ∃ F', Ext F H F' H' ∧ Dp K F' x d
section
variable {M : Type → Type} [EM M]
/-- what stands still besides while it is walked: in a comprehension all that is there but the list that all see -/
def Gc (cm : Bool) (B : Base) (H : Hp) : Hp := fun a => if cm then (if B.a0 = some a then none else H a) else B.G a
/-- what a for or a comprehension (cm) walks: the items that m tells -/
def IDj (cm : Bool) (T : Tx) (W : WX) (ρ : List Slot) (tg iter : Expr) (m : M (List D)) : Prop :=
  ∃ wi : TI, (∀ X, Fits T X → Takes X W → PI X tg iter wi) ∧ ∀ (B : Base) (σ : L2.St) (H F : Hp) (s : List D) (R : It → Hp → Prop), SI T.K B ρ σ H F s →
    EM.wp m (fun ds s' => ∀ J F' H', Step T.K B F H F' H' s' → Walks T.K J ds F' (Gc cm B H') → R J H') (WantX T.toCst B F H W σ) s → wi σ H R
end
/-- a target: what it takes of a value, how the slots stand behind it, which it stores -/
def GD (T : Tx) (tg : Expr) {β : Type} (p : D → Option β) (st : β → List Slot → List Slot) (ix : List Nat) : Prop :=
  ∃ g : TG, (∀ X, Fits T X → PG X tg g) ∧ ∀ (B : Base) (ρ : List Slot) (σ : L2.St) (H F : Hp) (s : List D) (d : D) (b : β) (v : V) (Q : L2.St → Hp → Prop), SI T.K B ρ σ H F s → Dp T.K F v d → p d = some b →
    (∀ σ', SI T.K B (st b ρ) σ' H F s → (∀ vs : List Nat, (∀ i ∈ ix, i ∈ vs) → wipe σ' vs = wipe σ vs) → Q σ' H) → g v σ H Q
def GDs (T : Tx) (tgs : List Expr) {β : Type} (p : List D → Option β) (st : β → List Slot → List Slot) (ix : List Nat) (n : Nat) : Prop :=
  (∀ ds b, p ds = some b → ds.length = n) ∧ ∃ g : TGs, (∀ X, Fits T X → PGs X tgs g) ∧ ∀ (B : Base) (ρ : List Slot) (σ : L2.St) (H F : Hp) (s : List D) (ds : List D) (b : β) (vs : List V) (Q : L2.St → Hp → Prop), SI T.K B ρ σ H F s → DpAll T.K F vs ds → p ds = some b →
    (∀ σ', SI T.K B (st b ρ) σ' H F s → (∀ vs : List Nat, (∀ i ∈ ix, i ∈ vs) → wipe σ' vs = wipe σ vs) → Q σ' H) → g vs σ H Q
section
variable {T : Tx} {B : Base} {ρ : List Slot} {σ : List (Option V)} {F F' H H' : Hp} {s : List D}
theorem SI.ext (I : SI T.K B ρ σ H F s) (e : Ext F H F' H') : Step T.K B F H F' H' s := by
  refine ⟨e.ff, e.fh, fun a o _ q => e.hh a o q, e.nw, ?_, e.ln I.ln⟩
  have am := I.am
  unfold AmbOk at am ⊢
  cases q : B.a0 with
  | none => trivial
  | some b =>
    rw [q] at am
    obtain ⟨⟨us, h1, h2⟩, h3, h4⟩ := am
    refine ⟨⟨us, e.hh b _ h1, DpmAll e.ff h2⟩, ?_, h4⟩
    cases q2 : F' b with
    | none => rfl
    | some o =>
      rcases e.nw b o q2 with ⟨o', z⟩ | z
      · rw [h3] at z; cases z
      · rw [h1] at z; cases z
theorem wipe_set {i : Nat} {x : Option V} : ∀ {vs : List Nat}, i ∈ vs → wipe (σ.set i x) vs = wipe σ vs
  | [], h => nomatch h
  | v :: vs, h => by
    unfold wipe
    by_cases hi : i ∈ vs
    · rw [wipe_set hi]
    · have e : i = v := (List.mem_cons.mp h).resolve_right hi
      subst e
      have key : ∀ (vs : List Nat) (σ : L2.St), i ∉ vs → wipe (σ.set i x) vs = (wipe σ vs).set i x := by
        intro vs
        induction vs with
        | nil => intro σ _; rfl
        | cons w vs ih =>
          intro σ hn
          unfold wipe
          rw [ih σ fun z => hn (List.mem_cons_of_mem _ z)]
          exact List.set_comm _ _ fun z => hn (z ▸ List.mem_cons_self)
      rw [key vs σ hi, List.set_set]
theorem gd_name {i : Nat} {x : Str} {pos : Pos} (n : Sto T i x) : GD T (.Name x pos) (fun d => some d) (fun d ρ => ρ.set i (.val (.vw 0) d)) [i] := by
  refine ⟨gName i, fun X hX => pg_name (by rw [hX.N]; exact T.nd) (by rw [hX.N]; exact n.ix) (by rw [hX.sc]; exact n.loc) (by rw [hX.fn, hX.sc]; exact n.fn), fun B ρ σ H F s d b v Q I h e q => ?_⟩
  have e := Option.some.inj e
  subst e
  exact q _ (I.set' I.refl (k := .vw 0) h rfl i) fun vs hv => wipe_set (hv i (by simp))
theorem gds_one {tg : Expr} {β : Type} {p : D → Option β} {st : β → List Slot → List Slot} {ix : List Nat} (h : GD T tg p st ix) (hs : ∀ env, (assignEach [tg] env).map (·.2) = assign tg env :: (assignEach [] env).map (·.2) := by intro _; rfl) :
    GDs T [tg] (fun ds => match ds with | [d] => p d | _ => none) st ix 1 := by
  obtain ⟨g, pg, q⟩ := h
  refine ⟨fun ds b e => by match ds, e with | [_], _ => rfl, gCons g gNil, fun X hX => pgs_cons (pg X hX) pgs_nil (hs X.env), fun B ρ σ H F s ds b vs Q I h e k => ?_⟩
  cases h with
  | nil => cases e
  | cons h1 h2 =>
    cases h2 with
    | nil => exact ⟨_, _, rfl, q B ρ σ H F s _ b _ _ I h1 e fun σ' I' w => ⟨rfl, k σ' I' w⟩⟩
    | cons _ _ => cases e
theorem gds_cons {tg : Expr} {tgs : List Expr} {β γ : Type} {p : D → Option β} {st : β → List Slot → List Slot} {ix ix' : List Nat} {p' : List D → Option γ} {st' : γ → List Slot → List Slot} {n : Nat} (h : GD T tg p st ix) (h' : GDs T tgs p' st' ix' n)
    (hs : ∀ env, (assignEach (tg :: tgs) env).map (·.2) = assign tg env :: (assignEach tgs env).map (·.2) := by intro _; rfl) :
    GDs T (tg :: tgs) (fun ds => match ds with | d :: r => (p d).bind fun a => (p' r).map fun b => (a, b) | _ => none) (fun c ρ => st' c.2 (st c.1 ρ)) (ix ++ ix') (n + 1) := by
  obtain ⟨g, pg, q⟩ := h
  obtain ⟨hl, g', pg', q'⟩ := h'
  refine ⟨fun ds b e => ?_, gCons g g', fun X hX => pgs_cons (pg X hX) (pg' X hX) (hs X.env), fun B ρ σ H F s ds b vs Q I h e k => ?_⟩
  · cases ds with
    | nil => cases e
    | cons d r =>
      obtain ⟨a, e1, e2⟩ := Option.bind_eq_some_iff.mp e
      obtain ⟨c, e3, e4⟩ := Option.map_eq_some_iff.mp e2
      exact congrArg (· + 1) (hl r c e3)
  cases h with
  | nil => cases e
  | cons h1 h2 =>
    obtain ⟨a, e1, e2⟩ := Option.bind_eq_some_iff.mp e
    obtain ⟨c, e3, e4⟩ := Option.map_eq_some_iff.mp e2
    subst e4
    exact ⟨_, _, rfl, q B ρ σ H F s _ a _ _ I h1 e1 fun σ1 I1 w1 => q' B _ σ1 H F s _ c _ _ I1 h2 e3 fun σ2 I2 w2 => k σ2 I2 fun vs hv => (w2 vs fun i hi => hv i (List.mem_append_right _ hi)).trans (w1 vs fun i hi => hv i (List.mem_append_left _ hi))⟩
/-- the parts of a tuple -/
def partsO : D → Option (List D)
  | .tuple ds => some ds
  | _ => none
theorem gd_tup {es : List Expr} {j : Nat} {pos : Pos} {β : Type} {p : List D → Option β} {st : β → List Slot → List Slot} {ix : List Nat} {n : Nat} (h : GDs T es p st ix n) (hn : ∀ env, (assignEach es env).length = n := by intro _; rfl) (hst : ∀ env, (assignEach es env).findIdx? (·.1) = none := by intro _; rfl) :
    GD T (.Tuple es j pos) (fun d => (partsO d).bind p) st ix := by
  obtain ⟨hp, g, pg, q⟩ := h
  refine ⟨gTup T.K n g, fun X hX => ?_, fun B ρ σ H F s d b v Q I h e k => ?_⟩
  · have z := pg_tup (pos := pos) (k := j) hX.calm (pg X hX) (hn X.env) (hst X.env)
    rw [hX.K] at z
    exact z
  · obtain ⟨ds, e1, e2⟩ := Option.bind_eq_some_iff.mp e
    cases h with
    | tup hs ha =>
      have e1 := Option.some.inj e1
      subst e1
      exact ⟨_, _, rfl, SqTmono hs fun o z => I.fh _ _ z, by rw [dpall_len ha]; exact hp _ _ e2, q B ρ σ H F s _ b _ _ I ha e2 k⟩
    | _ => cases e1
end
/-! ### for -/
section
variable {M : Type → Type} [EM M]
/-- each item changes a state -/
def forS {σ : Type} : List D → σ → (D → σ → M σ) → M σ
  | [], s, _ => pure s
  | d :: ds, s, f => f d s >>= fun s' => forS ds s' f
/-- a turn's end -/
inductive Fl (σ : Type) where
  | nx (s : σ) | ct (s : σ) | bk (s : σ) | rt (d : D)
/-- a loop's end -/
inductive Er (σ : Type) where
  | go (s : σ) | rt (d : D)
def Fl.it {σ : Type} (J : σ → List Slot) : Fl σ → Out
  | .nx s => .nx (J s)
  | .ct s => .ct (J s)
  | .bk s => .bk (J s)
  | .rt d => .rt d
def Er.it {σ : Type} (J : σ → List Slot) : Er σ → Out
  | .go s => .nx (J s)
  | .rt d => .rt d
def forF {σ : Type} : List D → σ → (D → σ → M (Fl σ)) → M (Er σ)
  | [], s, _ => pure (.go s)
  | d :: ds, s, f => f d s >>= fun r => match r with
    | .nx s' => forF ds s' f
    | .ct s' => forF ds s' f
    | .bk s' => pure (.go s')
    | .rt v => pure (.rt v)
variable {T : Tx} {W : WX} {rk : Kd} {ρ : List Slot} {S β : Type} {J : S → List Slot} {tg iter : Expr} {body : List Stmt} {pos : Pos} {mi : M (List D)} {p : D → Option β} {st : β → List Slot → List Slot} {ix : List Nat}
theorem drop_at {α : Type} {xs : List α} {i : Nat} (h : i < xs.length) : xs.drop i = xs[i] :: xs.drop (i + 1) := List.drop_eq_getElem_cons h
theorem sx_for {f : β → S → M S} {s0 : S} (hi : IDj false T W ρ tg iter mi) (hg : GD T tg p st ix) (hb : ∀ s b, BX T W rk (st b (J s)) body (fun s' => .nx (J s')) (f b s)) (hw : Weak ρ (J s0)) (hs : ∀ env x, foldedSetIterable iter env x = pure x := by intro _ _; rfl) :
    SX T W rk ρ (.For tg iter body [] pos) (fun s => .nx (J s)) (mi >>= fun ds => forS ds s0 fun d s => lfo (p d) >>= fun b => f b s) := by
  obtain ⟨wi, pi, qi⟩ := hi
  obtain ⟨g, pg, qg⟩ := hg
  refine ⟨tFor wi g fun De σ H => ∃ s b F F0 B sa, Same F0 F ∧ SI T.K B (st b (J s)) σ H F sa ∧ EM.wp (f b s) (fun s' a => Post T.K B F0 rk De a (.nx (J s'))) (fun x a => PostX T.toCst B W a x) sa, fun X hX hW => ?_, fun B De σ H F s I h1 => ?_⟩
  · refine ps_for hX.own hX.calm (pi X hX.toFits hW) (pg X hX.toFits) ⟨fun pins s σ H D I hh => ?_⟩ (hs X.env)
    obtain ⟨s1, b, F, F0, B, sa, kk, J1, w⟩ := hh
    obtain ⟨tb, pb, qb⟩ := hb s1 b
    exact (pb X hX hW).run pins s σ H D I (qb B D σ H F sa J1 (EM.mono w (fun _ _ z => Post.mono (o := .nx _) kk z) fun _ _ z => z))
  · refine qi B σ H F s _ I (EM.mono (EM.wp_bind h1) (fun ds s1 w Jt F1 H1 stp wk => ?_) fun x s1 w => postX I w)
    have I1 := (I.step stp).weak hw
    let N : Nat → L2.St → Hp → Prop := fun i σ H => ∃ F2 sa sv, SI T.K B (J sv) σ H F2 sa ∧ Same F1 F2 ∧ EM.wp (forS (ds.drop i) sv fun d s => lfo (p d) >>= fun b => f b s) (fun s' a => Post T.K B F rk De a (.nx (J s'))) (fun x a => PostX T.toCst B W a x) sa
    refine ⟨fun i m σ H => m = ds.length - i ∧ i ≤ ds.length ∧ N i σ H, ⟨ds.length, by simp, Nat.zero_le _, F1, s1, s0, I1, Same.refl _, w⟩, ?_⟩
    rintro i m σ2 H2 ⟨rfl, hi, F2, sa, sv, I2, ff, w2⟩
    have fh : Same F1 H2 := fun a o e => I2.fh a o (ff a o e)
    by_cases hlt : i < ds.length
    · rw [drop_at hlt] at w2
      refine .inr ⟨wk.go i H2 hlt fh I2.gh, N (i + 1), fun σ' H' hN => ⟨_, by omega, rfl, hlt, hN⟩, fun x H3 hy => ?_⟩
      obtain ⟨F3, ex, dp⟩ := wk.yld i H2 x H3 F2 ds[i] (List.getElem?_eq_getElem hlt) ff I2.fh I2.gh hy
      have I3 := I2.step (I2.ext ex)
      obtain ⟨b, e, w3⟩ := wp_lfo (EM.wp_bind (EM.wp_bind w2))
      refine qg B _ σ2 H3 F3 sa ds[i] b x _ I3 dp e fun σ4 I4 _ => ?_
      exact ⟨sv, b, F3, F3, B, sa, Same.refl _, I4, EM.mono w3 (fun s' a w4 σ' F' H' kk I' => ⟨F', a, s', I', ff.trans (ex.ff.trans kk), w4⟩) fun x a w => w⟩
    · have e : i = ds.length := by omega
      subst e
      rw [List.drop_length] at w2
      exact .inl ⟨wk.stop H2 fh I2.gh, EM.wp_pure w2 σ2 F2 H2 (stp.ff.trans ff) I2⟩
theorem sx_forF {f : β → S → M (Fl S)} {s0 : S} (hi : IDj false T W ρ tg iter mi) (hg : GD T tg p st ix) (hb : ∀ s b, BX T W rk (st b (J s)) body (Fl.it J) (f b s)) (hw : Weak ρ (J s0)) (hs : ∀ env x, foldedSetIterable iter env x = pure x := by intro _ _; rfl) :
    SX T W rk ρ (.For tg iter body [] pos) (Er.it J) (mi >>= fun ds => forF ds s0 fun d s => lfo (p d) >>= fun b => f b s) := by
  obtain ⟨wi, pi, qi⟩ := hi
  obtain ⟨g, pg, qg⟩ := hg
  refine ⟨tFor wi g fun De σ H => ∃ s b F F0 B sa, Same F0 F ∧ SI T.K B (st b (J s)) σ H F sa ∧ EM.wp (f b s) (fun r a => Post T.K B F0 rk De a (Fl.it J r)) (fun x a => PostX T.toCst B W a x) sa, fun X hX hW => ?_, fun B De σ H F s I h1 => ?_⟩
  · refine ps_for hX.own hX.calm (pi X hX.toFits hW) (pg X hX.toFits) ⟨fun pins s σ H D I hh => ?_⟩ (hs X.env)
    obtain ⟨s1, b, F, F0, B, sa, kk, J1, w⟩ := hh
    obtain ⟨tb, pb, qb⟩ := hb s1 b
    exact (pb X hX hW).run pins s σ H D I (qb B D σ H F sa J1 (EM.mono w (fun _ _ z => z.mono kk) fun _ _ z => z))
  · refine qi B σ H F s _ I (EM.mono (EM.wp_bind h1) (fun ds s1 w Jt F1 H1 stp wk => ?_) fun x s1 w => postX I w)
    have I1 := (I.step stp).weak hw
    let N : Nat → L2.St → Hp → Prop := fun i σ H => ∃ F2 sa sv, SI T.K B (J sv) σ H F2 sa ∧ Same F1 F2 ∧ EM.wp (forF (ds.drop i) sv fun d s => lfo (p d) >>= fun b => f b s) (fun r a => Post T.K B F rk De a (Er.it J r)) (fun x a => PostX T.toCst B W a x) sa
    refine ⟨fun i m σ H => m = ds.length - i ∧ i ≤ ds.length ∧ N i σ H, ⟨ds.length, by simp, Nat.zero_le _, F1, s1, s0, I1, Same.refl _, w⟩, ?_⟩
    rintro i m σ2 H2 ⟨rfl, hi, F2, sa, sv, I2, ff, w2⟩
    have fh : Same F1 H2 := fun a o e => I2.fh a o (ff a o e)
    by_cases hlt : i < ds.length
    · rw [drop_at hlt] at w2
      refine .inr ⟨wk.go i H2 hlt fh I2.gh, N (i + 1), fun σ' H' hN => ⟨_, by omega, rfl, hlt, hN⟩, fun x H3 hy => ?_⟩
      obtain ⟨F3, ex, dp⟩ := wk.yld i H2 x H3 F2 ds[i] (List.getElem?_eq_getElem hlt) ff I2.fh I2.gh hy
      have I3 := I2.step (I2.ext ex)
      obtain ⟨b, e, w3⟩ := wp_lfo (EM.wp_bind (EM.wp_bind w2))
      refine qg B _ σ2 H3 F3 sa ds[i] b x _ I3 dp e fun σ4 I4 _ => ?_
      refine ⟨sv, b, F3, F3, B, sa, Same.refl _, I4, EM.mono w3 (fun r a w4 => ?_) fun x a w => w⟩
      have f03 : Same F F3 := stp.ff.trans (ff.trans ex.ff)
      cases r with
      | nx s' => exact fun σ' F' H' kk I' => ⟨F', a, s', I', ff.trans (ex.ff.trans kk), w4⟩
      | ct s' => exact fun σ' F' H' kk I' => ⟨F', a, s', I', ff.trans (ex.ff.trans kk), w4⟩
      | bk s' => exact fun σ' F' H' kk I' => EM.wp_pure w4 σ' F' H' (f03.trans kk) I'
      | rt d => exact fun v F' H' I' r => EM.wp_pure w4 v F' H' I' r
    · have e : i = ds.length := by omega
      subst e
      rw [List.drop_length] at w2
      exact .inl ⟨wk.stop H2 fh I2.gh, EM.wp_pure w2 σ2 F2 H2 (stp.ff.trans ff) I2⟩
end
/-! ### walks of lists, tuples, texts, ranges -/
section
variable {M : Type → Type} [EM M] {T : Tx} {W : WX} {ρ : List Slot} {B : Base} {σ : List (Option V)} {F F' H H' : Hp} {s : List D} {tg : Expr}
theorem dpall_at {K : PySem.W.Frag} : ∀ {vs : List V} {ds : List D} {i : Nat} {v : V} {d : D}, DpAll K F vs ds → vs[i]? = some v → ds[i]? = some d → Dp K F v d
  | _, _, _, _, _, .nil, h, _ => by simp at h
  | _, _, 0, _, _, .cons a t, h, h' => by
    have e := Option.some.inj h
    have e' := Option.some.inj h'
    subst e e'
    exact a
  | _, _, i + 1, _, _, .cons a t, h, h' => dpall_at (i := i) t h h'
theorem dpall_get {K : PySem.W.Frag} : ∀ {vs : List V} {ds : List D} {i : Nat} {d : D}, DpAll K F vs ds → ds[i]? = some d → ∃ v, vs[i]? = some v
  | _, _, _, _, .nil, h => by simp at h
  | _, _, 0, _, .cons a t, h => ⟨_, rfl⟩
  | _, _, i + 1, _, .cons a t, h => dpall_get (i := i) t h
theorem walks_list {K : PySem.W.Frag} {a : Addr} {vs : List V} {ds : List D} {G0 : Hp} (h : SqL K F a vs) (ha : DpAll K F vs ds) (hl : vs.length ≤ sizeLine) : Walks K (Itl K a) ds F G0 where
  len := by rw [← dpall_len ha]; exact hl
  go := fun i H hi ff _ => by
    obtain ⟨v, e⟩ := dpall_get ha (List.getElem?_eq_getElem hi)
    exact ⟨vs, v, ff.seq h, e⟩
  stop := fun H ff _ => ⟨vs, ff.seq h, by rw [dpall_len ha]; exact Nat.le_refl _⟩
  yld := fun i H x H' F' d hd f0 fh _ y => by
    obtain ⟨e, y⟩ := y
    subst e
    exact ⟨F', .refl fh, Dpm f0 (dpall_at ha (y vs ((f0.trans fh).seq h)) hd)⟩
theorem walks_tup {K : PySem.W.Frag} {a : Addr} {vs : List V} {ds : List D} {G0 : Hp} (h : SqT K F a vs) (ha : DpAll K F vs ds) (hl : vs.length ≤ sizeLine) : Walks K (Itt K a) ds F G0 where
  len := by rw [← dpall_len ha]; exact hl
  go := fun i H hi ff _ => by
    obtain ⟨v, e⟩ := dpall_get ha (List.getElem?_eq_getElem hi)
    exact ⟨vs, v, SqTmono h fun o z => ff _ _ z, e⟩
  stop := fun H ff _ => ⟨vs, SqTmono h fun o z => ff _ _ z, by rw [dpall_len ha]; exact Nat.le_refl _⟩
  yld := fun i H x H' F' d hd f0 fh _ y => by
    obtain ⟨e, y⟩ := y
    subst e
    exact ⟨F', .refl fh, Dpm f0 (dpall_at ha (y vs (SqTmono h fun o z => fh _ _ (f0 _ _ z))) hd)⟩
/-- the signs of a text -/
def signsD (x : Str) : List D := x.cps.toList.map fun c => .str ⟨#[c]⟩
theorem walks_str {K : PySem.W.Frag} {x : Str} {G0 : Hp} (hl : x.length ≤ sizeLine) : Walks K (Its x) (signsD x) F G0 where
  len := by
    have e : (signsD x).length = x.length := by simp [signsD, Str.length]
    rw [e]; exact hl
  go := fun i H hi ff _ => by
    have : i < x.cps.size := by simpa [signsD] using hi
    exact this
  stop := fun H ff _ => by
    show x.cps.size ≤ (signsD x).length
    simp [signsD]
  yld := fun i H v H' F' d hd f0 fh _ y => by
    obtain ⟨e, c, hc, ev⟩ := y
    subst e ev
    refine ⟨F', .refl fh, ?_⟩
    unfold signsD at hd
    rw [List.getElem?_map] at hd
    obtain ⟨c', e1, e2⟩ := Option.map_eq_some_iff.mp hd
    rw [Array.getElem?_toList, hc] at e1
    cases e1
    rw [← e2]
    exact .str _
/-- a list, a tuple or a text is walked -/
def itemsO : D → Option (List D)
  | .list ds => some ds
  | .tuple ds => some ds
  | .str x => if x.length ≤ sizeLine then some (signsD x) else none
  | _ => none
def iAny (K : PySem.W.Frag) (te : TE) : TI := fun σ H R => te σ H fun v H1 => (∃ a, v = .ref a ∧ (∃ xs, SqL K H1 a xs) ∧ R (Itl K a) H1) ∨ (∃ a, v = .ref a ∧ (∃ xs, SqT K H1 a xs) ∧ R (Itt K a) H1) ∨ ∃ x, v = .str x ∧ R (Its x) H1
theorem pi_any {X : Cx} {tg e : Expr} {te : TE} (he : PE X e te) : PI X tg e (iAny X.K te) := by
  refine ⟨fun pins s σ H R I h => ?_⟩
  refine thn (he.run pins s σ H _ I h) fun u s1 ⟨x, H1, I1, r1, q1⟩ => ?_
  rcases q1 with ⟨a, e, ⟨xs, hq⟩, q⟩ | ⟨a, e, ⟨xs, hq⟩, q⟩ | ⟨x, e, q⟩
  · subst e
    cases r1
    obtain ⟨its, rv, p, hz⟩ := I1.list hq
    refine wpAny_pyIter_list p.isList ?_
    refine ⟨s1.heap.objs.size, [s1.heap.objs.size], _, _, H1, rfl, I1.kept (t' := s1.toks) fun b o e => Heap.get?_push_of_some _ e, turn_list a _, ⟨_, Heap.get?_push_size _ rfl, rfl, rfl⟩, fun b hb => ?_, q⟩
    have e : b = s1.heap.objs.size := by simpa using hb
    subst e
    exact I1.fpOk (Nat.le_refl _) (I1.hok.fresh (Nat.le_refl _))
  · subst e
    cases r1
    obtain ⟨its, rv, p, hz⟩ := I1.tuple hq
    refine wpAny_pyIter_tuple (show s1.heap.IsTuple a its.toArray from p) ?_
    refine ⟨s1.heap.objs.size, [s1.heap.objs.size], _, _, H1, rfl, I1.kept (t' := s1.toks) fun b o e => Heap.get?_push_of_some _ e, turn_tuple a _, ⟨_, Heap.get?_push_size _ rfl, rfl, rfl⟩, fun b hb => ?_, q⟩
    have e : b = s1.heap.objs.size := by simpa using hb
    subst e
    exact I1.fpOk (Nat.le_refl _) (I1.hok.fresh (Nat.le_refl _))
  · subst e
    obtain ⟨t, rfl⟩ := r1
    cases ha : x.cps.all (· < 128)
    · exact wpAny_pyIter_wide ha (pi_one (tk := s1.toks) I1 _ (turn_str _ x t "str_iterator" (.inr rfl)) ⟨_, Heap.get?_push_size _ rfl, rfl, rfl⟩ q)
    · exact wpAny_pyIter_ascii ha (pi_one (tk := s1.toks) I1 _ (turn_str _ x t "str_ascii_iterator" (.inl rfl)) ⟨_, Heap.get?_push_size _ rfl, rfl, rfl⟩ q)
theorem id_any {cm : Bool} {e : Expr} {m : M D} (he : ED T W ρ e (.vw 0) m) : IDj cm T W ρ tg e (m >>= fun d => lfo (itemsO d)) := by
  obtain ⟨te, pe, qe⟩ := he
  refine ⟨iAny T.K te, fun X hX hW => ?_, fun B σ H F s R I h => ?_⟩
  · have z := pi_any (tg := tg) (pe X hX hW)
    rw [hX.K] at z
    exact z
  · refine qe B σ H F s _ I (EM.mono (EM.wp_bind h) (fun d s1 w v F1 H1 st r => ?_) fun x s1 w => w)
    obtain ⟨ds, e, w2⟩ := wp_lfo w
    have r : Dp T.K F1 v d := r
    have I1 := I.step st
    cases r with
    | lst hs ha =>
      have e := Option.some.inj e
      subst e
      exact .inl ⟨_, rfl, ⟨_, SqLmono hs fun o z => I1.fh _ _ z⟩, w2 _ F1 H1 st (walks_list hs ha (I1.ln.lst (SqLmono hs fun o z => I1.fh _ _ z)))⟩
    | tup hs ha =>
      have e := Option.some.inj e
      subst e
      exact .inr (.inl ⟨_, rfl, ⟨_, SqTmono hs fun o z => I1.fh _ _ z⟩, w2 _ F1 H1 st (walks_tup hs ha (I1.ln.tup (SqTmono hs fun o z => I1.fh _ _ z)))⟩)
    | str x =>
      have e : (if x.length ≤ sizeLine then some (signsD x) else none) = some ds := e
      by_cases hx : x.length ≤ sizeLine
      · rw [if_pos hx] at e
        have e := Option.some.inj e
        subst e
        exact .inr (.inr ⟨x, rfl, w2 _ F1 H1 st (walks_str hx)⟩)
      · rw [if_neg hx] at e; cases e
    | _ => cases e
end
end DL
end
section
namespace DL
open PySem PySem.Spec PyProof.Rows L2
/-! ### one more slot ahead -/
section
variable {K : PySem.W.Frag} {B : Base} {ρ : List Slot} {σ : List (Option V)} {F F' H H' : Hp} {s s' : List D} {x : Slot} {o : Option V}
theorem SI.tail (I : SI K B (x :: ρ) (o :: σ) H F s) : SI K B ρ σ H F s := by
  obtain ⟨fps, al, nd, k⟩ := I.sl
  cases al with
  | cons p t =>
    rename_i fp fps'
    exact ⟨I.fh, I.f0, I.gh, I.nw, I.am, I.ln, fps', t, (List.nodup_append.mp nd).2.1, fun a ha => k a (List.mem_append_right _ ha)⟩
/-- a new list, owned, ahead -/
theorem SI.lay (I : SI K B ρ σ H F s) {p : Addr} (hp : H p = none) : SI K B (.val (.ow 1) (.list []) :: ρ) (some (.ref p) :: σ) (upd H p (.lst [])) F s := by
  obtain ⟨fps, al, nd, k⟩ := I.sl
  have th : ∀ a ∈ fps, a ≠ p := fun a ha e => by
    obtain ⟨x, y, fp, q, hq⟩ := al.mem ha
    obtain ⟨o, z⟩ := q.there a hq
    rw [e, hp] at z; cases z
  have kH : ∀ a u, H a = some u → upd H p (.lst []) a = some u := fun a u q => by rw [upd_ne (ne_of_none q hp)]; exact q
  have np : F p = none := by
    cases q : F p with
    | none => rfl
    | some u => rw [I.fh p u q] at hp; cases hp
  refine ⟨fun a u q => kH a u (I.fh a u q), I.f0, fun a u q => kH a u (I.gh a u q), I.nw, ?_, I.ln.upd (Nat.zero_le _), [p] ++ fps, .cons ⟨.ref p, rfl, p, [], [], [], rfl, rfl, upd_same, .nil, rfl⟩ (al.mono fun x y fp q hq => q.mono (fun _ _ z => z) fun a ha => upd_ne (th a (hq a ha))), ?_, fun a ha => ?_⟩
  · have am := I.am
    unfold AmbOk at am ⊢
    cases q : B.a0 with
    | none => trivial
    | some b =>
      rw [q] at am
      obtain ⟨⟨us, h1, h2⟩, h3, h4⟩ := am
      exact ⟨⟨us, kH _ _ h1, h2⟩, h3, h4⟩
  · exact List.nodup_cons.mpr ⟨fun z => th p z rfl, nd⟩
  · rcases List.mem_cons.mp ha with e | z
    · subst e
      refine ⟨np, ?_, fun z => ?_⟩
      · cases q : B.G a with
        | none => rfl
        | some u => rw [I.gh a u q] at hp; cases hp
      · obtain ⟨u, q⟩ := I.am.there z
        rw [hp] at q; cases q
    · exact k a z
/-- what a slot's own list is changed to: of shared items -/
theorem SI.put {i : Nat} {ds : List D} (I : SI K B ρ σ H F s) (h : ρ[i]? = some (.val (.ow 1) (.list ds))) :
    ∃ p vs, σ[i]? = some (some (.ref p)) ∧ H p = some (.lst vs) ∧ DpAll K F vs ds ∧ F p = none ∧ B.a0 ≠ some p ∧
      ∀ vs' ds', vs'.length ≤ sizeLine → DpAll K F vs' ds' → SI K B (ρ.set i (.val (.ow 1) (.list ds'))) σ (upd H p (.lst vs')) F s := by
  obtain ⟨fps, al, nd, k⟩ := I.sl
  obtain ⟨y, fp, pre, post, e1, q, e2, putZ⟩ := al.at_ h
  obtain ⟨v, ev, p, vs, ds0, fps0, e3, e4, hp, a3, e5⟩ := q
  cases e4
  subst e3 e5
  have a3' : DpAll K F vs ds ∧ fps0 = [] := by
    clear putZ e1 h hp
    have key : ∀ {vs : List V} {ds : List D} {fps0 : List Addr}, All3 (Own K F H 0) vs ds fps0 → DpAll K F vs ds ∧ fps0 = [] := by
      intro vs ds fps0 h
      induction h with
      | nil => exact ⟨.nil, rfl⟩
      | cons a t ih =>
        obtain ⟨e, d⟩ := a
        subst e
        exact ⟨.cons d ih.1, ih.2⟩
    exact key a3
  obtain ⟨dp, ef⟩ := a3'
  subst ef
  have hpf : p ∈ fps := by rw [e2]; simp
  obtain ⟨k1, k2, k3⟩ := k p hpf
  refine ⟨p, vs, by rw [e1, ev], hp, dp, k1, k3, fun vs' ds' hl dp' => ?_⟩
  have dj : p ∉ pre ∧ p ∉ post := by
    rw [e2, List.nodup_append] at nd
    obtain ⟨n1, _, n3⟩ := nd
    rw [List.nodup_append] at n1
    exact ⟨fun z => n1.2.2 p z p (by simp) rfl, fun z => n3 p (by simp) p z rfl⟩
  have es : σ.set i (some (.ref p)) = σ := by
    have hs : σ[i]? = some (some (.ref p)) := by rw [e1, ev]
    obtain ⟨hi, hv⟩ := List.getElem?_eq_some_iff.mp hs
    rw [← hv]
    exact List.set_getElem_self hi
  have fin := putZ (SlotOk K B F (upd H p (.lst vs'))) (fun x y fp q hq => q.mono (fun _ _ z => z) fun a ha => upd_ne fun e => by
    rcases hq a ha with z | z
    · exact dj.1 (e ▸ z)
    · exact dj.2 (e ▸ z)) (.val (.ow 1) (.list ds')) (some (.ref p)) [p] ⟨.ref p, rfl, p, vs', ds', [], rfl, rfl, upd_same, own_dp dp', rfl⟩
  rw [es] at fin
  refine ⟨fun a u q => ?_, I.f0, fun a u q => ?_, I.nw, ?_, I.ln.upd hl, _, fin, by rw [← e2]; exact nd, fun a ha => k a (by rw [e2]; exact ha)⟩
  · rw [upd_ne fun z => by rw [z, k1] at q; cases q]; exact I.fh a u q
  · rw [upd_ne fun z => by rw [z, k2] at q; cases q]; exact I.gh a u q
  · have am := I.am
    unfold AmbOk at am ⊢
    cases q : B.a0 with
    | none => trivial
    | some b =>
      rw [q] at am
      obtain ⟨⟨us, h1, h2⟩, h3, h4⟩ := am
      exact ⟨⟨us, by rw [upd_ne fun z => k3 (by rw [q, z])]; exact h1, h2⟩, h3, h4⟩
theorem dpall_app {K : PySem.W.Frag} {v : V} {d : D} (h2 : Dp K F v d) : ∀ {vs : List V} {ds : List D}, DpAll K F vs ds → DpAll K F (vs ++ [v]) (ds ++ [d])
  | _, _, .nil => .cons h2 .nil
  | _, _, .cons a t => .cons a (dpall_app h2 t)
theorem Step.new {K : PySem.W.Frag} {p : Addr} {o : HO} (st : Step K B F H F' H' s') (hp : H p = none) (fp : F' p = none) (na : B.a0 ≠ some p) (ho : LenO o) : Step K B F H F' (upd H' p o) s' := by
  refine ⟨st.ff, fun a u q => ?_, fun a u n q => ?_, st.nw, ?_, st.ln.upd ho⟩
  · rw [upd_ne (ne_of_none q fp)]; exact st.fh a u q
  · rw [upd_ne (ne_of_none q hp)]; exact st.hh a u n q
  · have am := st.am
    unfold AmbOk at am ⊢
    cases q : B.a0 with
    | none => trivial
    | some b =>
      rw [q] at am
      obtain ⟨⟨us, h1, h2⟩, h3, h4⟩ := am
      exact ⟨⟨us, by rw [upd_ne fun z => na (by rw [q, z])]; exact h1, h2⟩, h3, h4⟩
/-- the slots of a block's own names forgotten -/
def wipeR (ρ : List Slot) : List Nat → List Slot
  | [] => ρ
  | v :: vs => (wipeR ρ vs).set v .any
theorem SI.forget (I : SI K B ρ σ H F s) (i : Nat) (o : Option V) : SI K B (ρ.set i .any) (σ.set i o) H F s := by
  obtain ⟨fps, al, nd, k⟩ := I.sl
  have e := al.length
  by_cases hi : i < ρ.length
  · obtain ⟨y, fp, pre, post, e1, q, e2, put⟩ := al.at_ (List.getElem?_eq_getElem hi)
    have z := put _ (fun _ _ _ q _ => q) .any o [] (rfl : SlotOk K B F H .any o [])
    exact ⟨I.fh, I.f0, I.gh, I.nw, I.am, I.ln, _, z, nodup3 (e2 ▸ nd) List.nodup_nil (by simp), fun a ha => k a (by rw [e2]; rcases mem3.mp ha with z | z | z <;> first | (cases z; done) | (simp; simp [z]; done) | simp_all)⟩
  · rw [List.set_eq_of_length_le (by omega), List.set_eq_of_length_le (by omega)]
    exact I
theorem SI.wipe (I : SI K B ρ σ H F s) : ∀ vs : List Nat, SI K B (wipeR ρ vs) (wipe σ vs) H F s
  | [] => I
  | v :: vs => (SI.wipe I vs).forget v none
end
/-! ### comprehensions -/
/-- a comprehension's block -/
def Tx.blk (T : Tx) (scope : Scope) : Tx := { T with sc := relS scope T.sc, fn := fun x => scope.names.lookup x == some .cell }
abbrev W0 : WX := fun _ _ _ _ => False
theorem Fits.blk {T : Tx} {X : Cx} (h : Fits T X) (s : Shared) (H : Hp) (scope : Scope) (C : Addr) (cl : List (Str × Addr)) (fp : List Addr) : Fits (T.blk scope) (X.blk s H scope (compEnvC scope cl C X.env) fp) :=
  ⟨h.prog, h.w, h.K, h.mg, h.base, h.N, by show relS scope X.env.scope = relS scope T.sc; rw [h.sc], rfl, h.calm, h.room⟩
section
variable {M : Type → Type} [EM M]
/-- a value of each item -/
def mapS {α : Type} : List D → (D → M α) → M (List α)
  | [], _ => pure []
  | d :: ds, f => f d >>= fun x => mapS ds f >>= fun r => pure (x :: r)
/-- .. of some -/
def fltS {α : Type} : List D → (D → M (Option α)) → M (List α)
  | [], _ => pure []
  | d :: ds, f => f d >>= fun x => fltS ds f >>= fun r => pure (x.toList ++ r)
/-- tests of a comprehension -/
def TsD (T : Tx) (W : WX) (ρ : List Slot) (es : List Expr) (m : M Bool) : Prop :=
  ∃ te : TT, (∀ X, Fits T X → Takes X W → PTs X es te) ∧ ∀ (B : Base) (σ : L2.St) (H F : Hp) (s : List D) (Q : Bool → Hp → Prop), SI T.K B ρ σ H F s → EM.wp m (fun c s' => ∀ F' H', Step T.K B F H F' H' s' → Q c H') (WantX T.toCst B F H W σ) s → te σ H Q
theorem tsd_one {T : Tx} {W : WX} {ρ : List Slot} {c : Expr} {m : M Bool} (h : TD T W ρ c m) : TsD T W ρ [c] m := by
  obtain ⟨te, p, q⟩ := h
  exact ⟨te, fun X hX hW => pts_one (p X hX hW), q⟩
variable {T : Tx} {W : WX} {ρ : List Slot} {β : Type} {tg iter elt : Expr} {ifs : List Expr} {scope : Scope} {own : List (Str × Nat)} {pos : Pos} {mi : M (List D)} {p : D → Option β} {st : β → List Slot → List Slot} {ix : List Nat}
theorem wipe_in {i : Nat} : ∀ {vs : List Nat} {σ : L2.St}, i ∈ vs → (wipe σ vs).set i none = wipe σ vs
  | [], _, h => nomatch h
  | v :: vs, σ, h => by
    unfold wipe
    by_cases e : i = v
    · subst e
      rw [List.set_set]
    · rw [List.set_comm _ _ (Ne.symm e), wipe_in ((List.mem_cons.mp h).resolve_left e)]
theorem wipe_wipe (σ : L2.St) : ∀ (us vs : List Nat), (∀ i ∈ us, i ∈ vs) → wipe (wipe σ vs) us = wipe σ vs
  | [], _, _ => rfl
  | u :: us, vs, h => by
    show (wipe (wipe σ vs) us).set u none = wipe σ vs
    rw [wipe_wipe σ us vs fun i hi => h i (List.mem_cons_of_mem _ hi)]
    exact wipe_in (h u List.mem_cons_self)
/-- the list at D that a comprehension fills -/
theorem SI.own_ {B : Base} {ρ : List Slot} {σ : L2.St} {H F : Hp} {s acc : List D} {Dd : Addr} (I : SI T.K B (.val (.ow 1) (.list acc) :: ρ) (some (.ref Dd) :: σ) H F s) :
    ∃ vs, H Dd = some (.lst vs) ∧ DpAll T.K F vs acc ∧ F Dd = none ∧ B.a0 ≠ some Dd ∧ ∀ vs' ds', vs'.length ≤ sizeLine → DpAll T.K F vs' ds' → SI T.K B (.val (.ow 1) (.list ds') :: ρ) (some (.ref Dd) :: σ) (upd H Dd (.lst vs')) F s := by
  obtain ⟨p, vs, e1, e2, e3, e4, e5, e6⟩ := SI.put (i := 0) I rfl
  have e : p = Dd := by
    have := Option.some.inj (Option.some.inj e1)
    cases this
    rfl
  subst e
  exact ⟨vs, e2, e3, e4, e5, e6⟩
/-- an expression that may be stored by one instruction with its making -/
def EA {M : Type → Type} [EM M] (T : Tx) (W : WX) (ρ : List Slot) (e : Expr) (k : Kd) (m : M D) : Prop :=
  ∃ te : TE, (∀ X, Fits T X → Takes X W → PE X e te) ∧ (∀ (X : Cx) (i : Nat) (y : Str) (py spos : Pos), Fits T X → Takes X W → X.N[i]? = some y → X.env.scope.names.lookup y = some .local → swapsWith e (some (.Name y py)) spos.line X.env = pure true → PS X (.Assign [.Name y py] e spos) (tAsg te (gName i))) ∧
    ∀ (B : Base) (σ : L2.St) (H F : Hp) (s : List D) (Q : VK), SI T.K B ρ σ H F s → EM.wp m (Want T.toCst B F H k Q) (WantX T.toCst B F H W σ) s → te σ H Q
theorem EA.ed {M : Type → Type} [EM M] {T : Tx} {W : WX} {ρ : List Slot} {e : Expr} {k : Kd} {m : M D} (h : EA T W ρ e k m) : ED T W ρ e k m := by
  obtain ⟨te, p, _, q⟩ := h
  exact ⟨te, p, q⟩
theorem gcs {B : Base} {H1 H2 : Hp} (k : ∀ a o, B.a0 ≠ some a → H1 a = some o → H2 a = some o) : Same (Gc true B H1) H2 := fun a o e => by
  have e : (if B.a0 = some a then none else H1 a) = some o := e
  by_cases n : B.a0 = some a
  · rw [if_pos n] at e; cases e
  · rw [if_neg n] at e; exact k a o n e
theorem ea_flt {mt : β → M Bool} {f : β → M D} (hi : IDj true T W ρ tg iter mi) (hg : GD (T.blk scope) tg p st ix) (ht : ∀ b, TsD (T.blk scope) W0 (st b (wipeR ρ (own.map (·.2)))) ifs (mt b)) (he : ∀ b, ED (T.blk scope) W0 (st b (wipeR ρ (own.map (·.2)))) elt (.vw 0) (f b))
    (ok : blkC T.N T.sc scope own = true) (hix : ∀ i ∈ ix, i ∈ own.map (·.2)) (hs : ∀ env x, foldedSetIterable iter env x = pure x := by intro _ _; rfl) :
    EA T W ρ (.ListComp elt [⟨tg, iter, ifs, 0⟩] scope pos) (.ow 1) (mi >>= fun ds => (fltS ds fun d => EM.nox (lfo (p d) >>= fun b => mt b >>= fun c => if c then f b >>= fun x => pure (some x) else pure none)) >>= fun r => pure (.list r)) := by
  obtain ⟨wi, pi, qi⟩ := hi
  obtain ⟨g, pg, qg⟩ := hg
  let ρw := wipeR ρ (own.map (·.2))
  let tt : TT := fun σ H Q => ∃ b B F sa, SI T.K B (st b ρw) σ H F sa ∧ EM.wp (mt b) (fun c s' => ∀ F' H', Step T.K B F H F' H' s' → Q c H') (WantX T.toCst B F H W0 σ) sa
  let te : TE := fun σ H Q => ∃ b B F sa, SI T.K B (st b ρw) σ H F sa ∧ EM.wp (f b) (Want T.toCst B F H (.vw 0) Q) (WantX T.toCst B F H W0 σ) sa
  have hpt : ∀ X, Fits T X → ∀ (s : Shared) (H : Hp) (C : Addr) (cl : List (Str × Addr)) (fp : List Addr), PTs (X.blk s H scope (compEnvC scope cl C X.env) fp) ifs tt := fun X hX s H C cl fp => ⟨fun pins s2 σ H2 Q I2 hh => by
      obtain ⟨b, B, F, sa, J, w⟩ := hh
      obtain ⟨ti, p1, q1⟩ := ht b
      exact (p1 _ (hX.blk s H scope C cl fp) takes0).run pins s2 σ H2 Q I2 (q1 B σ H2 F sa Q J w)⟩
  have hpe : ∀ X, Fits T X → ∀ (s : Shared) (H : Hp) (C : Addr) (cl : List (Str × Addr)) (fp : List Addr), PE (X.blk s H scope (compEnvC scope cl C X.env) fp) elt te := fun X hX s H C cl fp => ⟨fun pins s2 σ H2 Q I2 hh => by
      obtain ⟨b, B, F, sa, J, w⟩ := hh
      obtain ⟨ti, p1, q1⟩ := he b
      exact (p1 _ (hX.blk s H scope C cl fp) takes0).run pins s2 σ H2 Q I2 (q1 B σ H2 F sa Q J w)⟩
  refine ⟨tLc wi g tt te (own.map (·.2)), fun X hX hW => ?_, fun X i y py spos hX hW hy hyl hsw => ?_, fun B σ H F s Q I h => ?_⟩
  · exact pe_lc hX.calm (by rw [hX.N]; exact T.nd) (pi X hX hW) (by rw [hX.N, hX.sc]; exact blkOk_by ok) (fun s H C cl fp => pg _ (hX.blk s H scope C cl fp)) (hpt X hX) (hpe X hX) (hs X.env)
  · exact ps_setLc hX.calm (by rw [hX.N]; exact T.nd) hy hyl hsw (pi X hX hW) (by rw [hX.N, hX.sc]; exact blkOk_by ok) (fun s H C cl fp => pg _ (hX.blk s H scope C cl fp)) (hpt X hX) (hpe X hX) (hs X.env)
  · refine qi B σ H F s _ I (EM.mono (EM.wp_bind h) (fun ds s1 w Jt F1 H1 stp wk Dd hD => ?_) fun x s1 w => w)
    have I1 := I.step stp
    let fi : D → M (Option D) := fun d => EM.nox (lfo (p d) >>= fun b => mt b >>= fun c => if c then f b >>= fun x => pure (some x) else pure none)
    let N : Nat → Hp → Prop := fun i H2 => ∃ F2 sa acc, acc.length ≤ i ∧ SI T.K B (.val (.ow 1) (.list acc) :: ρw) (some (.ref Dd) :: wipe σ (own.map (·.2))) H2 F2 sa ∧ Step T.K B F H F2 H2 sa ∧ Same F1 F2 ∧ (∀ a o, B.a0 ≠ some a → H1 a = some o → H2 a = some o) ∧
      EM.wp (fltS (ds.drop i) fi) (fun r s' => Want T.toCst B F H (.ow 1) Q (.list (acc ++ r)) s') (WantX T.toCst B F H W σ) sa
    have hDH : H Dd = none := I.gone stp Dd hD
    have st0 : Step T.K B F H F1 (upd H1 Dd (.lst [])) s1 := stp.new hDH (by
      cases q : F1 Dd with
      | none => rfl
      | some u => rw [stp.fh Dd u q] at hD; cases hD) (fun z => by obtain ⟨u, q⟩ := stp.am.there z; rw [hD] at q; cases q) (Nat.zero_le _)
    refine ⟨fun i m H => m = ds.length - i ∧ i ≤ ds.length ∧ N i H, ⟨ds.length, by simp, Nat.zero_le _, F1, s1, [], Nat.le_refl _, (I1.wipe _).lay hD, st0, Same.refl _, fun a o _ e => by rw [upd_ne (ne_of_none e hD)]; exact e, ?_⟩, ?_⟩
    · exact EM.mono (EM.wp_bind w) (fun r s' z => by rw [List.nil_append]; exact EM.wp_pure z) fun _ _ z => z
    rintro i m H2 ⟨rfl, hi, F2, sa, acc, hacc, I2, st2, ff, k1, w2⟩
    have fh : Same F1 H2 := fun a o e => I2.fh a o (ff a o e)
    have gc : Same (Gc true B H1) H2 := gcs k1
    by_cases hlt : i < ds.length
    · rw [drop_at hlt] at w2
      refine .inr ⟨wk.go i H2 hlt fh gc, N (i + 1), fun H' hN => ⟨_, by omega, rfl, hlt, hN⟩, fun x H3 hy => ?_⟩
      obtain ⟨F3, ex, dp⟩ := wk.yld i H2 x H3 F2 ds[i] (List.getElem?_eq_getElem hlt) ff I2.fh gc hy
      have s23 := I2.ext ex
      have I3 := I2.step s23
      have w3 := EM.wp_bind (EM.wp_nox (EM.wp_bind w2))
      obtain ⟨b, e, w4⟩ := wp_lfo w3
      refine qg B ρw _ H3 F3 sa ds[i] b x _ I3.tail dp e fun σ4 I4 wv => ?_
      refine ⟨(wv _ hix).trans (wipe_wipe σ _ _ fun i hi => hi), ?_⟩
      refine ⟨b, B, F3, sa, I4, EM.mono (EM.wp_bind w4) (fun c s5 w5 F5 H5 st5 => ?_) fun _ _ z => z.elim⟩
      have I5 := I3.step st5
      have s5' : Step T.K B F H F5 H5 s5 := (st2.trans s23).trans st5
      have k5 : ∀ a o, B.a0 ≠ some a → H1 a = some o → H5 a = some o := fun a o n e => st5.hh a o n (ex.hh a o (k1 a o n e))
      have f15 : Same F1 F5 := ff.trans (ex.ff.trans st5.ff)
      cases c with
      | false =>
        have w6 := EM.wp_pure w5
        refine ⟨F5, s5, acc, Nat.le_succ_of_le hacc, I5, s5', f15, k5, EM.mono (EM.wp_bind w6) (fun r s' z => ?_) fun _ _ z => z⟩
        have z2 := EM.wp_pure z
        exact z2
      | true =>
        refine ⟨b, B, F5, s5, I4.step st5, EM.mono (EM.wp_bind w5) (fun y s6 w6 v F6 H6 st6 r6 => ?_) fun _ _ z => z.elim⟩
        have I6 := I5.step st6
        obtain ⟨vs, e1, e2, e3, e4, put⟩ := I6.own_
        have w7 := EM.wp_pure w6
        have w8 := EM.wp_bind w7
        have hz : vs.length < sizeLine := by rw [dpall_len e2]; exact Nat.lt_of_le_of_lt hacc (Nat.lt_of_lt_of_le hlt wk.len)
        refine ⟨vs, e1, hz, F6, s6, acc ++ [y], by rw [List.length_append]; exact Nat.succ_le_succ hacc, put _ _ (by rw [List.length_append]; exact hz) (dpall_app r6 e2), (s5'.trans st6).new hDH e3 e4 (by show (vs ++ _).length ≤ _; rw [List.length_append]; exact hz), f15.trans st6.ff, fun a o n e => by rw [upd_ne (ne_of_none e hD)]; exact st6.hh a o n (k5 a o n e), EM.mono w8 (fun r s' z => ?_) fun _ _ z => z⟩
        have z := EM.wp_pure z
        rw [List.append_assoc]
        exact z
    · have e : i = ds.length := by omega
      subst e
      rw [List.drop_length] at w2
      have w3 := EM.wp_pure w2
      rw [List.append_nil] at w3
      obtain ⟨vs, e1, e2, e3, e4, put⟩ := I2.own_
      refine .inl ⟨wk.stop H2 fh gc, w3 _ F2 H2 st2 ⟨[Dd], ⟨Dd, vs, acc, [], rfl, rfl, e1, own_dp e2, rfl⟩, by simp, fun a ha => ?_⟩⟩
      have ea : a = Dd := by simpa using ha
      subst ea
      exact ⟨hDH, e3⟩
end
end DL
end
section
namespace DL
open PySem PySem.Spec PyProof.Rows L2
/-! ### a def keeps its promise -/
def Kp.slot : Kp → D → Slot
  | .p k, d => .val k d
  | .am, _ => .am
/-- the slots at a def's start -/
def entry (n : Nat) (ks : List Kp) (ds : List D) : List Slot := List.zipWith Kp.slot ks ds ++ List.replicate (n - ks.length) .any
section
variable {M : Type → Type} [EM M] {C : Cst} {a0 : Option Addr} {F F' H H' : Hp} {s s' : List D}
theorem view_base {K : PySem.W.Frag} : ∀ {n : Nat} {v : V} {d : D}, View K a0 F H n v d → View K a0 F (Base.at a0 F H).G n v d
  | _, _, _, h => h.mono (fun _ _ q => q) fun a o n e => by
    show (if a0 = some a then none else H a) = some o
    rw [if_neg n]; exact e
theorem args_all {K : PySem.W.Frag} {ks : List Kp} {vs : List V} {ds : List D} (h : Args K (.at a0 F H) F H ks vs ds) : All3 (SlotOk K (.at a0 F H) F H) (List.zipWith Kp.slot ks ds) (vs.map some) [] := by
  induction h with
  | nil => exact .nil
  | cons a t ih =>
    rename_i k v d ks vs ds
    refine All3.cons (fp := []) ?_ ih
    cases k with
    | am =>
      obtain ⟨b, e1, e2⟩ := a
      exact ⟨rfl, b, e1, by rw [e2]⟩
    | p k =>
      cases k with
      | vw n => exact ⟨rfl, v, rfl, view_base a⟩
      | dv =>
        obtain ⟨b, kvs, kds, e1, e2, h, na, p⟩ := a
        refine ⟨rfl, v, rfl, b, kvs, kds, e1, e2, ?_, na, p⟩
        show (if a0 = some b then none else H b) = some _
        rw [if_neg (show a0 ≠ some b from na)]; exact h
      | ow n => exact a.elim
      | dw => exact a.elim
theorem all_any {K : PySem.W.Frag} {B : Base} : ∀ n : Nat, All3 (SlotOk K B F H) (List.replicate n .any) (List.replicate n none) []
  | 0 => .nil
  | n + 1 => All3.cons (fp := []) rfl (all_any n)
theorem All3.app {α β : Type} {P : α → β → List Addr → Prop} {xs' : List α} {ys' : List β} {fps' : List Addr} (h' : All3 P xs' ys' fps') : ∀ {xs : List α} {ys : List β} {fps : List Addr}, All3 P xs ys fps → All3 P (xs ++ xs') (ys ++ ys') (fps ++ fps')
  | _, _, _, .nil => h'
  | _, _, _, .cons p t => by
    have z := All3.cons p (All3.app h' t)
    rw [List.append_assoc]
    exact z
theorem si_start {K : PySem.W.Frag} {ks : List Kp} {vs : List V} {ds : List D} {N : List Str} (fh : Same F H) (ln : LenOk H) (am : AmbOk K (.at a0 F H) F H s) (h : Args K (.at a0 F H) F H ks vs ds) : SI K (.at a0 F H) (entry N.length ks ds) (L2.start N vs) H F s := by
  refine ⟨fh, fun _ _ q => q, fun a o e => ?_, fun a o e => .inl ⟨o, e⟩, am, ln, [], ?_, List.nodup_nil, by simp⟩
  · have e : (if a0 = some a then none else H a) = some o := e
    by_cases q : a0 = some a
    · rw [if_pos q] at e; cases e
    · rw [if_neg q] at e; exact e
  · unfold entry L2.start
    rw [(args_len h).1]
    exact All3.app (all_any _) (args_all h)
theorem fin_step {K : PySem.W.Frag} (I : SI K (.at a0 F H) [] [] H' F' s') (fh : Same F H) : Step K (.at a0 F H) F H F' H' s' := by
  refine ⟨I.f0, I.fh, fun a o n e => I.gh a o ?_, fun a o e => ?_, I.am, I.ln⟩
  · have n : a0 ≠ some a := n
    show (if a0 = some a then none else H a) = some o
    rw [if_neg n]; exact e
  · rcases I.nw a o e with z | z
    · exact .inl z
    · by_cases q : a0 = some a
      · have := I.am.noF (a := a) q
        rw [e] at this; cases this
      · have z : (if a0 = some a then none else H a) = none := z
        rw [if_neg q] at z
        exact .inr z
theorem fin_top (a : Addr) (h : (Base.at a0 F H).top a = none) : H a = none := by
  have h : (if a0 = some a then some (.lst []) else if a0 = some a then none else H a) = none := h
  by_cases q : a0 = some a
  · rw [if_pos q] at h; cases h
  · rw [if_neg q, if_neg q] at h; exact h
theorem def_core {N ps : List Str} {sc : Scope} {k : Nat} {x qual : Str} {params : Arguments} {body : List Stmt} {fa : Addr} {fd : FuncData} {ks : List Kp} {rk : Kd} {f : List D → M D} {α : Type} {it : α → Out} {m : List D → M α}
    (F : FunD C.K x qual params body sc [] [] fa fd) (S : FnScope N ps sc) (hk : ks.length = ps.length) (hb : ∀ (W : WX) (ds : List D), ds.length = ks.length → BX { C with N := N, sc := sc, fn := fun _ => true, k := k, nd := S.nd } W rk (entry N.length ks ds) body it (m ds))
    (hf : ∀ (B : Base) (F H : Hp) (De : Ends) (ψ : D → List D → Prop) (χ : XC → List D → Prop) (ds : List D) (s : List D), EM.wp (f ds) ψ χ s → (∀ d s', ψ d s' → Post C.K B F rk De s' (.rt d)) → (∀ σ H', De.nx σ H' = De.rt .non H') → EM.wp (m ds) (fun a s' => Post C.K B F rk De s' (it a)) χ s) :
    FnOk C.P C.w C.K C.mg C.base (L2.CX C.P C.w) (k + 1) fa fd ps (spD C ks rk f) := by
  refine F.ok S (fun vs H Q E h => ?_) (fun cdv A outer s0 H vs Q E hr h => ?_)
  · obtain ⟨a0, F, s, ds, _, _, _, ar, _⟩ := h
    rw [(args_len ar).1, hk]
  · obtain ⟨a0, F0, s, ds, fh, ln, am, ar, w⟩ := h
    obtain ⟨ts, p, q⟩ := hb (fun cls d _ H => E cls d H) ds (args_len ar).2
    refine ⟨ts, p _ ⟨⟨rfl, rfl, rfl, rfl, rfl, rfl, rfl, rfl, rfl, hr⟩, passes_of rfl, rfl, rfl⟩ (takes_of rfl rfl rfl rfl), ?_⟩
    refine q (.at a0 F0 H) _ _ H F0 s (si_start fh ln am ar) (EM.mono (hf (.at a0 F0 H) F0 H { nx := fun _ H' => Q .non H', rt := Q } _ _ ds s w (fun d s' z v F' H' I r => ?_) fun _ _ => rfl) (fun _ _ z => z) fun x s' z cls dd σ' F' H' I xr => ?_)
    · exact z v F' H' (fin_step I fh) (r.top fun a => fin_top a)
    · exact z cls dd F' H' (fin_step I fh) xr
/-- .. every way of which returns -/
theorem def_ok {N ps : List Str} {sc : Scope} {k : Nat} {x qual : Str} {params : Arguments} {body : List Stmt} {fa : Addr} {fd : FuncData} {ks : List Kp} {rk : Kd} {f : List D → M D}
    (F : FunD C.K x qual params body sc [] [] fa fd) (S : FnScope N ps sc) (hm : C.mg x = some (.ref fa)) (hk : ks.length = ps.length) (bi : Binds C.K fd ps [])
    (hb : ∀ (W : WX) (ds : List D), ds.length = ks.length → BX { C with N := N, sc := sc, fn := fun _ => true, k := k, nd := S.nd } W rk (entry N.length ks ds) body Out.rt (f ds)) : Cal C (k + 1) x ks rk f :=
  ⟨fa, fd, ps, hm, def_core F S hk hb fun B F H De ψ χ ds s w h _ => EM.mono w (fun d s' z => h d s' z) fun _ _ z => z, F.kp, bi⟩
end
end DL
end
section
namespace DL
open PySem PySem.Spec PyProof.Rows L2
section
variable {M : Type → Type} [EM M] {T : Tx} {W : WX} {ρ : List Slot} {B : Base} {σ : List (Option V)} {F F' F1 F2 H H' H1 H2 : Hp} {s s' s1 s2 : List D} {v : V} {d : D}
theorem Dp.int_ {K : PySem.W.Frag} {v : V} {i : Int} (h : Dp K F v (.int i)) : v = .int i := by cases h; rfl
theorem Dp.str_ {K : PySem.W.Frag} {v : V} {x : Str} (h : Dp K F v (.str x)) : v = .str x := by cases h; rfl
theorem Dp.bool_ {K : PySem.W.Frag} {v : V} {x : Bool} (h : Dp K F v (.bool x)) : v = .bl x := by cases h; rfl
theorem Dp.none_ {K : PySem.W.Frag} {v : V} (h : Dp K F v .none) : v = .non := by cases h; rfl
theorem Dp.list_ {K : PySem.W.Frag} {v : V} {ds : List D} (h : Dp K F v (.list ds)) : ∃ a vs, v = .ref a ∧ SqL K F a vs ∧ DpAll K F vs ds := by cases h with | lst a b => exact ⟨_, _, rfl, a, b⟩
theorem Dp.tup_ {K : PySem.W.Frag} {v : V} {ds : List D} (h : Dp K F v (.tuple ds)) : ∃ a vs, v = .ref a ∧ SqT K F a vs ∧ DpAll K F vs ds := by cases h with | tup a b => exact ⟨_, _, rfl, a, b⟩
theorem View.of_dp {K : PySem.W.Frag} {a0 : Option Addr} {v : V} {d : D} (h : Dp K F v d) : ∀ {n : Nat}, View K a0 F H n v d
  | 0 => h
  | _ + 1 => .inl h
/-- a list seen once: its items are shared -/
theorem View.list1 {K : PySem.W.Frag} {a0 : Option Addr} {v : V} {ds : List D} (k : Same F H) (h : View K a0 F H 1 v (.list ds)) : ∃ a vs, v = .ref a ∧ SqL K H a vs ∧ DpAll K F vs ds := by
  rcases h with h | ⟨a, vs, ds', e1, e2, h, _, p⟩
  · obtain ⟨a, vs, e, h1, h2⟩ := Dp.list_ h
    exact ⟨a, vs, e, SqLmono h1 fun o z => k _ _ z, h2⟩
  · cases e2
    exact ⟨a, vs, e1, h, Dpm_all.mpr p⟩
theorem View.flat {K : PySem.W.Frag} {a0 : Option Addr} {n : Nat} {v : V} (h : View K a0 F H n v d) (hd : ∀ ds, d ≠ .list ds) : Dp K F v d := by
  cases n with
  | zero => exact h
  | succ n =>
    rcases h with h | ⟨a, vs, ds', e1, e2, h, _, p⟩
    · exact h
    · exact absurd e2 (hd ds')
/-! ### + - * // % ** -/
def addO : D → D → Option D
  | .int i, .int j => some (.int (i + j))
  | .str a, .str b => if a.length + b.length ≤ sizeLine then some (.str (a ++ b)) else none
  | .tuple a, .tuple b => if a.length + b.length ≤ sizeLine then some (.tuple (a ++ b)) else none
  | _, _ => none
/-- two lists together, a new one -/
def catO : D → D → Option D
  | .list a, .list b => if a.length + b.length ≤ sizeLine then some (.list (a ++ b)) else none
  | _, _ => none
def subO : D → D → Option D
  | .int i, .int j => some (.int (i - j))
  | _, _ => none
def mulO : D → D → Option D
  | .int i, .int j => if i.natAbs < 2 ^ 64 ∨ j.natAbs < 2 ^ 64 ∨ (i.natAbs < 2 ^ 1000 ∧ j.natAbs < 2 ^ 1000) then some (.int (i * j)) else none
  | _, _ => none
def fdivO : D → D → Option D
  | .int i, .int j => if 0 < j ∧ j < 1073741824 then some (.int (i / j)) else none
  | _, _ => none
def modO : D → D → Option D
  | .int i, .int j => if 0 < j then some (.int (i % j)) else none
  | _, _ => none
def powO : D → D → Option D
  | .int i, .int j => if 0 ≤ j ∧ j ≤ 1000000 ∧ i.natAbs < 2 ^ 64 then some (.int (i ^ j.toNat)) else none
  | _, _ => none
theorem op_int {op : Value → Value → Sem Value} {C : Int → Int → Prop} {f : Int → Int → Int} (h : ∀ X, Fits T X → OpR X op (rI C fun i j => .int (f i j))) {g : D → D → Option D} (hg : ∀ x y d, g x y = some d → ∃ i j, x = .int i ∧ y = .int j ∧ C i j ∧ d = .int (f i j)) :
    OpD T op 0 0 (.vw 0) g := ⟨_, h, fun B F H s dx dy d x y Q I hx hy e w => by
  obtain ⟨i, j, e1, e2, c, e3⟩ := hg _ _ _ e
  subst e1 e2 e3
  exact ⟨i, j, Dp.int_ hx, Dp.int_ hy, c, w _ F H I.refl (.int _)⟩⟩
theorem od_sub : OpD T (binaryOp .Sub) 0 0 (.vw 0) subO := op_int (C := fun _ _ => True) (fun X _ => by
    intro pins s σ H x y v u Q I rx ry h
    obtain ⟨i, j, e1, e2, _, q⟩ := h
    exact op_sub pins s σ H x y v u Q I rx ry ⟨i, j, e1, e2, q⟩) fun x y d e => by
  unfold subO at e
  split at e
  · exact ⟨_, _, rfl, rfl, trivial, (Option.some.inj e).symm⟩
  · cases e
theorem mul_ok {i : Int} (h : i.natAbs < 2 ^ 64) : -(2 ^ 64) < i ∧ i < 2 ^ 64 := by omega
theorem mul_all {i j : Int} (h : i.natAbs < 2 ^ 64 ∨ j.natAbs < 2 ^ 64 ∨ (i.natAbs < 2 ^ 1000 ∧ j.natAbs < 2 ^ 1000)) : IntMulOk i j := by
  rcases h with h | h | ⟨h, k⟩
  · exact (show CMul i j from .inl (mul_ok h)).ok
  · exact (show CMul i j from .inr (mul_ok h)).ok
  · exact (wide_mul (a := 1000) (b := 1000) h k (by decide) (by decide) (by decide)).ok
theorem od_mul : OpD T (binaryOp .Mult) 0 0 (.vw 0) mulO := op_int (C := fun i j => i.natAbs < 2 ^ 64 ∨ j.natAbs < 2 ^ 64 ∨ (i.natAbs < 2 ^ 1000 ∧ j.natAbs < 2 ^ 1000)) (fun X _ => opI fun _ _ _ _ _ _ _ hc q => PyProof.Rows.mul_int q (mul_all hc)) fun x y d e => by
  unfold mulO at e
  split at e
  · split at e
    · rename_i i j h
      exact ⟨i, j, rfl, rfl, h, (Option.some.inj e).symm⟩
    · cases e
  · cases e
theorem od_fdiv : OpD T (binaryOp .FloorDiv) 0 0 (.vw 0) fdivO := op_int (fun X _ => op_fdiv) fun x y d e => by
  unfold fdivO at e
  split at e
  · split at e
    · rename_i i j h
      exact ⟨i, j, rfl, rfl, h, (Option.some.inj e).symm⟩
    · cases e
  · cases e
theorem od_mod : OpD T (binaryOp .Mod) 0 0 (.vw 0) modO := op_int (fun X _ => op_mod) fun x y d e => by
  unfold modO at e
  split at e
  · split at e
    · rename_i i j h
      exact ⟨i, j, rfl, rfl, h, (Option.some.inj e).symm⟩
    · cases e
  · cases e
theorem od_pow : OpD T (binaryOp .Pow) 0 0 (.vw 0) powO := op_int (fun X _ => op_pow) fun x y d e => by
  unfold powO at e
  split at e
  · split at e
    · rename_i i j h
      exact ⟨i, j, rfl, rfl, h, (Option.some.inj e).symm⟩
    · cases e
  · cases e
theorem od_add : OpD T (binaryOp .Add) 0 0 (.vw 0) addO := by
  refine ⟨fun x y H Q => (∃ i j, x = .int i ∧ y = .int j ∧ Q (.int (i + j)) H) ∨ (∃ i j, x = .str i ∧ y = .str j ∧ i.length + j.length ≤ sizeLine ∧ Q (.str (i ++ j)) H) ∨ rCatA T.K x y H Q, fun X hX => ?_, fun B F H s dx dy d x y Q I hx hy e w => ?_⟩
  · have z := op_add.or (op_add_str.or (op_catA (X := X)))
    rw [hX.K] at z
    exact z
  · unfold addO at e
    split at e
    · cases Option.some.inj e
      exact .inl ⟨_, _, Dp.int_ hx, Dp.int_ hy, w _ F H I.refl (.int _)⟩
    · split at e
      · rename_i hl
        cases Option.some.inj e
        exact .inr (.inl ⟨_, _, Dp.str_ hx, Dp.str_ hy, hl, w _ F H I.refl (.str _)⟩)
      · cases e
    · split at e
      · rename_i hl
        cases Option.some.inj e
        obtain ⟨a, vs, e1, h1, h2⟩ := Dp.tup_ hx
        obtain ⟨b, us, e3, h3, h4⟩ := Dp.tup_ hy
        subst e1 e3
        have k1 := SqTmono (H' := H) h1 fun o z => I.fh _ _ z
        have k3 := SqTmono (H' := H) h3 fun o z => I.fh _ _ z
        have l2 := dpall_len h2
        have l4 := dpall_len h4
        refine .inr (.inr ⟨a, b, vs, us, rfl, rfl, k1, k3, by omega, fun z => ?_, fun _ z => ?_, fun _ _ p hp => ?_⟩)
        · subst z
          cases h2
          exact w _ F H I.refl (.tup h3 h4)
        · subst z
          cases h4
          rw [List.append_nil] at w
          exact w _ F H I.refl (.tup h1 h2)
        · have app : ∀ {vs us : List V} {a b : List D}, DpAll T.K F vs a → DpAll T.K F us b → DpAll T.K F (vs ++ us) (a ++ b) := by
            intro vs us a b h k
            induction vs generalizing a with
            | nil =>
              cases h
              exact k
            | cons _ _ ih =>
              cases h with
              | cons x y => exact .cons x (ih y)
          obtain ⟨st, r⟩ := I.newTup hp (by rw [List.length_append]; omega) (app h2 h4)
          exact w _ _ _ st r
      · cases e
    · cases e
theorem dpall_cat {K : PySem.W.Frag} : ∀ {vs us : List V} {a b : List D}, DpAll K F vs a → DpAll K F us b → DpAll K F (vs ++ us) (a ++ b)
  | _, _, _, _, .nil, k => k
  | _, _, _, _, .cons x y, k => .cons x (dpall_cat y k)
/-- two lists, however they stand -/
def rCatZ (K : PySem.W.Frag) : R2 := fun x y H Q => ∃ l b xs zs, x = .ref l ∧ y = .ref b ∧ SqL K H l xs ∧ SqL K H b zs ∧ xs.length + zs.length ≤ sizeLine ∧ ∀ p, H p = none → Q (.ref p) (upd H p (.lst (xs ++ zs)))
theorem op_catZ {X : Cx} : OpR X (binaryOp .Add) (rCatZ X.K) := by
  intro pins s σ H x y v u Q I rx ry h
  obtain ⟨l, b, xs, zs, rfl, rfl, hH, hB, hz, q⟩ := h
  cases rx
  cases ry
  obtain ⟨its, r, pl, _⟩ := I.list hH
  obtain ⟨its2, r2, pl2, _⟩ := I.list hB
  have hl := r.length
  have hl2 := r2.length
  obtain ⟨⟨cls, dd, data, sl⟩, n, ho, hc, hdd, hd⟩ := pl
  obtain ⟨⟨cls2, dd2, data2, sl2⟩, n2, ho2, hc2, hdd2, hd2⟩ := pl2
  simp only at hc hd hc2 hd2
  subst hc hd hc2 hd2
  refine concat_meets ⟨_, ho, rfl⟩ ⟨_, ho2, rfl⟩ noFill_list_add seq_list_add PySem.F.slot_list_add PySem.F.entry_list_add (PySem.F.args_list_add_2 _ _) (list_addW l b its.toArray its2.toArray n n2 dd dd2 sl sl2 (by rw [List.size_toArray, List.size_toArray]; omega)) ⟨ho, ho2, ?_⟩
  have ea : its.toArray ++ its2.toArray = (its ++ its2).toArray := by simp
  rw [ea]
  exact ⟨.ref _, _, I.lnew (t' := s.toks) (r.append r2) (by rw [List.length_append]; omega), rfl, q _ I.fresh⟩
theorem od_cat : OpD T (binaryOp .Add) 1 1 (.ow 1) catO := by
  refine ⟨rCatZ T.K, fun X hX => ?_, fun B F H s dx dy d x y Q I hx hy e w => ?_⟩
  · have z := op_catZ (X := X)
    rw [hX.K] at z
    exact z
  · unfold catO at e
    split at e
    · split at e
      · rename_i hl
        cases Option.some.inj e
        obtain ⟨a, vs, e1, h1, h2⟩ := View.list1 I.fh hx
        obtain ⟨b, us, e3, h3, h4⟩ := View.list1 I.fh hy
        subst e1 e3
        have l2 := dpall_len h2
        have l4 := dpall_len h4
        refine ⟨a, b, vs, us, rfl, rfl, h1, h3, by omega, fun p hp => ?_⟩
        obtain ⟨st, r⟩ := I.newLst hp (by rw [List.length_append]; omega) (dpall_cat h2 h4)
        exact w _ _ _ st r
      · cases e
    · cases e
/-! ### comparisons -/
def ltO : D → D → Option Bool
  | .int i, .int j => some (decide (i < j))
  | .str x, .str y => some (decide (x.cps.toList < y.cps.toList))
  | _, _ => none
def leO : D → D → Option Bool
  | .int i, .int j => some (decide (i ≤ j))
  | _, _ => none
def gtO : D → D → Option Bool
  | .int i, .int j => some (decide (j < i))
  | _, _ => none
def geO : D → D → Option Bool
  | .int i, .int j => some (decide (j ≤ i))
  | _, _ => none
theorem ob_int {op : CmpOp} {f : Int → Int → Bool} (h : ∀ X : Cx, OpR X (compareOp op) (rI0 fun i j => .bl (f i j))) {g : D → D → Option Bool} (hg : ∀ x y c, g x y = some c → ∃ i j, x = .int i ∧ y = .int j ∧ c = f i j) : OpB T op 0 0 g :=
  ⟨_, fun X _ => h X, fun B F H s dx dy c x y Q I hx hy e w => by
    obtain ⟨i, j, e1, e2, e3⟩ := hg _ _ _ e
    subst e1 e2 e3
    exact ⟨i, j, Dp.int_ hx, Dp.int_ hy, w⟩⟩
theorem ob_le : OpB T .LtE 0 0 leO := ob_int (fun X => op_le) fun x y c e => by
  unfold leO at e
  split at e
  · exact ⟨_, _, rfl, rfl, (Option.some.inj e).symm⟩
  · cases e
theorem ob_gt : OpB T .Gt 0 0 gtO := ob_int (fun X => op_gt) fun x y c e => by
  unfold gtO at e
  split at e
  · exact ⟨_, _, rfl, rfl, (Option.some.inj e).symm⟩
  · cases e
theorem ob_ge : OpB T .GtE 0 0 geO := ob_int (fun X => op_ge) fun x y c e => by
  unfold geO at e
  split at e
  · exact ⟨_, _, rfl, rfl, (Option.some.inj e).symm⟩
  · cases e
theorem ob_lt : OpB T .Lt 0 0 ltO := by
  refine ⟨_, fun X _ => op_lt.or op_lt_str, fun B F H s dx dy c x y Q I hx hy e w => ?_⟩
  unfold ltO at e
  split at e
  · cases Option.some.inj e
    exact .inl ⟨_, _, Dp.int_ hx, Dp.int_ hy, w⟩
  · cases Option.some.inj e
    exact .inr ⟨_, _, Dp.str_ hx, Dp.str_ hy, w⟩
  · cases e
/-- ==: to a depth that the machine bears -/
def eqO (x y : D) : Option Bool := if min x.depth y.depth ≤ 100 then some (PyData.eqv x y) else none
def neO (x y : D) : Option Bool := if min x.depth y.depth ≤ 100 then some (!PyData.eqv x y) else none
mutual
theorem dp_plain {K : PySem.W.Frag} : ∀ {v : V} {d : D}, Dp K H v d → d.plain = true
  | _, _, .non => rfl
  | _, _, .bl b => rfl
  | _, _, .int i => rfl
  | _, _, .str x => rfl
  | _, _, .lst _ r => by simp only [PyData.plain]; exact dpall_plain r
  | _, _, .tup _ r => by simp only [PyData.plain]; exact dpall_plain r
theorem dpall_plain {K : PySem.W.Frag} : ∀ {vs : List V} {ds : List D}, DpAll K H vs ds → PyData.plainAll ds = true
  | _, _, .nil => rfl
  | _, _, .cons a t => by simp only [PyData.plainAll, dp_plain a, dpall_plain t, Bool.and_self]
end
theorem ob_eq {n m : Nat} : OpB T .Eq n m eqO := by
  refine ⟨fun x y H Q => ∃ d e, Dp T.K H x d ∧ Dp T.K H y e ∧ min d.depth e.depth ≤ 100 ∧ Q (.bl (PyData.eqv d e)) H, fun X hX => ?_, fun B F H s dx dy c x y Q I hx hy e w => ?_⟩
  · intro pins s σ H x y v u Q I rx ry h
    obtain ⟨d, e, hd, he, hm, q⟩ := h
    rw [← hX.K] at hd he
    obtain ⟨as, r1⟩ := L2.Dp.reads I d x v hd rx
    obtain ⟨bs, r2⟩ := L2.Dp.reads I e y u he ry
    have hr := hX.room.un
    exact SeqAt.eq_plain r1 r2 (dp_plain hd) (dp_plain he) (by omega) ⟨.bl _, H, I, rfl, q⟩
  · unfold eqO at e
    split at e
    · rename_i hm
      cases Option.some.inj e
      exact ⟨dx, dy, hx.dp I, hy.dp I, hm, w⟩
    · cases e
theorem ob_ne {n m : Nat} : OpB T .NotEq n m neO := by
  refine ⟨fun x y H Q => ∃ d e, Dp T.K H x d ∧ Dp T.K H y e ∧ min d.depth e.depth ≤ 100 ∧ Q (.bl (!PyData.eqv d e)) H, fun X hX => ?_, fun B F H s dx dy c x y Q I hx hy e w => ?_⟩
  · intro pins s σ H x y v u Q I rx ry h
    obtain ⟨d, e, hd, he, hm, q⟩ := h
    rw [← hX.K] at hd he
    obtain ⟨as, r1⟩ := L2.Dp.reads I d x v hd rx
    obtain ⟨bs, r2⟩ := L2.Dp.reads I e y u he ry
    have hr := hX.room.un
    exact SeqAt.ne_plain r1 r2 (dp_plain hd) (dp_plain he) (by omega) ⟨.bl _, H, I, rfl, q⟩
  · unfold neO at e
    split at e
    · rename_i hm
      cases Option.some.inj e
      exact ⟨dx, dy, hx.dp I, hy.dp I, hm, w⟩
    · cases e
/-- is it none -/
def isNoneD : D → Bool
  | .none => true
  | _ => false
/-- is None, is True: the right side none or a truth value, the left of the same kind or (for None) any -/
def isO : D → D → Option Bool
  | x, .none => some (isNoneD x)
  | .bool a, .bool b => some (decide (a = b))
  | _, _ => none
theorem is_none_d {K : PySem.W.Frag} {v : V} {d : D} (h : Dp K H v d) : decide (v = .non) = isNoneD d := by cases h <;> rfl
theorem ob_is {n : Nat} : OpB T .Is n 0 isO := by
  refine ⟨_, fun X _ => op_isN.or op_isBl, fun B F H s dx dy c x y Q I hx hy e w => ?_⟩
  unfold isO at e
  split at e
  · cases Option.some.inj e
    rw [← is_none_d (hx.dp I)] at w
    exact .inl ⟨Dp.none_ hy, w⟩
  · cases Option.some.inj e
    exact .inr ⟨_, _, Dp.bool_ (hx.dp I), Dp.bool_ hy, w⟩
  · cases e
def isntO (x y : D) : Option Bool := (isO x y).map not
theorem ob_isnt {n : Nat} : OpB T .IsNot n 0 isntO := by
  refine ⟨_, fun X _ => op_notN.or op_notBl, fun B F H s dx dy c x y Q I hx hy e w => ?_⟩
  obtain ⟨c', e1, e2⟩ := Option.map_eq_some_iff.mp e
  subst e2
  unfold isO at e1
  split at e1
  · cases Option.some.inj e1
    rw [← is_none_d (hx.dp I)] at w
    exact .inl ⟨Dp.none_ hy, w⟩
  · cases Option.some.inj e1
    exact .inr ⟨_, _, Dp.bool_ (hx.dp I), Dp.bool_ hy, w⟩
  · cases e1
end
end DL
end
section
namespace DL
open PySem PySem.Spec PyProof.Rows L2
section
variable {M : Type → Type} [EM M] {T : Tx} {W : WX} {ρ : List Slot} {B : Base} {σ : List (Option V)} {F F' F1 F2 H H' H1 H2 : Hp} {s s' s1 s2 : List D} {v : V} {d : D}
/-! ### a new shared list -/
theorem SI.newLstS (I : SI T.K B ρ σ H F s) {p : Addr} {vs : List V} {ds : List D} (hp : H p = none) (hl : vs.length ≤ sizeLine) (h : DpAll T.K F vs ds) : Step T.K B F H (upd F p (.lst vs)) (upd H p (.lst vs)) s ∧ Dp T.K (upd F p (.lst vs)) (.ref p) (.list ds) := by
  have st := I.stepNew (o := .lst vs) hp hl true
  exact ⟨st, .lst (.of upd_same) (DpmAll st.ff h)⟩
/-! ### a[i] -/
def ixO : D → D → Option D
  | .list ds, .int i => atI ds i
  | .tuple ds, .int i => atI ds i
  | .str z, .int i => if z.length ≤ sizeLine then (atI z.cps.toList i).map fun c => .str ⟨#[c]⟩ else none
  | _, _ => none
theorem atI_paired {α β : Type} {P : α → β → Prop} {xs : List α} {ys : List β} (h : Paired P xs ys) {i : Int} {y : β} (e : atI ys i = some y) : ∃ x, atI xs i = some x ∧ P x y := by
  have hl := Paired.length h
  unfold atI at e ⊢
  rw [hl]
  obtain ⟨j, e1, e2⟩ := Option.bind_eq_some_iff.mp e
  have key : ∀ {xs : List α} {ys : List β} {j : Nat}, Paired P xs ys → ys[j]? = some y → ∃ x, xs[j]? = some x ∧ P x y := by
    intro xs ys j h
    induction h generalizing j with
    | nil => intro e; simp at e
    | cons a t ih =>
      cases j with
      | zero =>
        intro e
        have e := Option.some.inj e
        subst e
        exact ⟨_, rfl, a⟩
      | succ j => exact fun e => ih (j := j) e
  obtain ⟨x, e3, p⟩ := key h e2
  exact ⟨x, by rw [e1]; exact e3, p⟩
/-- the items of a list that is seen -/
theorem View.items {K : PySem.W.Frag} {a0 : Option Addr} {n : Nat} (k : Same F H) (h : View K a0 F H n v (.list ds)) : ∃ a vs, v = .ref a ∧ SqL K H a vs ∧ Paired (View K a0 F H (n - 1)) vs ds := by
  cases n with
  | zero =>
    obtain ⟨a, vs, e, h1, h2⟩ := Dp.list_ h
    exact ⟨a, vs, e, SqLmono h1 fun o z => k _ _ z, Dpm_all.mp h2⟩
  | succ n =>
    rcases h with h | ⟨a, vs, ds', e1, e2, h, _, p⟩
    · obtain ⟨a, vs, e, h1, h2⟩ := Dp.list_ h
      exact ⟨a, vs, e, SqLmono h1 fun o z => k _ _ z, pmono (fun _ _ z => View.of_dp z) (Dpm_all.mp h2)⟩
    · cases e2
      exact ⟨a, vs, e1, h, p⟩
theorem ed_ix {a b : Expr} {pos : Pos} {n : Nat} {ma mb : M D} (ha : ED T W ρ a (.vw n) ma) (hb : ED T W ρ b (.vw 0) mb) (hs : PlainIx b := by intro _ _; rfl) :
    ED T W ρ (.Subscript a b pos) (.vw (n - 1)) (ma >>= fun x => mb >>= fun y => lfo (ixO x y)) := by
  obtain ⟨ta, pa, sa⟩ := ha
  obtain ⟨tb, pb, sb⟩ := hb
  refine ⟨tOp (rIx T.K) ta tb, fun X hX hW => ?_, fun B σ H F s Q I h => ?_⟩
  · have z := pe_ix (pos := pos) ix_seq (pa X hX hW) (pb X hX hW) hs
    rw [hX.K] at z
    exact z
  · refine two sa sb I h fun dx dy s2 x y F2 H2 st I2 r1 r2 h2 => ?_
    obtain ⟨d, e, w⟩ := wp_lfo h2
    unfold ixO at e
    split at e
    · obtain ⟨p, vs, e1, hq, hp⟩ := View.items I2.fh r1
      obtain ⟨x, ex, px⟩ := atI_paired hp e
      exact .inl ⟨p, vs, _, x, e1, Dp.int_ r2, hq, ex, w x F2 H2 I2.refl px⟩
    · have r1 := View.flat r1 fun _ z => nomatch z
      obtain ⟨p, vs, e1, hq, hp⟩ := Dp.tup_ r1
      obtain ⟨x, ex, px⟩ := atI_paired (Dpm_all.mp hp) e
      exact .inr (.inl ⟨p, vs, _, x, e1, Dp.int_ r2, SqTmono hq fun o z => I2.fh _ _ z, ex, w x F2 H2 I2.refl (View.of_dp px)⟩)
    · have r1 := View.flat r1 fun _ z => nomatch z
      split at e
      · rename_i hz
        obtain ⟨c, ec, ed⟩ := Option.map_eq_some_iff.mp e
        subst ed
        exact .inr (.inr ⟨_, _, c, Dp.str_ r1, Dp.int_ r2, hz, ec, w _ F2 H2 I2.refl (View.of_dp (.str _))⟩)
      · cases e
    · cases e
/-- a part, then what follows -/
theorem one1G {α : Type} {k : Kd} {m : M D} {f : D → M α} {te : TE} {Q : α → Hp → Prop} {R : V → Hp → Prop}
    (sa : ∀ (B : Base) (σ : L2.St) (H F : Hp) (s : List D) (Q : VK), SI T.K B ρ σ H F s → EM.wp m (Want T.toCst B F H k Q) (WantX T.toCst B F H W σ) s → te σ H Q)
    (I : SI T.K B ρ σ H F s) (h : EM.wp (m >>= f) (fun c s' => ∀ F' H', Step T.K B F H F' H' s' → Q c H') (WantX T.toCst B F H W σ) s)
    (c : ∀ d s1 v F1 H1, Step T.K B F H F1 H1 s1 → SI T.K B ρ σ H1 F1 s1 → Res T.K B F1 H1 H k v d → EM.wp (f d) (fun c s' => ∀ F' H', Step T.K B F1 H1 F' H' s' → Q c H') (WantX T.toCst B F1 H1 W σ) s1 → R v H1) : te σ H R := by
  refine sa B σ H F s _ I (EM.mono (EM.wp_bind h) (fun d s1 h1 v F1 H1 st r => ?_) fun x s1 hx => hx)
  exact c d s1 v F1 H1 st (I.step st) r (EM.mono h1 (fun c s2 w F' H' st' => w F' H' (st.trans st')) fun x s2 w => wantX_trans st w)
/-! ### slices -/
/-- a bound of a slice -/
def PD (T : Tx) (W : WX) (ρ : List Slot) (o : Option Expr) (m : M (Option Int)) : Prop :=
  ∃ to : TO, (∀ X, Fits T X → Takes X W → PO X o to) ∧ ∀ (B : Base) (σ : L2.St) (H F : Hp) (s : List D) (Q : Option Int → Hp → Prop), SI T.K B ρ σ H F s → EM.wp m (fun c s' => ∀ F' H', Step T.K B F H F' H' s' → Q c H') (WantX T.toCst B F H W σ) s → to σ H Q
theorem pd_none : PD (M := M) T W ρ none (pure none) := ⟨tNoPart, fun _ _ _ => po_none, fun B σ H F s Q I w => EM.wp_pure w F H I.refl⟩
def intO : D → Option Int
  | .int i => some i
  | _ => none
theorem intO_ {d : D} {i : Int} (h : intO d = some i) : d = .int i := by
  unfold intO at h
  split at h
  · cases h; rfl
  · cases h
theorem pd_some {e : Expr} {m : M D} (h : ED T W ρ e (.vw 0) m) : PD T W ρ (some e) (m >>= fun d => lfo ((intO d).map some)) := by
  obtain ⟨te, p, q⟩ := h
  refine ⟨tPart te, fun X hX hW => po_some (p X hX hW), fun B σ H F s Q I w => ?_⟩
  refine one1G (te := te) q I w fun d s1 v F1 H1 st I1 r h1 => ?_
  obtain ⟨c, e, w⟩ := wp_lfo h1
  obtain ⟨i, ei, ec⟩ := Option.map_eq_some_iff.mp e
  subst ec
  have ed := intO_ ei
  subst ed
  exact ⟨i, Dp.int_ r, w F1 H1 I1.refl⟩
def cutD (ds : List D) (lo hi : Option Int) : List D := (ds.drop (HT.sIx ds.length 0 lo)).take (HT.sIx ds.length ds.length hi - HT.sIx ds.length 0 lo)
theorem dpall_cut {K : PySem.W.Frag} {vs : List V} {ds : List D} (h : DpAll K F vs ds) (lo hi : Option Int) : DpAll K F (cutV vs lo hi) (cutD ds lo hi) := by
  unfold cutV cutD
  rw [dpall_len h]
  have kd : ∀ {vs : List V} {ds : List D} (n : Nat), DpAll K F vs ds → DpAll K F (vs.drop n) (ds.drop n) := by
    intro vs ds n
    induction n generalizing vs ds with
    | zero => exact id
    | succ n ih =>
      intro h
      cases h with
      | nil => exact .nil
      | cons a t => exact ih t
  have kt : ∀ {vs : List V} {ds : List D} (n : Nat), DpAll K F vs ds → DpAll K F (vs.take n) (ds.take n) := by
    intro vs ds n
    induction n generalizing vs ds with
    | zero => intro _; exact .nil
    | succ n ih =>
      intro h
      cases h with
      | nil => exact .nil
      | cons a t => exact .cons a (ih t)
  exact kt _ (kd _ h)
theorem cutD_whole {ds : List D} {lo hi : Option Int} (h : HT.sIx ds.length 0 lo = 0 ∧ HT.sIx ds.length ds.length hi = ds.length) : cutD ds lo hi = ds := by
  unfold cutD
  rw [h.1, h.2]
  simp
/-- a tuple's, a text's part -/
def sliceO (x : D) (lo hi : Option Int) : Option D :=
  match x with
  | .tuple ds => some (.tuple (cutD ds lo hi))
  | .list ds => some (.list (cutD ds lo hi))
  | .str z => if z.length ≤ sizeLine then some (.str (cutS z lo hi)) else none
  | _ => none
/-- a list's part, a new one -/
def sliceL (x : D) (lo hi : Option Int) : Option D :=
  match x with
  | .list ds => some (.list (cutD ds lo hi))
  | _ => none
theorem bnd {m : M (Option Int)} {α : Type} {f : Option Int → M α} {te : TO} {ψ : α → List D → Prop} {R : Option Int → Hp → Prop}
    (sa : ∀ (B : Base) (σ : L2.St) (H F : Hp) (s : List D) (Q : Option Int → Hp → Prop), SI T.K B ρ σ H F s → EM.wp m (fun c s' => ∀ F' H', Step T.K B F H F' H' s' → Q c H') (WantX T.toCst B F H W σ) s → te σ H Q)
    (I : SI T.K B ρ σ H F s) (h : EM.wp (m >>= f) ψ (WantX T.toCst B F H W σ) s)
    (c : ∀ c s1 F1 H1, Step T.K B F H F1 H1 s1 → SI T.K B ρ σ H1 F1 s1 → EM.wp (f c) ψ (WantX T.toCst B F1 H1 W σ) s1 → R c H1) : te σ H R := by
  refine sa B σ H F s _ I (EM.mono (EM.wp_bind h) (fun d s1 h1 F1 H1 st => ?_) fun x s1 hx => hx)
  exact c d s1 F1 H1 st (I.step st) (EM.mono h1 (fun _ _ w => w) fun x s2 w => wantX_trans st w)
theorem ed_slice {a : Expr} {lo hi : Option Expr} {p2 pos : Pos} {ma : M D} {ml mh : M (Option Int)} (ha : ED T W ρ a (.vw 1) ma) (hl : PD T W ρ lo ml) (hh : PD T W ρ hi mh) :
    ED T W ρ (.Subscript a (.Slice lo hi none p2) pos) (.vw 0) (ma >>= fun x => ml >>= fun l => mh >>= fun u => lfo (sliceO x l u)) := by
  obtain ⟨ta, pa, sa⟩ := ha
  obtain ⟨tl, pl, sl⟩ := hl
  obtain ⟨th, ph, sh⟩ := hh
  refine ⟨tSl (fun x l u H Q => rSlL T.K x l u H Q ∨ rSlA T.K x l u H Q ∨ rSlS x l u H Q) ta tl th, fun X hX hW => ?_, fun B σ H F s Q I h => ?_⟩
  · have z := pe_slice (pos := pos) (p2 := p2) (SlR.or sl_list (SlR.or sl_tupA sl_str)) (pa X hX hW) (pl X hX hW) (ph X hX hW)
    rw [hX.K] at z
    exact z
  · refine one1 (e := a) (te := ta) sa I h fun dx s1 x F1 H1 st1 I1 r1 h1 => ?_
    refine bnd (te := tl) sl I1 h1 fun l s2 F2 H2 st2 I2 h2 => ?_
    refine bnd (te := th) sh I2 h2 fun u s3 F3 H3 st3 I3 h3 => ?_
    obtain ⟨d, e, w⟩ := wp_lfo h3
    have r3 : View T.K B.a0 F3 H3 1 x dx := View.mono (fun a o z => st3.ff a o (st2.ff a o z)) (fun a o n z => st3.hh a o n (st2.hh a o n z)) r1
    have w : ∀ v F' H', Step T.K B F3 H3 F' H' s3 → Dp T.K F' v d → Q v H' := fun v F' H' st r => w v F' H' (st2.trans (st3.trans st)) r
    unfold sliceO at e
    split at e
    · cases Option.some.inj e
      obtain ⟨p, vs, e1, hq, hp⟩ := Dp.tup_ (View.flat r3 fun _ z => nomatch z)
      have hl := dpall_len hp
      have hln := I3.ln.tup (SqTmono hq fun o z => I3.fh _ _ z)
      refine .inr (.inl ⟨p, vs, e1, SqTmono hq fun o z => I3.fh _ _ z, fun hw => ?_, fun _ q hq2 => ?_⟩)
      · rw [hl] at hw
        rw [cutD_whole hw] at w
        exact w _ F3 H3 I3.refl (.tup hq hp)
      · obtain ⟨st, r⟩ := I3.newTup hq2 (Nat.le_trans (cutV_length vs l u) hln) (dpall_cut hp l u)
        exact w _ _ _ st r
    · cases Option.some.inj e
      obtain ⟨p, vs, e1, hq, hp⟩ := View.list1 I3.fh r3
      have hln := I3.ln.lst hq
      refine .inl ⟨p, vs, e1, hq, fun q hq2 => ?_⟩
      obtain ⟨st, r⟩ := I3.newLstS hq2 (Nat.le_trans (cutV_length vs l u) hln) (dpall_cut hp l u)
      exact w _ _ _ st r
    · split at e
      · rename_i hz
        cases Option.some.inj e
        exact .inr (.inr ⟨_, Dp.str_ (View.flat r3 fun _ z => nomatch z), hz, w _ F3 H3 I3.refl (.str _)⟩)
      · cases e
    · cases e
theorem ed_sliceL {a : Expr} {lo hi : Option Expr} {p2 pos : Pos} {ma : M D} {ml mh : M (Option Int)} (ha : ED T W ρ a (.vw 1) ma) (hl : PD T W ρ lo ml) (hh : PD T W ρ hi mh) :
    ED T W ρ (.Subscript a (.Slice lo hi none p2) pos) (.ow 1) (ma >>= fun x => ml >>= fun l => mh >>= fun u => lfo (sliceL x l u)) := by
  obtain ⟨ta, pa, sa⟩ := ha
  obtain ⟨tl, pl, sl⟩ := hl
  obtain ⟨th, ph, sh⟩ := hh
  refine ⟨tSl (rSlL T.K) ta tl th, fun X hX hW => ?_, fun B σ H F s Q I h => ?_⟩
  · have z := pe_slice (pos := pos) (p2 := p2) sl_list (pa X hX hW) (pl X hX hW) (ph X hX hW)
    rw [hX.K] at z
    exact z
  · refine one1 (e := a) (te := ta) sa I h fun dx s1 x F1 H1 st1 I1 r1 h1 => ?_
    refine bnd (te := tl) sl I1 h1 fun l s2 F2 H2 st2 I2 h2 => ?_
    refine bnd (te := th) sh I2 h2 fun u s3 F3 H3 st3 I3 h3 => ?_
    obtain ⟨d, e, w⟩ := wp_lfo h3
    have r3 : View T.K B.a0 F3 H3 1 x dx := View.mono (fun a o z => st3.ff a o (st2.ff a o z)) (fun a o n z => st3.hh a o n (st2.hh a o n z)) r1
    unfold sliceL at e
    split at e
    · cases Option.some.inj e
      obtain ⟨p, vs, e1, hq, hp⟩ := View.list1 I3.fh r3
      have hln := I3.ln.lst hq
      refine ⟨p, vs, e1, hq, fun q hq2 => ?_⟩
      obtain ⟨st, r⟩ := I3.newLst hq2 (Nat.le_trans (cutV_length vs l u) hln) (dpall_cut hp l u)
      exact w _ _ _ (st2.trans (st3.trans st)) (r.top (I1.gone (st2.trans st3)))
    · cases e
/-! ### + of any two -/
def addA : D → D → Option D
  | .int i, .int j => some (.int (i + j))
  | .str a, .str b => if a.length + b.length ≤ sizeLine then some (.str (a ++ b)) else none
  | .tuple a, .tuple b => if a.length + b.length ≤ sizeLine then some (.tuple (a ++ b)) else none
  | .list a, .list b => if a.length + b.length ≤ sizeLine then some (.list (a ++ b)) else none
  | _, _ => none
theorem od_addA : OpD T (binaryOp .Add) 1 1 (.vw 0) addA := by
  refine ⟨fun x y H Q => (∃ i j, x = .int i ∧ y = .int j ∧ Q (.int (i + j)) H) ∨ (∃ i j, x = .str i ∧ y = .str j ∧ i.length + j.length ≤ sizeLine ∧ Q (.str (i ++ j)) H) ∨ rCatA T.K x y H Q ∨ rCatZ T.K x y H Q, fun X hX => ?_, fun B F H s dx dy d x y Q I hx hy e w => ?_⟩
  · have z := op_add.or (op_add_str.or ((op_catA (X := X)).or (op_catZ (X := X))))
    rw [hX.K] at z
    exact z
  · unfold addA at e
    split at e
    · cases Option.some.inj e
      exact .inl ⟨_, _, Dp.int_ (View.flat hx fun _ z => nomatch z), Dp.int_ (View.flat hy fun _ z => nomatch z), w _ F H I.refl (.int _)⟩
    · split at e
      · rename_i hl
        cases Option.some.inj e
        exact .inr (.inl ⟨_, _, Dp.str_ (View.flat hx fun _ z => nomatch z), Dp.str_ (View.flat hy fun _ z => nomatch z), hl, w _ F H I.refl (.str _)⟩)
      · cases e
    · split at e
      · rename_i hl
        cases Option.some.inj e
        obtain ⟨a, vs, e1, h1, h2⟩ := Dp.tup_ (View.flat hx fun _ z => nomatch z)
        obtain ⟨b, us, e3, h3, h4⟩ := Dp.tup_ (View.flat hy fun _ z => nomatch z)
        subst e1 e3
        have k1 := SqTmono (H' := H) h1 fun o z => I.fh _ _ z
        have k3 := SqTmono (H' := H) h3 fun o z => I.fh _ _ z
        have l2 := dpall_len h2
        have l4 := dpall_len h4
        refine .inr (.inr (.inl ⟨a, b, vs, us, rfl, rfl, k1, k3, by omega, fun z => ?_, fun _ z => ?_, fun _ _ p hp => ?_⟩))
        · subst z
          cases h2
          exact w _ F H I.refl (.tup h3 h4)
        · subst z
          cases h4
          rw [List.append_nil] at w
          exact w _ F H I.refl (.tup h1 h2)
        · obtain ⟨st, r⟩ := I.newTup hp (by rw [List.length_append]; omega) (dpall_cat h2 h4)
          exact w _ _ _ st r
      · cases e
    · split at e
      · rename_i hl
        cases Option.some.inj e
        obtain ⟨a, vs, e1, h1, h2⟩ := View.list1 I.fh hx
        obtain ⟨b, us, e3, h3, h4⟩ := View.list1 I.fh hy
        subst e1 e3
        have l2 := dpall_len h2
        have l4 := dpall_len h4
        refine .inr (.inr (.inr ⟨a, b, vs, us, rfl, rfl, h1, h3, by omega, fun p hp => ?_⟩))
        obtain ⟨st, r⟩ := I.newLstS hp (by rw [List.length_append]; omega) (dpall_cat h2 h4)
        exact w _ _ _ st r
      · cases e
    · cases e
/-! ### a op b op c -/
theorem td_chain {a b c : Expr} {op op' : CmpOp} {pos : Pos} {n1 n2 n3 : Nat} {g g' : D → D → Option Bool} {ma mb mc : M D} (ho : OpB T op n1 n2 g) (ho' : OpB T op' n2 n3 g') (ha : ED T W ρ a (.vw n1) ma) (hb : ED T W ρ b (.vw n2) mb) (hc : ED T W ρ c (.vw n3) mc)
    (hm : lastMarks [op, op'] [b, c] = false := by with_unfolding_all rfl) : TD T W ρ (.Compare a [op, op'] [b, c] pos) (ma >>= fun x => mb >>= fun y => lfo (g x y) >>= fun t => if t then mc >>= fun z => lfo (g' y z) else pure false) := by
  obtain ⟨ta, pa, sa⟩ := ha
  obtain ⟨tb, pb, sb⟩ := hb
  obtain ⟨tc, pc, sc⟩ := hc
  obtain ⟨r, hr, sr⟩ := ho
  obtain ⟨r', hr', sr'⟩ := ho'
  refine ⟨tTest (tChain r r' ta tb tc), fun X hX hW => pt_chain (hr X hX) (hr' X hX) (pa X hX hW) (pb X hX hW) (pc X hX hW) hm, fun B σ H F s Q I h => ?_⟩
  refine one1T (te := ta) sa I h fun dx s1 x F1 H1 st1 I1 r1 h1 => ?_
  refine one1T (te := tb) sb I1 h1 fun dy s2 y F2 H2 st2 I2 r2 h2 => ?_
  obtain ⟨t, e, w⟩ := wp_lfo (EM.wp_bind h2)
  refine sr B F2 H2 s2 dx dy t x y _ I2.fh (View.mono st2.ff st2.hh r1) r2 e ⟨t, rfl, ?_⟩
  cases t with
  | false => exact ⟨false, rfl, EM.wp_pure w F2 H2 I2.refl⟩
  | true =>
    refine one1T (te := tc) sc I2 w fun dz s3 z F3 H3 st3 I3 r3 h3 => ?_
    obtain ⟨t, e, w⟩ := wp_lfo h3
    exact sr' B F3 H3 s3 dy dz t y z _ I3.fh (View.mono st3.ff st3.hh r2) r3 e ⟨t, rfl, w F3 H3 I3.refl⟩
end
end DL
end
section
namespace DL
open PySem PySem.Spec PyProof.Rows L2
section
variable {M : Type → Type} [EM M] {T : Tx} {W : WX} {ρ : List Slot} {B : Base} {σ : List (Option V)} {F F' F1 F2 H H' H1 H2 : Hp} {s s' s1 s2 : List D} {v : V} {d : D} {K : PySem.W.Frag}
theorem args1 {n : Nat} {vs : List V} {ds : List D} (h : Args K B F H [.p (.vw n)] vs ds) : ∃ v d, vs = [v] ∧ ds = [d] ∧ View K B.a0 F H n v d := by
  cases h with
  | cons a t => cases t; exact ⟨_, _, rfl, rfl, a⟩
theorem args2 {n m : Nat} {vs : List V} {ds : List D} (h : Args K B F H [.p (.vw n), .p (.vw m)] vs ds) : ∃ v d u e, vs = [v, u] ∧ ds = [d, e] ∧ View K B.a0 F H n v d ∧ View K B.a0 F H m u e := by
  cases h with
  | cons a t =>
    cases t with
    | cons b t => cases t; exact ⟨_, _, _, _, rfl, rfl, a, b⟩
def o1 (f : D → Option D) : List D → Option D
  | [d] => f d
  | _ => none
def o2 (f : D → D → Option D) : List D → Option D
  | [d, e] => f d e
  | _ => none
/-! ### len, int, str, abs, min, max, list, tuple -/
def lenO : D → Option D
  | .list ds => some (.int ds.length)
  | .tuple ds => some (.int ds.length)
  | .str x => if x.length ≤ sizeLine then some (.int x.length) else none
  | _ => none
theorem cd_len {n : Nat} : CallD T (.builtin "len") [.p (.vw n)] (.vw 0) (o1 lenO) := by
  refine ⟨fun xs H Q => ∃ x n, xs = [x] ∧ LenV T.K x H n ∧ Q (.int n) H, fun X hX => ?_, fun B F H s ds d vs Q I ar e w => ?_⟩
  · have z := call_len (X := X)
    rw [hX.K] at z
    exact z
  · obtain ⟨v, x, e1, e2, h⟩ := args1 ar
    subst e1 e2
    have e : lenO x = some d := e
    unfold lenO at e
    split at e
    · cases Option.some.inj e
      obtain ⟨a, us, e1, hq, hp⟩ := View.items I.fh h
      subst e1
      exact ⟨_, _, rfl, .inl ⟨us, hq, rfl⟩, by rw [Paired.length hp]; exact w _ F H I.refl (.int _)⟩
    · cases Option.some.inj e
      obtain ⟨a, us, e1, hq, hp⟩ := Dp.tup_ (View.flat h fun _ z => nomatch z)
      subst e1
      exact ⟨_, _, rfl, .inr ⟨us, SqTmono hq fun o z => I.fh _ _ z, rfl⟩, by rw [dpall_len hp]; exact w _ F H I.refl (.int _)⟩
    · split at e
      · rename_i hz
        cases Option.some.inj e
        exact ⟨v, _, rfl, by rw [Dp.str_ (View.flat h fun _ z => nomatch z)]; exact ⟨hz, rfl⟩, w _ F H I.refl (.int _)⟩
      · cases e
    · cases e
def int1O : D → Option D
  | .int i => some (.int i)
  | .bool k => some (.int (if k then 1 else 0))
  | _ => none
theorem cd_int : CallD T (.type "int") [.p (.vw 0)] (.vw 0) (o1 int1O) := by
  refine ⟨_, fun X hX => call_int1, fun B F H s ds d vs Q I ar e w => ?_⟩
  obtain ⟨v, x, e1, e2, h⟩ := args1 ar
  subst e1 e2
  have e : int1O x = some d := e
  unfold int1O at e
  split at e
  · cases Option.some.inj e
    exact .inl ⟨_, by rw [Dp.int_ h], w _ F H I.refl (.int _)⟩
  · cases Option.some.inj e
    exact .inr ⟨_, by rw [Dp.bool_ h], w _ F H I.refl (.int _)⟩
  · cases e
def strOf : D → Option D
  | .int i => if i.natAbs.log2 < 1920 then some (.str (toString i)) else none
  | .str x => some (.str x)
  | _ => none
theorem cd_str : CallD T (.type "str") [.p (.vw 0)] (.vw 0) (o1 strOf) := by
  refine ⟨fun xs H Q => (∃ i, xs = [.int i] ∧ i.natAbs.log2 < 1920 ∧ Q (.str (toString i)) H) ∨ ∃ a, xs = [.str a] ∧ Q (.str a) H, fun X hX => ?_, fun B F H s ds d vs Q I ar e w => ?_⟩
  · intro pins s σ H xs us Q I r h
    rcases h with h | h
    · exact call_str_int pins s σ H xs us Q I r h
    · exact SkE.call_str_str pins s σ H xs us Q I r h
  · obtain ⟨v, x, e1, e2, h⟩ := args1 ar
    subst e1 e2
    have e : strOf x = some d := e
    unfold strOf at e
    split at e
    · split at e
      · rename_i hz
        cases Option.some.inj e
        exact .inl ⟨_, by rw [Dp.int_ h], hz, w _ F H I.refl (.str _)⟩
      · cases e
    · cases Option.some.inj e
      exact .inr ⟨_, by rw [Dp.str_ h], w _ F H I.refl (.str _)⟩
    · cases e
def absO : D → Option D
  | .int i => some (.int (if i < 0 then -i else i))
  | _ => none
theorem cd_abs : CallD T (.builtin "abs") [.p (.vw 0)] (.vw 0) (o1 absO) := by
  refine ⟨_, fun X hX => call_abs, fun B F H s ds d vs Q I ar e w => ?_⟩
  obtain ⟨v, x, e1, e2, h⟩ := args1 ar
  subst e1 e2
  have e : absO x = some d := e
  unfold absO at e
  split at e
  · cases Option.some.inj e
    exact ⟨_, by rw [Dp.int_ h], w _ F H I.refl (.int _)⟩
  · cases e
def min2O : D → D → Option D
  | .int i, .int j => some (.int (if j < i then j else i))
  | _, _ => none
def max2O : D → D → Option D
  | .int i, .int j => some (.int (if j > i then j else i))
  | _, _ => none
theorem cd_min2 : CallD T (.builtin "min") [.p (.vw 0), .p (.vw 0)] (.vw 0) (o2 min2O) := by
  refine ⟨_, fun X hX => call_min2 hX.calm, fun B F H s ds d vs Q I ar e w => ?_⟩
  obtain ⟨v, x, u, y, e1, e2, h, h'⟩ := args2 ar
  subst e1 e2
  have e : min2O x y = some d := e
  unfold min2O at e
  split at e
  · cases Option.some.inj e
    exact ⟨_, _, by rw [Dp.int_ h, Dp.int_ h'], w _ F H I.refl (.int _)⟩
  · cases e
theorem cd_max2 : CallD T (.builtin "max") [.p (.vw 0), .p (.vw 0)] (.vw 0) (o2 max2O) := by
  refine ⟨_, fun X hX => call_max2 hX.calm, fun B F H s ds d vs Q I ar e w => ?_⟩
  obtain ⟨v, x, u, y, e1, e2, h, h'⟩ := args2 ar
  subst e1 e2
  have e : max2O x y = some d := e
  unfold max2O at e
  split at e
  · cases Option.some.inj e
    exact ⟨_, _, by rw [Dp.int_ h, Dp.int_ h'], w _ F H I.refl (.int _)⟩
  · cases e
def listO : D → Option D
  | .list ds => some (.list ds)
  | .tuple ds => some (.list ds)
  | _ => none
theorem cd_list : CallD T (.type "list") [.p (.vw 1)] (.ow 1) (o1 listO) := by
  refine ⟨fun xs H Q => ∃ p ys, xs = [.ref p] ∧ (SqL T.K H p ys ∨ SqT T.K H p ys) ∧ ∀ l, H l = none → Q (.ref l) (upd H l (.lst ys)), fun X hX => ?_, fun B F H s ds d vs Q I ar e w => ?_⟩
  · have z := call_list_of (X := X)
    rw [hX.K] at z
    exact z
  · obtain ⟨v, x, e1, e2, h⟩ := args1 ar
    subst e1 e2
    have e : listO x = some d := e
    unfold listO at e
    split at e
    · cases Option.some.inj e
      obtain ⟨a, us, e1, hq, hp⟩ := View.list1 I.fh h
      subst e1
      refine ⟨a, us, rfl, .inl hq, fun l hl => ?_⟩
      obtain ⟨st, r⟩ := I.newLst hl (I.ln.lst hq) hp
      exact w _ _ _ st r
    · cases Option.some.inj e
      obtain ⟨a, us, e1, hq, hp⟩ := Dp.tup_ (View.flat h fun _ z => nomatch z)
      subst e1
      have hq : SqT T.K H a us := SqTmono hq fun o z => I.fh _ _ z
      refine ⟨a, us, rfl, .inr hq, fun l hl => ?_⟩
      obtain ⟨st, r⟩ := I.newLst hl (I.ln.tup hq) hp
      exact w _ _ _ st r
    · cases e
def tupleO : D → Option D
  | .list ds => some (.tuple ds)
  | .tuple ds => some (.tuple ds)
  | _ => none
theorem cd_tuple : CallD T (.type "tuple") [.p (.vw 1)] (.vw 0) (o1 tupleO) := by
  refine ⟨fun xs H Q => ∃ p ys, xs = [.ref p] ∧ ((SqL T.K H p ys ∧ ∀ l, H l = none → Q (.ref l) (upd H l (.tup ys))) ∨ (SqT T.K H p ys ∧ Q (.ref p) H)), fun X hX => ?_, fun B F H s ds d vs Q I ar e w => ?_⟩
  · have z := call_tuple_of (X := X)
    rw [hX.K] at z
    exact z
  · obtain ⟨v, x, e1, e2, h⟩ := args1 ar
    subst e1 e2
    have e : tupleO x = some d := e
    unfold tupleO at e
    split at e
    · cases Option.some.inj e
      obtain ⟨a, us, e1, hq, hp⟩ := View.list1 I.fh h
      subst e1
      refine ⟨a, us, rfl, .inl ⟨hq, fun l hl => ?_⟩⟩
      obtain ⟨st, r⟩ := I.newTup hl (I.ln.lst hq) hp
      exact w _ _ _ st r
    · cases Option.some.inj e
      obtain ⟨a, us, e1, hq, hp⟩ := Dp.tup_ (View.flat h fun _ z => nomatch z)
      subst e1
      exact ⟨a, us, rfl, .inr ⟨SqTmono hq fun o z => I.fh _ _ z, w _ F H I.refl (.tup hq hp)⟩⟩
    · cases e
/-! ### sum, max, min, any, all of a list -/
def intsO : List D → Option (List Int)
  | [] => some []
  | .int i :: ds => (intsO ds).map (i :: ·)
  | _ => none
def boolsO : List D → Option (List Bool)
  | [] => some []
  | .bool i :: ds => (boolsO ds).map (i :: ·)
  | _ => none
def strsO : List D → Option (List Str)
  | [] => some []
  | .str i :: ds => (strsO ds).map (i :: ·)
  | _ => none
theorem ints_ : ∀ {vs : List V} {ds : List D} {ns : List Int}, DpAll K F vs ds → intsO ds = some ns → vs = ns.map V.int
  | _, _, _, .nil, e => by cases e; rfl
  | _, _, _, .cons a t, e => by
    unfold intsO at e
    split at e
    · rename_i h; cases h
    · rename_i h
      cases h
      obtain ⟨r, e1, e2⟩ := Option.map_eq_some_iff.mp e
      subst e2
      rw [Dp.int_ a, ints_ t e1]; rfl
    · cases e
theorem bools_ : ∀ {vs : List V} {ds : List D} {ns : List Bool}, DpAll K F vs ds → boolsO ds = some ns → vs = ns.map V.bl
  | _, _, _, .nil, e => by cases e; rfl
  | _, _, _, .cons a t, e => by
    unfold boolsO at e
    split at e
    · rename_i h; cases h
    · rename_i h
      cases h
      obtain ⟨r, e1, e2⟩ := Option.map_eq_some_iff.mp e
      subst e2
      rw [Dp.bool_ a, bools_ t e1]; rfl
    · cases e
theorem strs_ : ∀ {vs : List V} {ds : List D} {ns : List Str}, DpAll K F vs ds → strsO ds = some ns → vs = ns.map V.str
  | _, _, _, .nil, e => by cases e; rfl
  | _, _, _, .cons a t, e => by
    unfold strsO at e
    split at e
    · rename_i h; cases h
    · rename_i h
      cases h
      obtain ⟨r, e1, e2⟩ := Option.map_eq_some_iff.mp e
      subst e2
      rw [Dp.str_ a, strs_ t e1]; rfl
    · cases e
def sumO : D → Option D
  | .list ds => (intsO ds).map fun ns => .int ns.sum
  | _ => none
theorem cd_sum : CallD T (.builtin "sum") [.p (.vw 1)] (.vw 0) (o1 sumO) := by
  refine ⟨rSum T.K, fun X hX => ?_, fun B F H s ds d vs Q I ar e w => ?_⟩
  · have z := cr_sum hX.calm
    rw [hX.K] at z
    exact z
  · obtain ⟨v, x, e1, e2, h⟩ := args1 ar
    subst e1 e2
    have e : sumO x = some d := e
    unfold sumO at e
    split at e
    · obtain ⟨ns, e3, e4⟩ := Option.map_eq_some_iff.mp e
      subst e4
      obtain ⟨a, us, e1, hq, hp⟩ := View.list1 I.fh h
      exact ⟨a, ns, by rw [e1], by rw [← ints_ hp e3]; exact hq, w _ F H I.refl (.int _)⟩
    · cases e
def anyO : D → Option D
  | .list ds => (boolsO ds).map fun ns => .bool (ns.any id)
  | _ => none
def allO : D → Option D
  | .list ds => (boolsO ds).map fun ns => .bool (ns.all id)
  | _ => none
theorem cd_any : CallD T (.builtin "any") [.p (.vw 1)] (.vw 0) (o1 anyO) := by
  refine ⟨rAny T.K, fun X hX => ?_, fun B F H s ds d vs Q I ar e w => ?_⟩
  · have z := cr_any hX.calm
    rw [hX.K] at z
    exact z
  · obtain ⟨v, x, e1, e2, h⟩ := args1 ar
    subst e1 e2
    have e : anyO x = some d := e
    unfold anyO at e
    split at e
    · obtain ⟨ns, e3, e4⟩ := Option.map_eq_some_iff.mp e
      subst e4
      obtain ⟨a, us, e1, hq, hp⟩ := View.list1 I.fh h
      exact ⟨a, ns, by rw [e1], by rw [← bools_ hp e3]; exact hq, w _ F H I.refl (.bl _)⟩
    · cases e
theorem cd_all : CallD T (.builtin "all") [.p (.vw 1)] (.vw 0) (o1 allO) := by
  refine ⟨rAll T.K, fun X hX => ?_, fun B F H s ds d vs Q I ar e w => ?_⟩
  · have z := cr_all hX.calm
    rw [hX.K] at z
    exact z
  · obtain ⟨v, x, e1, e2, h⟩ := args1 ar
    subst e1 e2
    have e : allO x = some d := e
    unfold allO at e
    split at e
    · obtain ⟨ns, e3, e4⟩ := Option.map_eq_some_iff.mp e
      subst e4
      obtain ⟨a, us, e1, hq, hp⟩ := View.list1 I.fh h
      exact ⟨a, ns, by rw [e1], by rw [← bools_ hp e3]; exact hq, w _ F H I.refl (.bl _)⟩
    · cases e
/-! ### methods of a text, one argument -/
def strO : D → Option Str
  | .str x => some x
  | _ => none
theorem strO_ {d : D} {z : Str} (h : strO d = some z) : d = .str z := by
  unfold strO at h
  split at h
  · cases h; rfl
  · cases h
def MtD (T : Tx) (id : String) (n : Nat) (k : Kd) (g : Str → D → Option D) : Prop := ∃ r : V → List V → Hp → VK → Prop, (∀ X, Fits T X → MtR X id r) ∧
  ∀ (B : Base) (F H : Hp) (s : List D) (z : Str) (dy d : D) (y : V) (Q : VK), SI T.K B [] [] H F s → View T.K B.a0 F H n y dy → g z dy = some d → Want T.toCst B F H k Q d s → r (.str z) [y] H Q
theorem ed_m1 {id : String} {name : Str} {apos pos : Pos} {o e : Expr} {n : Nat} {k : Kd} {g : Str → D → Option D} {ma mb : M D} (hm : MtD T id n k g) (slot : PySem.Slot "str" name id) (ty : typeOf (.builtin id) = pure (.type "method_descriptor")) (ho : ED T W ρ o (.vw 0) ma) (he : ED T W ρ e (.vw n) mb)
    (hs : ∀ env, starEach [e] env = [(false, eval e env)] := by intro _; rfl) (hbase : ∀ env, attributeBase o name env (eval o env) = eval o env := by intro _; rfl) (hline : (apos.endLine == pos.line) = true := by rfl) :
    ED T W ρ (.Call (.Attribute o name apos) [e] [] pos) k (ma >>= fun x => lfo (strO x) >>= fun z => mb >>= fun y => lfo (g z y)) := by
  obtain ⟨ta, pa, sa⟩ := ho
  obtain ⟨tb, pb, sb⟩ := he
  obtain ⟨r, hr, sr⟩ := hm
  refine ⟨tM1 r ta tb, fun X hX hW => pe_m1 slot ty (hr X hX) (pa X hX hW) (pb X hX hW) (hs X.env) (hbase X.env) hline, fun B σ H F s Q I h => ?_⟩
  refine one1 (e := o) (te := ta) sa I h fun dx s1 x F1 H1 st1 I1 r1 h1 => ?_
  obtain ⟨z, ez, w⟩ := wp_lfo (EM.wp_bind h1)
  have ez := strO_ ez
  subst ez
  have ex := Dp.str_ r1
  subst ex
  refine ⟨⟨z, rfl⟩, ?_⟩
  refine one1 (e := o) (te := tb) sb I1 w fun dy s2 y F2 H2 st2 I2 r2 h2 => ?_
  obtain ⟨d, ed, w2⟩ := wp_lfo h2
  exact sr B F2 H2 s2 z dy d y Q I2.bare r2 ed w2
def findO (z : Str) (y : D) : Option D := (strO y).map fun b => .int (Txt.find z b)
theorem md_find : MtD T "str.find" 0 (.vw 0) findO := by
  refine ⟨_, fun X hX => mt_find, fun B F H s z dy d y Q I hy e w => ?_⟩
  obtain ⟨b, e1, e2⟩ := Option.map_eq_some_iff.mp e
  have e1 := strO_ e1
  subst e1 e2
  exact ⟨z, b, rfl, by rw [Dp.str_ hy], w _ F H I.refl (.int _)⟩
def sindexO (z : Str) (y : D) : Option D := (strO y).bind fun b => match Builtin.Str.occurrences z b 0 z.length 1 with
  | i :: _ => some (.int (i : Nat))
  | _ => none
theorem md_sindex : MtD T "str.index" 0 (.vw 0) sindexO := by
  refine ⟨_, fun X hX => mt_sindex, fun B F H s z dy d y Q I hy e w => ?_⟩
  obtain ⟨b, e1, e2⟩ := Option.bind_eq_some_iff.mp e
  have e1 := strO_ e1
  subst e1
  split at e2
  · rename_i i rest hr
    cases Option.some.inj e2
    exact ⟨z, b, i, rest, rfl, by rw [Dp.str_ hy], hr, w _ F H I.refl (.int _)⟩
  · cases e2
def listD : D → Option (List D)
  | .list ds => some ds
  | .tuple ds => some ds
  | _ => none
def joinO (z : Str) (y : D) : Option D := (listD y).bind fun ds => (strsO ds).bind fun ys => if (ys.map (·.length)).sum + ys.length * z.length ≤ 16777216 then some (.str (Txt.join z ys)) else none
theorem md_join : MtD T "str.join" 1 (.vw 0) joinO := by
  refine ⟨fun x xs H Q => ∃ a p, ∃ ys : List Str, x = .str a ∧ xs = [.ref p] ∧ (SqL T.K H p (ys.map V.str) ∨ SqT T.K H p (ys.map V.str)) ∧
      (ys.map (·.length)).sum + ys.length * a.length ≤ 16777216 ∧ Q (.str (Txt.join a ys)) H, fun X hX => ?_, fun B F H s z dy d y Q I hy e w => ?_⟩
  · have z := mt_join (X := X)
    rw [hX.K] at z
    exact z
  · obtain ⟨ds, e1, e⟩ := Option.bind_eq_some_iff.mp e
    obtain ⟨ys, e2, e⟩ := Option.bind_eq_some_iff.mp e
    split at e
    · rename_i hl
      cases Option.some.inj e
      unfold listD at e1
      split at e1
      · cases Option.some.inj e1
        obtain ⟨a, us, e3, hq, hp⟩ := View.list1 I.fh hy
        exact ⟨z, a, ys, rfl, by rw [e3], .inl (by rw [← strs_ hp e2]; exact hq), hl, w _ F H I.refl (.str _)⟩
      · cases Option.some.inj e1
        obtain ⟨a, us, e3, hq, hp⟩ := Dp.tup_ (View.flat hy fun _ z => nomatch z)
        exact ⟨z, a, ys, rfl, by rw [e3], .inr (by rw [← strs_ hp e2]; exact SqTmono hq fun o z => I.fh _ _ z), hl, w _ F H I.refl (.str _)⟩
      · cases e1
    · cases e
end
end DL
end
section
namespace DL
open PySem PySem.Spec PyProof.Rows L2
section
variable {M : Type → Type} [EM M] {T : Tx} {W : WX} {rk : Kd} {ρ : List Slot} {B : Base} {σ : List (Option V)} {F F' F1 F2 H H' H1 H2 : Hp} {s s' s1 s2 : List D} {v : V} {d : D} {K : PySem.W.Frag}
/-! ### range -/
def rng (lo c : Int) (n : Nat) : List D := (List.range n).map fun i => .int (lo + (i : Nat) * c)
theorem rng_len {lo c : Int} {n : Nat} : (rng lo c n).length = n := by simp [rng]
theorem rng_at {lo c : Int} {n i : Nat} {d : D} (h : (rng lo c n)[i]? = some d) : d = .int (lo + (i : Nat) * c) := by
  unfold rng at h
  rw [List.getElem?_map] at h
  obtain ⟨j, e1, e2⟩ := Option.map_eq_some_iff.mp h
  have : j = i := by
    rw [List.getElem?_range] at e1
    · exact (Option.some.inj e1).symm
    · by_cases hh : i < n
      · exact hh
      · rw [List.getElem?_eq_none (by simp; omega)] at e1; cases e1
  rw [← e2, this]
theorem walks_rngC {lo c : Int} {n : Nat} {G0 : Hp} (hn : n ≤ sizeLine) : Walks K (Itc lo c n) (rng lo c n) F G0 where
  len := by rw [rng_len]; exact hn
  go := fun i H hi _ _ => by rw [rng_len] at hi; exact hi
  stop := fun H _ _ => by show n ≤ _; rw [rng_len]; exact Nat.le_refl _
  yld := fun i H x H' F' d hd f0 fh _ y => by
    obtain ⟨e1, e2⟩ := y
    subst e1 e2
    have := rng_at hd
    subst this
    exact ⟨F', .refl fh, .int _⟩
theorem walks_rng1 {lo : Int} {n : Nat} {G0 : Hp} (hn : n ≤ sizeLine) : Walks K (Itr lo n) (rng lo 1 n) F G0 where
  len := by rw [rng_len]; exact hn
  go := fun i H hi _ _ => by rw [rng_len] at hi; exact hi
  stop := fun H _ _ => by show n ≤ _; rw [rng_len]; exact Nat.le_refl _
  yld := fun i H x H' F' d hd f0 fh _ y => by
    obtain ⟨e1, e2⟩ := y
    subst e1 e2
    have := rng_at hd
    subst this
    rw [Int.mul_one]
    exact ⟨F', .refl fh, .int _⟩
def rangeO1 : List D → Option (List D)
  | [.int j] => if j ≤ 16777216 ∧ -(2 ^ 62) ≤ j then some (rng 0 1 j.toNat) else none
  | _ => none
def rangeO2 : List D → Option (List D)
  | [.int i, .int j] => if j - i ≤ 16777216 ∧ (-(2 ^ 62) ≤ i ∧ i < 2 ^ 62 ∧ -(2 ^ 62) ≤ j ∧ j < 2 ^ 62) then some (rng i 1 (j - i).toNat) else none
  | _ => none
def rangeO3 : List D → Option (List D)
  | [.int i, .int j, .int c] => if (Builtin.Range.rangeSize i j c).toNat ≤ 16777216 ∧ c ≠ 0 ∧ c.natAbs < 1073741824 ∧ Builtin.Range.small i j c = true ∧ Builtin.Range.rangeSize i j c = ((Builtin.Range.rangeSize i j c).toNat : Nat) then some (rng i c (Builtin.Range.rangeSize i j c).toNat) else none
  | _ => none
theorem args3 {n m l : Nat} {vs : List V} {ds : List D} (h : Args K B F H [.p (.vw n), .p (.vw m), .p (.vw l)] vs ds) : ∃ v d u e w f, vs = [v, u, w] ∧ ds = [d, e, f] ∧ View K B.a0 F H n v d ∧ View K B.a0 F H m u e ∧ View K B.a0 F H l w f := by
  cases h with
  | cons a t =>
    cases t with
    | cons b t =>
      cases t with
      | cons c t => cases t; exact ⟨_, _, _, _, _, _, rfl, rfl, a, b, c⟩
theorem id_range1 {cm : Bool} {tg a : Expr} {p pos : Pos} {κ : (List D → M (List D)) → M (List D)} (hg : GlT T "range") (hm : T.mg "range" = none) (ha : AD T W ρ [a] [.p (.vw 0)] κ) (hs : ∀ env, starEach [a] env = [(false, eval a env)] := by intro _; rfl) :
    IDj cm T W ρ tg (.Call (.Name "range" p) [a] [] pos) (κ fun ds => lfo (rangeO1 ds)) := by
  obtain ⟨ta, pa, sa⟩ := ha
  refine ⟨iRng1 ta, fun X hX hW => pi_range1 (hg.gl hX) (by rw [hX.mg]; exact hm) (pa X hX hW) (hs X.env), fun B σ H F s R I h => ?_⟩
  refine sa B σ H F s _ _ _ I h fun ds s1 vs F1 H1 st w ar => ?_
  obtain ⟨v, d, e1, e2, hv⟩ := args1 ar
  subst e1 e2
  obtain ⟨r, e, w⟩ := wp_lfo w
  unfold rangeO1 at e
  split at e
  · rename_i _ j hh
    cases hh
    split at e
    · rename_i hj
      cases Option.some.inj e
      exact ⟨j, by rw [Dp.int_ hv], hj.2, by omega, w _ F1 H1 st (walks_rng1 (by rw [sizeLine_eq]; omega))⟩
    · cases e
  · cases e
theorem id_range2 {cm : Bool} {tg a b : Expr} {p pos : Pos} {κ : (List D → M (List D)) → M (List D)} (hg : GlT T "range") (hm : T.mg "range" = none) (ha : AD T W ρ [a, b] [.p (.vw 0), .p (.vw 0)] κ) (hs : ∀ env, starEach [a, b] env = [(false, eval a env), (false, eval b env)] := by intro _; rfl) (hs2 : ∀ env, starEach [b] env = [(false, eval b env)] := by intro _; rfl) :
    IDj cm T W ρ tg (.Call (.Name "range" p) [a, b] [] pos) (κ fun ds => lfo (rangeO2 ds)) := by
  obtain ⟨ta, pa, sa⟩ := ha
  refine ⟨iRng2 ta, fun X hX hW => pi_range2 (hg.gl hX) (by rw [hX.mg]; exact hm) (pa X hX hW) (hs X.env) (hs2 X.env), fun B σ H F s R I h => ?_⟩
  refine sa B σ H F s _ _ _ I h fun ds s1 vs F1 H1 st w ar => ?_
  obtain ⟨v, d, u, e', e1, e2, hv, hu⟩ := args2 ar
  subst e1 e2
  obtain ⟨r, e, w⟩ := wp_lfo w
  unfold rangeO2 at e
  split at e
  · rename_i _ i j hh
    cases hh
    split at e
    · rename_i hj
      cases Option.some.inj e
      exact ⟨i, j, by rw [Dp.int_ hv, Dp.int_ hu], hj.2, w _ F1 H1 st (walks_rng1 (by rw [sizeLine_eq]; omega))⟩
    · cases e
  · cases e
theorem id_range3 {cm : Bool} {tg a b c : Expr} {p pos : Pos} {κ : (List D → M (List D)) → M (List D)} (hg : GlT T "range") (hm : T.mg "range" = none) (ha : AD T W ρ [a, b, c] [.p (.vw 0), .p (.vw 0), .p (.vw 0)] κ) (hs : ∀ env, starEach [a, b, c] env = (false, eval a env) :: starEach [b, c] env := by intro _; rfl) (hpl : ∀ env, (backTo pos (starEach [b, c] env)).any (·.1) = false := by intro _; rfl) :
    IDj cm T W ρ tg (.Call (.Name "range" p) [a, b, c] [] pos) (κ fun ds => lfo (rangeO3 ds)) := by
  obtain ⟨ta, pa, sa⟩ := ha
  refine ⟨iRng3 ta, fun X hX hW => pi_range3 (hg.gl hX) (by rw [hX.mg]; exact hm) (pa X hX hW) (hs X.env) (hpl X.env), fun B σ H F s R I h => ?_⟩
  refine sa B σ H F s _ _ _ I h fun ds s1 vs F1 H1 st w ar => ?_
  obtain ⟨v, d, u, e', x, f, e1, e2, hv, hu, hx⟩ := args3 ar
  subst e1 e2
  obtain ⟨r, e, w⟩ := wp_lfo w
  unfold rangeO3 at e
  split at e
  · rename_i _ i j c hh
    cases hh
    split at e
    · rename_i hj
      cases Option.some.inj e
      obtain ⟨h1, h2, h3, h4, h5⟩ := hj
      exact ⟨i, j, c, _, by rw [Dp.int_ hv, Dp.int_ hu, Dp.int_ hx], ⟨h2, h3, h4, h5⟩, w _ F1 H1 st (walks_rngC (by rw [sizeLine_eq]; exact h1))⟩
    · cases e
  · cases e
/-! ### enumerate(list) -/
def enumD : Nat → List D → List D
  | _, [] => []
  | i, d :: ds => .tuple [.int (i : Nat), d] :: enumD (i + 1) ds
theorem enumD_at : ∀ {ds : List D} {k i : Nat} {d : D}, (enumD k ds)[i]? = some d → ∃ x, ds[i]? = some x ∧ d = .tuple [.int ((k + i : Nat) : Int), x]
  | [], _, _, _, h => by simp [enumD] at h
  | x :: ds, k, 0, d, h => by
    have h := Option.some.inj h
    exact ⟨x, rfl, by rw [← h]; rfl⟩
  | x :: ds, k, i + 1, d, h => by
    obtain ⟨y, e1, e2⟩ := enumD_at (ds := ds) (k := k + 1) (i := i) h
    exact ⟨y, e1, by rw [e2]; congr 3; omega⟩
theorem enumD_len : ∀ {ds : List D} {k : Nat}, (enumD k ds).length = ds.length
  | [], _ => rfl
  | _ :: ds, k => congrArg (· + 1) enumD_len
def enumO : List D → Option (List D)
  | [.list ds] => some (enumD 0 ds)
  | _ => none
/-- a new shared tuple, at a walk -/
theorem Ext.tup {T : Addr} {vs : List V} (fh : Same F H) (hT : H T = none) (hl : vs.length ≤ sizeLine) : Ext F H (upd F T (.tup vs)) (upd H T (.tup vs)) := by
  have fT : F T = none := by
    cases q : F T with
    | none => rfl
    | some u => rw [fh T u q] at hT; cases hT
  refine ⟨fun a u q => by rw [upd_ne (ne_of_none q fT)]; exact q, fun a u q => ?_, fun a u q => by rw [upd_ne (ne_of_none q hT)]; exact q, fun a u q => ?_, fun ln => ln.upd hl⟩
  · by_cases e : a = T
    · subst e
      rw [upd_same] at q ⊢; exact q
    · rw [upd_ne e] at q ⊢; exact fh a u q
  · by_cases e : a = T
    · exact .inr (by rw [e]; exact hT)
    · rw [upd_ne e] at q; exact .inl ⟨u, q⟩
theorem walks_enum {a : Addr} {vs : List V} {ds : List D} {G0 : Hp} (h : SqL K F a vs) (ha : DpAll K F vs ds) (hl : vs.length ≤ sizeLine) : Walks K (Ite K a) (enumD 0 ds) F G0 where
  len := by rw [enumD_len, ← dpall_len ha]; exact hl
  go := fun i H hi ff _ => by
    rw [enumD_len] at hi
    obtain ⟨v, e⟩ := dpall_get ha (List.getElem?_eq_getElem hi)
    exact ⟨vs, v, ff.seq h, e⟩
  stop := fun H ff _ => ⟨vs, ff.seq h, by rw [enumD_len, dpall_len ha]; exact Nat.le_refl _⟩
  yld := fun i H x H' F' d hd f0 fh _ y => by
    obtain ⟨T, z, e1, e2, e3, e4⟩ := y
    obtain ⟨u, e5, e6⟩ := enumD_at hd
    subst e1 e3 e6
    have hz := e4 vs ((f0.trans fh).seq h)
    have ex := Ext.tup (vs := [V.int (i : Nat), z]) fh e2 (by show 2 ≤ sizeLine; rw [sizeLine_eq]; omega)
    refine ⟨_, ex, .tup (.of upd_same) (.cons ?_ (.cons (Dpm (f0.trans ex.ff) (dpall_at ha hz e5)) .nil))⟩
    rw [Nat.zero_add]
    exact .int _
theorem id_enum {cm : Bool} {e : Expr} {p pos tpos : Pos} {elts : List Expr} {kk : Nat} {κ : (List D → M (List D)) → M (List D)} (hg : GlT T "enumerate") (hm : T.mg "enumerate" = none) (ha : AD T W ρ [e] [.p (.vw 0)] κ) (hs : ∀ env, starEach [e] env = [(false, eval e env)] := by intro _; rfl) :
    IDj cm T W ρ (.Tuple elts kk tpos) (.Call (.Name "enumerate" p) [e] [] pos) (κ fun ds => lfo (enumO ds)) := by
  obtain ⟨ta, pa, sa⟩ := ha
  refine ⟨iEnum T.K ta, fun X hX hW => ?_, fun B σ H F s R I h => ?_⟩
  · have z := pi_enum (tpos := tpos) (elts := elts) (kk := kk) (p := p) (pos := pos) (hg.gl hX) (by rw [hX.mg]; exact hm) (pa X hX hW) (hs X.env)
    rw [hX.K] at z
    exact z
  refine sa B σ H F s _ _ _ I h fun ds s1 vs F1 H1 st w ar => ?_
  obtain ⟨v, d, e1, e2, hv⟩ := args1 ar
  subst e1 e2
  obtain ⟨r, e, w⟩ := wp_lfo w
  unfold enumO at e
  split at e
  · rename_i hh
    cases hh
    cases Option.some.inj e
    have I1 := I.step st
    obtain ⟨a, vs, e1, h1, h2⟩ := Dp.list_ (show Dp T.K F1 v _ from hv)
    subst e1
    have hq : SqL T.K H1 a vs := SqLmono h1 fun o z => I1.fh _ _ z
    exact ⟨a, vs, rfl, hq, w _ F1 H1 st (walks_enum h1 h2 (I1.ln.lst hq))⟩
  · cases e
/-! ### a comprehension without if -/
theorem ea_map {tg iter elt : Expr} {scope : Scope} {own : List (Str × Nat)} {pos : Pos} {β : Type} {mi : M (List D)} {p : D → Option β} {st : β → List Slot → List Slot} {ix : List Nat} {f : β → M D} (hi : IDj true T W ρ tg iter mi) (hg : GD (T.blk scope) tg p st ix) (he : ∀ b, ED (T.blk scope) W0 (st b (wipeR ρ (own.map (·.2)))) elt (.vw 0) (f b))
    (ok : blkC T.N T.sc scope own = true) (hix : ∀ i ∈ ix, i ∈ own.map (·.2)) (hs : ∀ env x, foldedSetIterable iter env x = pure x := by intro _ _; rfl) :
    EA T W ρ (.ListComp elt [⟨tg, iter, [], 0⟩] scope pos) (.ow 1) (mi >>= fun ds => (mapS ds fun d => EM.nox (lfo (p d) >>= fun b => f b)) >>= fun r => pure (.list r)) := by
  obtain ⟨wi, pi, qi⟩ := hi
  obtain ⟨g, pg, qg⟩ := hg
  let ρw := wipeR ρ (own.map (·.2))
  let te : TE := fun σ H Q => ∃ b B F sa, SI T.K B (st b ρw) σ H F sa ∧ EM.wp (f b) (Want T.toCst B F H (.vw 0) Q) (WantX T.toCst B F H W0 σ) sa
  have hpe : ∀ X, Fits T X → ∀ (s : Shared) (H : Hp) (C : Addr) (cl : List (Str × Addr)) (fp : List Addr), PE (X.blk s H scope (compEnvC scope cl C X.env) fp) elt te := fun X hX s H C cl fp => ⟨fun pins s2 σ H2 Q I2 hh => by
      obtain ⟨b, B, F, sa, J, w⟩ := hh
      obtain ⟨ti, p1, q1⟩ := he b
      exact (p1 _ (hX.blk s H scope C cl fp) takes0).run pins s2 σ H2 Q I2 (q1 B σ H2 F sa Q J w)⟩
  refine ⟨tLc wi g tYes te (own.map (·.2)), fun X hX hW => ?_, fun X i y py spos hX hW hy hyl hsw => ?_, fun B σ H F s Q I h => ?_⟩
  · exact pe_lc hX.calm (by rw [hX.N]; exact T.nd) (pi X hX hW) (by rw [hX.N, hX.sc]; exact blkOk_by ok) (fun s H C cl fp => pg _ (hX.blk s H scope C cl fp)) (fun s H C cl fp => pts_nil) (hpe X hX) (hs X.env)
  · exact ps_setLc hX.calm (by rw [hX.N]; exact T.nd) hy hyl hsw (pi X hX hW) (by rw [hX.N, hX.sc]; exact blkOk_by ok) (fun s H C cl fp => pg _ (hX.blk s H scope C cl fp)) (fun s H C cl fp => pts_nil) (hpe X hX) (hs X.env)
  · refine qi B σ H F s _ I (EM.mono (EM.wp_bind h) (fun ds s1 w Jt F1 H1 stp wk Dd hD => ?_) fun x s1 w => w)
    have I1 := I.step stp
    let fi : D → M D := fun d => EM.nox (lfo (p d) >>= fun b => f b)
    let N : Nat → Hp → Prop := fun i H2 => ∃ F2 sa acc, acc.length ≤ i ∧ SI T.K B (.val (.ow 1) (.list acc) :: ρw) (some (.ref Dd) :: wipe σ (own.map (·.2))) H2 F2 sa ∧ Step T.K B F H F2 H2 sa ∧ Same F1 F2 ∧ (∀ a o, B.a0 ≠ some a → H1 a = some o → H2 a = some o) ∧
      EM.wp (mapS (ds.drop i) fi) (fun r s' => Want T.toCst B F H (.ow 1) Q (.list (acc ++ r)) s') (WantX T.toCst B F H W σ) sa
    have hDH : H Dd = none := I.gone stp Dd hD
    have st0 : Step T.K B F H F1 (upd H1 Dd (.lst [])) s1 := stp.new hDH (by
      cases q : F1 Dd with
      | none => rfl
      | some u => rw [stp.fh Dd u q] at hD; cases hD) (fun z => by obtain ⟨u, q⟩ := stp.am.there z; rw [hD] at q; cases q) (Nat.zero_le _)
    refine ⟨fun i m H => m = ds.length - i ∧ i ≤ ds.length ∧ N i H, ⟨ds.length, by simp, Nat.zero_le _, F1, s1, [], Nat.le_refl _, (I1.wipe _).lay hD, st0, Same.refl _, fun a o _ e => by rw [upd_ne (ne_of_none e hD)]; exact e, ?_⟩, ?_⟩
    · exact EM.mono (EM.wp_bind w) (fun r s' z => by rw [List.nil_append]; exact EM.wp_pure z) fun _ _ z => z
    rintro i m H2 ⟨rfl, hi, F2, sa, acc, hacc, I2, st2, ff, k1, w2⟩
    have fh : Same F1 H2 := fun a o e => I2.fh a o (ff a o e)
    have gc : Same (Gc true B H1) H2 := gcs k1
    by_cases hlt : i < ds.length
    · rw [drop_at hlt] at w2
      refine .inr ⟨wk.go i H2 hlt fh gc, N (i + 1), fun H' hN => ⟨_, by omega, rfl, hlt, hN⟩, fun x H3 hy => ?_⟩
      obtain ⟨F3, ex, dp⟩ := wk.yld i H2 x H3 F2 ds[i] (List.getElem?_eq_getElem hlt) ff I2.fh gc hy
      have s23 := I2.ext ex
      have I3 := I2.step s23
      have w3 := EM.wp_bind (EM.wp_nox (EM.wp_bind w2))
      obtain ⟨b, e, w4⟩ := wp_lfo w3
      refine qg B ρw _ H3 F3 sa ds[i] b x _ I3.tail dp e fun σ4 I4 wv => ?_
      refine ⟨(wv _ hix).trans (wipe_wipe σ _ _ fun i hi => hi), ?_⟩
      have s5' : Step T.K B F H F3 H3 sa := st2.trans s23
      have k5 : ∀ a o, B.a0 ≠ some a → H1 a = some o → H3 a = some o := fun a o n e => ex.hh a o (k1 a o n e)
      have f15 : Same F1 F3 := ff.trans ex.ff
      unfold tYes
      show ite (true = true) _ _
      rw [if_pos rfl]
      refine ⟨b, B, F3, sa, I4, EM.mono w4 (fun y s6 w6 v F6 H6 st6 r6 => ?_) fun _ _ z => z.elim⟩
      have I6 := I3.step st6
      obtain ⟨vs, e1, e2, e3, e4, put⟩ := I6.own_
      have w8 := EM.wp_bind w6
      have hz : vs.length < sizeLine := by rw [dpall_len e2]; exact Nat.lt_of_le_of_lt hacc (Nat.lt_of_lt_of_le hlt wk.len)
      refine ⟨vs, e1, hz, F6, s6, acc ++ [y], by rw [List.length_append]; exact Nat.succ_le_succ hacc, put _ _ (by rw [List.length_append]; exact hz) (dpall_app r6 e2), (s5'.trans st6).new hDH e3 e4 (by show (vs ++ _).length ≤ _; rw [List.length_append]; exact hz), f15.trans st6.ff, fun a o n e => by rw [upd_ne (ne_of_none e hD)]; exact st6.hh a o n (k5 a o n e), EM.mono w8 (fun r s' z => ?_) fun _ _ z => z⟩
      have z := EM.wp_pure z
      rw [List.append_assoc]
      exact z
    · have e : i = ds.length := by omega
      subst e
      rw [List.drop_length] at w2
      have w3 := EM.wp_pure w2
      rw [List.append_nil] at w3
      obtain ⟨vs, e1, e2, e3, e4, put⟩ := I2.own_
      refine .inl ⟨wk.stop H2 fh gc, w3 _ F2 H2 st2 ⟨[Dd], ⟨Dd, vs, acc, [], rfl, rfl, e1, own_dp e2, rfl⟩, by simp, fun a ha => ?_⟩⟩
      have ea : a = Dd := by simpa using ha
      subst ea
      exact ⟨hDH, e3⟩
end
end DL
end
section
namespace DL
open PySem PySem.Spec PyProof.Rows L2
section
variable {M : Type → Type} [EM M] {T : Tx} {W : WX} {rk : Kd} {ρ : List Slot} {B : Base} {σ : List (Option V)} {F F' F1 F2 H H' H1 H2 : Hp} {s s' s1 s2 : List D} {v : V} {d : D} {K : PySem.W.Frag}
/-! ### name op= e -/
def IpD (T : Tx) (op : Operator) (g : D → D → Option D) : Prop := ∃ r : TIp, (∀ X, Fits T X → PIp X op r) ∧
  ∀ (B : Base) (F H : Hp) (s : List D) (dx dy d : D) (x y : V) (Q : VK), SI T.K B [] [] H F s → Dp T.K F x dx → Dp T.K F y dy → g dx dy = some d → Want T.toCst B F H (.vw 0) Q d s → r x y H Q
theorem sx_aug {i : Nat} {x : Str} {e : Expr} {pos pos' : Pos} {op : Operator} {d0 : D} {m : M D} {g : D → D → Option D} (st : Sto T i x) (hy : ρ[i]? = some (.val (.vw 0) d0)) (ho : IpD T op g) (he : ED T W ρ e (.vw 0) m) :
    SX T W rk ρ (.AugAssign (.Name x pos') op e pos) (fun d => .nx (ρ.set i (.val (.vw 0) d))) (m >>= fun y => lfo (g d0 y)) := by
  obtain ⟨te, p, q⟩ := he
  obtain ⟨r, hr, sr⟩ := ho
  refine ⟨tAug i te r, fun X hX hW => ps_aug (by rw [hX.N]; exact T.nd) (by rw [hX.N]; exact st.ix) (by rw [hX.sc]; exact st.loc) (p X hX.toFits hW) (hr X hX.toFits) (by rw [hX.fn, hX.sc]; exact st.fn), fun B De σ H F s I h1 => ?_⟩
  obtain ⟨v0, e0, r0⟩ := I.get hy
  refine ⟨v0, e0, ?_⟩
  refine q B σ H F s _ I (EM.mono (EM.wp_bind h1) (fun dy s1 w v F1 H1 stp ry => ?_) fun x s1 w => postX I w)
  obtain ⟨d, ed, w2⟩ := wp_lfo w
  have I1 := I.step stp
  have r0 : Dp T.K F v0 d0 := r0
  refine sr B F1 H1 s1 d0 dy d v0 v _ I1.bare (Dpm stp.ff r0) ry ed fun z F2 H2 st2 rz => ?_
  exact w2 _ F2 H2 (stp.ff.trans st2.ff) (I1.set st2 (k := .vw 0) rz rfl hy)
def addI : D → D → Option D
  | .int i, .int j => some (.int (i + j))
  | .str a, .str b => if a.length + b.length ≤ sizeLine then some (.str (a ++ b)) else none
  | _, _ => none
theorem ipd_add : IpD T .Add addI := by
  refine ⟨fun x y H Q => (∃ i j, x = .int i ∧ y = .int j ∧ Q (.int (i + j)) H) ∨ (∃ i j, x = .str i ∧ y = .str j ∧ i.length + j.length ≤ sizeLine ∧ Q (.str (i ++ j)) H), fun X hX => ?_, fun B F H s dx dy d x y Q I hx hy e w => ?_⟩
  · intro pins s σ H x y v u Q I r1 r2 h
    rcases h with h | h
    · exact ip_add pins s σ H x y v u Q I r1 r2 h
    · exact iop_add_str pins s σ H x y v u Q I r1 r2 h
  · unfold addI at e
    split at e
    · cases Option.some.inj e
      exact .inl ⟨_, _, Dp.int_ hx, Dp.int_ hy, w _ F H I.refl (.int _)⟩
    · split at e
      · rename_i hl
        cases Option.some.inj e
        exact .inr ⟨_, _, Dp.str_ hx, Dp.str_ hy, hl, w _ F H I.refl (.str _)⟩
      · cases e
    · cases e
theorem ipd_int {op : Operator} {C : Int → Int → Prop} {f : Int → Int → Int} (h : ∀ X, PIp X op (fun x y H Q => ∃ i j, x = .int i ∧ y = .int j ∧ C i j ∧ Q (.int (f i j)) H)) {g : D → D → Option D} (hg : ∀ x y d, g x y = some d → ∃ i j, x = .int i ∧ y = .int j ∧ C i j ∧ d = .int (f i j)) :
    IpD T op g := ⟨_, fun X _ => h X, fun B F H s dx dy d x y Q I hx hy e w => by
  obtain ⟨i, j, e1, e2, c, e3⟩ := hg _ _ _ e
  subst e1 e2 e3
  exact ⟨i, j, Dp.int_ hx, Dp.int_ hy, c, w _ F H I.refl (.int _)⟩⟩
theorem ipd_sub : IpD T .Sub subO := ipd_int (C := fun _ _ => True) (fun X => by
    intro pins s σ H x y v u Q I r1 r2 h
    obtain ⟨i, j, e1, e2, _, q⟩ := h
    exact ip_sub pins s σ H x y v u Q I r1 r2 ⟨i, j, e1, e2, q⟩) fun x y d e => by
  unfold subO at e
  split at e
  · exact ⟨_, _, rfl, rfl, trivial, (Option.some.inj e).symm⟩
  · cases e
theorem ipd_mul : IpD T .Mult mulO := ipd_int (C := fun i j => i.natAbs < 2 ^ 64 ∨ j.natAbs < 2 ^ 64 ∨ (i.natAbs < 2 ^ 1000 ∧ j.natAbs < 2 ^ 1000)) (fun X => by
    intro pins s σ H x y v u Q I r1 r2 h
    obtain ⟨i, j, e1, e2, c, q⟩ := h
    subst e1 e2
    obtain ⟨t, rfl⟩ := r1
    obtain ⟨t', rfl⟩ := r2
    refine PySem.P.imul_int ⟨.int _, H, I.tok _, ⟨_, rfl⟩, q⟩ ?_
    exact mul_all c) fun x y d e => by
  unfold mulO at e
  split at e
  · split at e
    · rename_i i j h
      exact ⟨i, j, rfl, rfl, h, (Option.some.inj e).symm⟩
    · cases e
  · cases e
theorem ipd_fdiv : IpD T .FloorDiv fdivO := ipd_int (C := fun _ j => 0 < j ∧ j < 1073741824) (fun X => by
    intro pins s σ H x y v u Q I r1 r2 h
    obtain ⟨i, j, e1, e2, c, q⟩ := h
    subst e1 e2
    obtain ⟨t, rfl⟩ := r1
    obtain ⟨t', rfl⟩ := r2
    refine PyProof.Rows.ifloordiv_int (by omega) ?_ (.inl (PyProof.noPylong_small (by omega)))
    rw [Int.fdiv_eq_ediv_of_nonneg _ (by omega)]
    exact ⟨.int _, H, I.tok _, ⟨_, rfl⟩, q⟩) fun x y d e => by
  unfold fdivO at e
  split at e
  · split at e
    · rename_i i j h
      exact ⟨i, j, rfl, rfl, h, (Option.some.inj e).symm⟩
    · cases e
  · cases e
theorem ipd_mod : IpD T .Mod modO := ipd_int (C := fun _ j => 0 < j) (fun X => by
    intro pins s σ H x y v u Q I r1 r2 h
    obtain ⟨i, j, e1, e2, c, q⟩ := h
    subst e1 e2
    obtain ⟨t, rfl⟩ := r1
    obtain ⟨t', rfl⟩ := r2
    refine PyProof.Rows.imod_int (by omega) ?_
    rw [Int.fmod_eq_emod_of_nonneg _ (by omega)]
    exact ⟨.int _, H, I.tok _, ⟨_, rfl⟩, q⟩) fun x y d e => by
  unfold modO at e
  split at e
  · split at e
    · rename_i i j h
      exact ⟨i, j, rfl, rfl, h, (Option.some.inj e).symm⟩
    · cases e
  · cases e
/-! ### x[i] = e, x a list of its own -/
theorem dpall_set {vs : List V} {ds : List D} (h : DpAll K F vs ds) (hv : Dp K F v d) (j : Nat) : DpAll K F (vs.set j v) (ds.set j d) := by
  induction j generalizing vs ds with
  | zero =>
    cases h with
    | nil => exact .nil
    | cons a t => exact .cons hv t
  | succ j ih =>
    cases h with
    | nil => exact .nil
    | cons a t => exact .cons a (ih t)
def setO (ds : List D) (d : D) : D → Option (List D)
  | .int k => (ixN ds.length k).map fun j => ds.set j d
  | _ => none
theorem sx_setI {i : Nat} {x : Str} {e ix : Expr} {ds : List D} {p1 p2 pos : Pos} {m mi : M D} (n : Nm T i x) (hy : ρ[i]? = some (.val (.ow 1) (.list ds))) (he : ED T W ρ e (.vw 0) m) (hi : ED T W ρ ix (.vw 0) mi)
    (ha : ∀ env v, assign (.Subscript (.Name x p1) ix p2) env v = (do
      let ov ← holding [v] (eval (.Name x p1) env)
      let iv ← holding [v, ov] (eval ix env)
      standAt p2
      holding [v, ov, iv] (setItem ov iv v)
      release [v, ov, iv] []) := by intro _ _; rfl)
    (hs : ∀ env, swapsWithSole [.Subscript (.Name x p1) ix p2] e pos.line env = pure false := by intro _; rfl) (hw : ∀ env, swappedStores [.Subscript (.Name x p1) ix p2] e env = pure none := by intro _; rfl)
    (h1 : ∀ env, (assignEach [.Subscript (.Name x p1) ix p2] env).map (·.2) = [assign (.Subscript (.Name x p1) ix p2) env] := by intro _; rfl) :
    SX T W rk ρ (.Assign [.Subscript (.Name x p1) ix p2] e pos) (fun ds' => .nx (ρ.set i (.val (.ow 1) (.list ds')))) (m >>= fun d => mi >>= fun k => lfo (setO ds d k)) := by
  obtain ⟨te, p, q⟩ := he
  obtain ⟨ti, pi, qi⟩ := hi
  refine ⟨tAsg te (gSub (tVar i) ti rSetL), fun X hX hW => ps_asg (p X hX.toFits hW) (pg_sub (n.pe hX.toFits) (pi X hX.toFits hW) set_list (ha X.env)) (hs X.env) (hw X.env) (h1 X.env), fun B De σ H F s I hw => ?_⟩
  refine q B σ H F s _ I (EM.mono (EM.wp_bind hw) (fun d s1 w v F1 H1 st1 r1 => ?_) fun x s1 w => postX I w)
  have I1 := I.step st1
  obtain ⟨u, eu, ru⟩ := I1.get hy
  refine ⟨u, eu, ?_⟩
  refine qi B σ H1 F1 s1 _ I1 (EM.mono (EM.wp_bind w) (fun k s2 w y F2 H2 st2 r2 => ?_) fun x s2 w => postX I1 w)
  have I2 := I1.step st2
  obtain ⟨ds', e2, w2⟩ := wp_lfo w
  obtain ⟨a, vs, ea, hp, dp, _, _, put⟩ := I2.put hy
  have eu2 : u = .ref a := by
    have z := eu.symm.trans ea
    exact Option.some.inj (Option.some.inj z)
  unfold setO at e2
  split at e2
  · obtain ⟨j, ej, eds⟩ := Option.map_eq_some_iff.mp e2
    subst eds
    have hl := dpall_len dp
    have r1' : Dp T.K F1 v d := r1
    refine ⟨a, vs, _, j, eu2, Dp.int_ r2, hp, by rw [hl]; exact ej, ?_⟩
    refine w2 _ F2 _ (st1.ff.trans st2.ff) (put (vs.set j v) (ds.set j d) ?_ (dpall_set dp (Dpm st2.ff r1') j))
    rw [List.length_set]
    exact I2.ln a _ hp
  · cases e2
/-! ### x.append(e), x a list of its own -/
theorem sx_app {i : Nat} {x : Str} {e : Expr} {ds : List D} {p1 p2 p3 pos : Pos} {m : M D} (n : Nm T i x) (hy : ρ[i]? = some (.val (.ow 1) (.list ds))) (he : ED T W ρ e (.vw 0) m)
    (hbase : ∀ env, attributeBase (.Name x p1) "append" env (eval (.Name x p1) env) = eval (.Name x p1) env := by intro _; rfl)
    (hfew : ∀ env, ((backTo p3 (starEach [e] env)).all (fun x => !x.1) && (backToKw p3 (keywordEach [] env)).all (fun x => x.1.isSome)
      && decide ([e].length + ([] : List Keyword).length + (if ([] : List Keyword).isEmpty then 0 else 1) < 30)) = true := by intro _; rfl)
    (hline : (p2.endLine == p3.line) = true := by rfl) (hs : ∀ env, starEach [e] env = (false, eval e env) :: starEach [] env := by intro _; rfl) (hplain : ∀ env, (backTo p3 (starEach [] env)).any (·.1) = false := by intro _; rfl)
    (hsw : ∀ env, swapsWith (.Call (.Attribute (.Name x p1) "append" p2) [e] [] p3) none pos.line env = pure false := by intro _; rfl) :
    SX T W rk ρ (.Expr (.Call (.Attribute (.Name x p1) "append" p2) [e] [] p3) pos) (fun ds' => .nx (ρ.set i (.val (.ow 1) (.list ds')))) (m >>= fun d => lfo (if ds.length < sizeLine then some (ds ++ [d]) else none)) := by
  obtain ⟨te, p, q⟩ := he
  refine ⟨tDrop (tBM T.K "list" rAppend (tVar i) (tCons te tNil)), fun X hX hW => ?_, fun B De σ H F s I h1 => ?_⟩
  · refine ps_expr ?_ (hsw X.env)
    have z := pe_bm (apos := p2) (cpos := p3) PySem.F.plainAttrs_list PySem.F.slot_list_append PySem.F.type_list_append (mt_append (X := X)) (n.pe hX.toFits) (pa_cons (p X hX.toFits hW) pa_nil (hs X.env)) (hbase X.env) (hfew X.env) hline (hs X.env) (hplain X.env)
    rw [hX.K] at z
    exact z
  · obtain ⟨a, vs, ea, hp, dp, _, _, _⟩ := I.put hy
    refine ⟨.ref a, ea, .inl ⟨rfl, vs, .of hp⟩, ?_⟩
    refine q B σ H F s _ I (EM.mono (EM.wp_bind h1) (fun d s1 w v F1 H1 st1 r1 => ?_) fun x s1 w => postX I w)
    have I1 := I.step st1
    obtain ⟨a1, vs1, ea1, hp1, dp1, _, _, put⟩ := I1.put hy
    have e1 : a = a1 := by
      have z := Option.some.inj (Option.some.inj (ea.symm.trans ea1))
      cases z; rfl
    subst e1
    obtain ⟨ds', e2, w2⟩ := wp_lfo w
    split at e2
    · rename_i hl
      cases Option.some.inj e2
      have hl' := dpall_len dp1
      refine ⟨a, vs1, v, rfl, rfl, hp1, by omega, ?_⟩
      exact w2 _ F1 _ st1.ff (put (vs1 ++ [v]) (ds ++ [d]) (by rw [List.length_append, List.length_singleton]; omega) (dpall_app r1 dp1))
    · cases e2
/-! ### a, b = .. -/
/-- the parts of a list -/
def lpartsO : D → Option (List D)
  | .list ds => some ds
  | _ => none
theorem gd_unl {es : List Expr} {j : Nat} {pos : Pos} {β : Type} {p : List D → Option β} {st : β → List Slot → List Slot} {ix : List Nat} {n : Nat} (h : GDs T es p st ix n) (hn : ∀ env, (assignEach es env).length = n := by intro _; rfl) (hst : ∀ env, (assignEach es env).findIdx? (·.1) = none := by intro _; rfl) :
    GD T (.Tuple es j pos) (fun d => (lpartsO d).bind p) st ix := by
  obtain ⟨hp, g, pg, q⟩ := h
  refine ⟨gUnl T.K n g, fun X hX => ?_, fun B ρ σ H F s d b v Q I h e k => ?_⟩
  · have z := pg_unl (pos := pos) (k := j) hX.calm (pg X hX) (hn X.env) (hst X.env)
    rw [hX.K] at z
    exact z
  · obtain ⟨ds, e1, e2⟩ := Option.bind_eq_some_iff.mp e
    unfold lpartsO at e1
    split at e1
    · cases Option.some.inj e1
      obtain ⟨a, vs, ea, hs, ha⟩ := Dp.list_ h
      exact ⟨a, vs, ea, SqLmono hs fun o z => I.fh _ _ z, by rw [dpall_len ha]; exact hp _ _ e2, q B ρ σ H F s _ b _ _ I ha e2 k⟩
    · cases e1
/-- target = e -/
theorem sx_asg {tg e : Expr} {pos : Pos} {β : Type} {p : D → Option β} {st : β → List Slot → List Slot} {ix : List Nat} {m : M D} (hg : GD T tg p st ix) (he : ED T W ρ e (.vw 0) m) (hs : ∀ env, swapsWithSole [tg] e pos.line env = pure false := by intro _; rfl) (hw : ∀ env, swappedStores [tg] e env = pure none := by intro _; rfl)
    (h1 : ∀ env, (assignEach [tg] env).map (·.2) = [assign tg env] := by intro _; rfl) : SX T W rk ρ (.Assign [tg] e pos) (fun b => .nx (st b ρ)) (m >>= fun d => lfo (p d)) := by
  obtain ⟨te, pe, qe⟩ := he
  obtain ⟨g, pg, qg⟩ := hg
  refine ⟨tAsg te g, fun X hX hW => ps_asg (pe X hX.toFits hW) (pg X hX.toFits) (hs X.env) (hw X.env) (h1 X.env), fun B De σ H F s I h => ?_⟩
  refine qe B σ H F s _ I (EM.mono (EM.wp_bind h) (fun d s1 w v F1 H1 st1 r1 => ?_) fun x s1 w => postX I w)
  obtain ⟨b, e, w2⟩ := wp_lfo w
  exact qg B ρ σ H1 F1 s1 d b v _ (I.step st1) r1 e fun σ' I' _ => w2 σ' F1 H1 st1.ff I'
/-- a, b = x, y: names of the def -/
theorem sx_par {i j : Nat} {x y : Str} {a b : Expr} {px py pt pos : Pos} {kt k2 : Nat} {pt2 : Pos} {ma mb : M D} (si : Sto T i x) (sj : Sto T j y) (hij : i ≠ j) (hx : T.sc.names.lookup x = some .local) (hy : T.sc.names.lookup y = some .local) (ha : ED T W ρ a (.vw 0) ma) (hb : ED T W ρ b (.vw 0) mb)
    (hw : ∀ env, env.scope = T.sc → swappedStores [.Tuple [.Name x px, .Name y py] kt pt] (.Tuple [a, b] k2 pt2) env = pure (some [x, y]))
    (hs : ∀ env, swapsWithSole [.Tuple [.Name x px, .Name y py] kt pt] (.Tuple [a, b] k2 pt2) pos.line env = pure false := by intro _; rfl)
    (hs1 : ∀ env, starEach [a, b] env = (false, eval a env) :: starEach [b] env := by intro _; rfl) (hs2 : ∀ env, starEach [b] env = (false, eval b env) :: starEach [] env := by intro _; rfl) :
    SX T W rk ρ (.Assign [.Tuple [.Name x px, .Name y py] kt pt] (.Tuple [a, b] k2 pt2) pos) (fun p : D × D => .nx ((ρ.set i (.val (.vw 0) p.1)).set j (.val (.vw 0) p.2))) (ma >>= fun u => mb >>= fun v => pure (u, v)) := by
  obtain ⟨ta, pa, qa⟩ := ha
  obtain ⟨tb, pb, qb⟩ := hb
  refine ⟨tPar i j (tCons ta (tCons tb tNil)), fun X hX hW => ps_par hX.calm (by rw [hX.N]; exact T.nd) (by rw [hX.N]; exact si.ix) (by rw [hX.N]; exact sj.ix) hij (by rw [hX.sc]; exact hx) (by rw [hX.sc]; exact hy) (pa_cons (pa X hX.toFits hW) (pa_cons (pb X hX.toFits hW) pa_nil (hs2 X.env)) (hs1 X.env)) (hw X.env hX.sc) (hs X.env), fun B De σ H F s I h => ?_⟩
  refine qa B σ H F s _ I (EM.mono (EM.wp_bind h) (fun d s1 w v F1 H1 st1 r1 => ?_) fun x s1 w => postX I w)
  have I1 := I.step st1
  refine qb B σ H1 F1 s1 _ I1 (EM.mono (EM.wp_bind w) (fun e s2 w u F2 H2 st2 r2 => ?_) fun x s2 w => postX I1 w)
  have w2 := EM.wp_pure w
  refine ⟨v, u, rfl, w2 _ F2 H2 (st1.ff.trans st2.ff) ?_⟩
  have J := I1.set' st2 (k := .vw 0) (v := v) (d := d) (Dpm st2.ff (show Dp T.K F1 v d from r1)) rfl i
  exact J.set' J.refl (k := .vw 0) r2 rfl j
end
end DL
end
section
namespace DL
open PySem PySem.Spec PyProof.Rows L2
/-! ### while -/
section
variable {M : Type → Type} [EM M]
/-- with the turns that are left -/
def whileF {S : Type} (c : S → M Bool) (f : S → M (Fl S)) : Nat → S → M (Er S)
  | 0, _ => lft .bad
  | n + 1, s => c s >>= fun b => if b then f s >>= fun r => match r with
      | .nx s' => whileF c f n s'
      | .ct s' => whileF c f n s'
      | .bk s' => pure (.go s')
      | .rt v => pure (.rt v)
    else pure (.go s)
def whileS {S : Type} (c : S → M Bool) (f : S → M S) : Nat → S → M S
  | 0, _ => lft .bad
  | n + 1, s => c s >>= fun b => if b then f s >>= fun s' => whileS c f n s' else pure s
variable {T : Tx} {W : WX} {rk : Kd} {ρ : List Slot} {B : Base} {σ : List (Option V)} {F F' F1 F2 H H' H1 H2 : Hp} {s s' s1 s2 : List D} {v : V} {d : D} {K : PySem.W.Frag}
theorem sx_while {S : Type} {J : S → List Slot} {c : Expr} {body : List Stmt} {pos : Pos} {mc : S → M Bool} {f : S → M S} {s0 : S} (n : Nat) (hc : ∀ s, TD T W (J s) c (mc s)) (hb : ∀ s, BX T W rk (J s) body (fun s' => .nx (J s')) (f s)) (hw : Weak ρ (J s0)) :
    SX T W rk ρ (.While c body [] pos) (fun s => .nx (J s)) (whileS mc f n s0) := by
  refine ⟨tWhile (fun σ H Q => ∃ sv B F sa, SI T.K B (J sv) σ H F sa ∧ EM.wp (mc sv) (fun c s' => ∀ F' H', Step T.K B F H F' H' s' → Q c H') (WantX T.toCst B F H W σ) sa) fun De σ H => ∃ s F F0 B sa, Same F0 F ∧ SI T.K B (J s) σ H F sa ∧ EM.wp (f s) (fun s' a => Post T.K B F0 rk De a (.nx (J s'))) (fun x a => PostX T.toCst B W a x) sa, fun X hX hW => ?_, fun B De σ H F s I h1 => ?_⟩
  · refine ps_while hX.own ⟨fun pins s σ H Q I hh => ?_⟩ ⟨fun pins s σ H D I hh => ?_⟩
    · obtain ⟨sv, B, F, sa, J1, w⟩ := hh
      obtain ⟨tc, pc, qc⟩ := hc sv
      exact (pc X hX.toFits hW).run pins s σ H Q I (qc B σ H F sa Q J1 w)
    · obtain ⟨s1, F, F0, B, sa, kk, J1, w⟩ := hh
      obtain ⟨tb, pb, qb⟩ := hb s1
      exact (pb X hX hW).run pins s σ H D I (qb B D σ H F sa J1 (EM.mono w (fun _ _ z => Post.mono (o := .nx _) kk z) fun _ _ z => z))
  · let N : Nat → L2.St → Hp → Prop := fun m σ H => ∃ F2 sa sv, SI T.K B (J sv) σ H F2 sa ∧ Same F F2 ∧ EM.wp (whileS mc f m sv) (fun s' a => Post T.K B F rk De a (.nx (J s'))) (fun x a => PostX T.toCst B W a x) sa
    refine ⟨N, ⟨n, F, s, s0, I.weak hw, Same.refl _, h1⟩, fun m σ2 H2 hN => ?_⟩
    obtain ⟨F2, sa, sv, I2, ff, w2⟩ := hN
    cases m with
    | zero => exact (EM.wp_lft w2).elim
    | succ m =>
      refine ⟨sv, B, F2, sa, I2, EM.mono (EM.wp_bind w2) (fun b s3 w3 F3 H3 st3 => ?_) fun x s3 w => postX I2 w⟩
      have I3 := I2.step st3
      cases b with
      | true =>
        show ite (true = true) _ _
        rw [if_pos rfl]
        refine ⟨N m, fun σ' H' hN => ⟨m, Nat.lt_succ_self m, hN⟩, ?_⟩
        refine ⟨sv, F3, F3, B, s3, Same.refl _, I3, EM.mono (EM.wp_bind w3) (fun s' a w4 σ' F' H' kk I' => ?_) fun x a w => w⟩
        exact ⟨F', a, s', I', ff.trans (st3.ff.trans kk), w4⟩
      | false =>
        show ite (false = true) _ _
        rw [if_neg Bool.false_ne_true]
        exact EM.wp_pure w3 σ2 F3 H3 (ff.trans st3.ff) I3
theorem sx_whileF {S : Type} {J : S → List Slot} {c : Expr} {body : List Stmt} {pos : Pos} {mc : S → M Bool} {f : S → M (Fl S)} {s0 : S} (n : Nat) (hc : ∀ s, TD T W (J s) c (mc s)) (hb : ∀ s, BX T W rk (J s) body (Fl.it J) (f s)) (hw : Weak ρ (J s0)) :
    SX T W rk ρ (.While c body [] pos) (Er.it J) (whileF mc f n s0) := by
  refine ⟨tWhile (fun σ H Q => ∃ sv B F sa, SI T.K B (J sv) σ H F sa ∧ EM.wp (mc sv) (fun c s' => ∀ F' H', Step T.K B F H F' H' s' → Q c H') (WantX T.toCst B F H W σ) sa) fun De σ H => ∃ s F F0 B sa, Same F0 F ∧ SI T.K B (J s) σ H F sa ∧ EM.wp (f s) (fun r a => Post T.K B F0 rk De a (Fl.it J r)) (fun x a => PostX T.toCst B W a x) sa, fun X hX hW => ?_, fun B De σ H F s I h1 => ?_⟩
  · refine ps_while hX.own ⟨fun pins s σ H Q I hh => ?_⟩ ⟨fun pins s σ H D I hh => ?_⟩
    · obtain ⟨sv, B, F, sa, J1, w⟩ := hh
      obtain ⟨tc, pc, qc⟩ := hc sv
      exact (pc X hX.toFits hW).run pins s σ H Q I (qc B σ H F sa Q J1 w)
    · obtain ⟨s1, F, F0, B, sa, kk, J1, w⟩ := hh
      obtain ⟨tb, pb, qb⟩ := hb s1
      exact (pb X hX hW).run pins s σ H D I (qb B D σ H F sa J1 (EM.mono w (fun _ _ z => z.mono kk) fun _ _ z => z))
  · let N : Nat → L2.St → Hp → Prop := fun m σ H => ∃ F2 sa sv, SI T.K B (J sv) σ H F2 sa ∧ Same F F2 ∧ EM.wp (whileF mc f m sv) (fun r a => Post T.K B F rk De a (Er.it J r)) (fun x a => PostX T.toCst B W a x) sa
    refine ⟨N, ⟨n, F, s, s0, I.weak hw, Same.refl _, h1⟩, fun m σ2 H2 hN => ?_⟩
    obtain ⟨F2, sa, sv, I2, ff, w2⟩ := hN
    cases m with
    | zero => exact (EM.wp_lft w2).elim
    | succ m =>
      refine ⟨sv, B, F2, sa, I2, EM.mono (EM.wp_bind w2) (fun b s3 w3 F3 H3 st3 => ?_) fun x s3 w => postX I2 w⟩
      have I3 := I2.step st3
      have f03 : Same F F3 := ff.trans st3.ff
      cases b with
      | true =>
        show ite (true = true) _ _
        rw [if_pos rfl]
        refine ⟨N m, fun σ' H' hN => ⟨m, Nat.lt_succ_self m, hN⟩, ?_⟩
        refine ⟨sv, F3, F3, B, s3, Same.refl _, I3, EM.mono (EM.wp_bind w3) (fun r a w4 => ?_) fun x a w => w⟩
        cases r with
        | nx s' => exact fun σ' F' H' kk I' => ⟨F', a, s', I', f03.trans kk, w4⟩
        | ct s' => exact fun σ' F' H' kk I' => ⟨F', a, s', I', f03.trans kk, w4⟩
        | bk s' => exact fun σ' F' H' kk I' => EM.wp_pure w4 σ' F' H' (f03.trans kk) I'
        | rt d => exact fun v F' H' I' r => EM.wp_pure w4 v F' H' I' r
      | false =>
        show ite (false = true) _ _
        rw [if_neg Bool.false_ne_true]
        exact EM.wp_pure w3 σ2 F3 H3 f03 I3
/-! ### raise -/
/-- an exception's class of the text -/
def ExcN (C : Cst) (x : Str) : Prop := ∃ a, C.mg x = some (.ref a) ∧ PySem.W.excIn C.K a He.veBase "ValueError.__new__" = true ∧ PySem.W.keepIn C.K (.ref a) = true ∧ PySem.W.subIn C.K (.ref a) (.type "BaseException") = some true ∧ PySem.W.typeIn C.K (.ref a) = some (.type "type")
theorem bx_raise {α : Type} {it : α → Out} {x msg : Str} {j : Nat} {p p2 pos pos' : Pos} {rest : List Stmt} (hg : GlT T x) (h : ExcN T.toCst x) (hdb : (x == ("__debug__" : Str)) = false := by decide) :
    BX (M := M) T W rk ρ (.Raise (some (.Call (.Name x p) [.Constant (.str msg) j p2] [] pos)) none pos' :: rest) it (lft (.exc ⟨x, []⟩)) := by
  obtain ⟨a, hm, h1, h2, h3, h4⟩ := h
  refine ⟨tSeq (fun _ σ H => W (.ref a) none σ H) tNever, fun X hX hW => pss_cons ?_ pss_never, fun B De σ H F s I w => ?_⟩
  · have z := ps_raise (X := X) (W := W) (pos := pos') hX.calm hW (pmk_own (X := X) (m := msg) (j := j) (p := p) (p2 := p2) (pos := pos) PySem.F.excBase_ValueError (by rw [hX.K]; exact h1) (by rw [hX.mg]; exact hm) (by rw [hX.K]; exact h2) (raises_own (by rw [hX.K]; exact h3) (by rw [hX.K]; exact h4)) (hg.gl hX.toFits) hdb)
    exact z
  · have w := EM.wp_lft w
    exact w (.ref a) none σ F H I.bare ⟨a, hm, rfl, rfl⟩
/-! ### try: .., except x: return a constant -/
def tryR {α : Type} (mb : R α) (hit : Str → Option Bool) (a : α) : R α := match mb with
  | .exc x => match x.flds, hit x.cls with
    | [], some true => .ok a
    | [], some false => .exc x
    | _, _ => .bad
  | r => r
def BH (T : Tx) (rk : Kd) (sts : List Stmt) (d : D) : Prop := ∃ ts : TS, (∀ X : Cx, PSs X sts ts) ∧ ∀ (B : Base) (De : Ends) (σ : L2.St) (H F : Hp) (s : List D), SI T.K B [] [] H F s → Post T.K B F rk De s (.rt d) → ts De σ H
theorem bh_ret {e : Expr} {pos : Pos} (v : V) (hp : ∀ X, PE X e (tC v)) (hd : ∀ F, Dp T.K F v d) : BH T (.vw 0) [.Return (some e) pos] d :=
  ⟨tRet (tC v), fun X => pss_one (ps_ret (hp X)), fun B De σ H F s I h => h v F H I (hd F)⟩
theorem sx_try {α : Type} {it : α → Out} {x : Str} {body : List Stmt} {b0 : Stmt} {suite : List Stmt} {np pos pos' : Pos} {mb : R α} {hit : Str → Option Bool} {a : α} {d : D} {Cx' : Addr} (hb : ∀ W, BX (M := R) T W rk ρ body it mb) (hh : BH T rk (b0 :: suite) d) (ha : it a = .rt d)
    (hg : GlT T x) (hm : T.mg x = some (.ref Cx')) (hx : ∀ y b, hit y = some b → ∀ C, T.mg y = some (.ref C) → PySem.W.exmOne T.K (.ref C) (.ref Cx') = some b) (hdb : (x == ("__debug__" : Str)) = false := by decide) :
    SX (M := R) T W rk ρ (.Try body [.ExceptHandler (some (.Name x np)) none (b0 :: suite) pos'] [] [] pos) it (tryR mb hit a) := by
  obtain ⟨th, ph, qh⟩ := hh
  let tb : WX → TS := fun W' => (hb W').choose
  refine ⟨fun D σ H => tb (wOnly T.K (.ref Cx') (fun _ _ _ => th) W D) D σ H, fun X hX hW => ?_, fun B De σ H F s I w => ?_⟩
  · have z := ps_try_only (X := X) (x := x) (c := .ref Cx') (body := body) (b₀ := b0) (suite := suite) (np := np) (pos := pos) (pos' := pos') (tb := tb) (ts := fun _ _ _ => th) (Wout := W) hX.st hX.fr ⟨hg.gl hX.toFits, hdb, .inl (by rw [hX.mg]; exact hm)⟩ hW (fun W' pn xe tk po => ?_) (fun a oe cls d pn _ _ => ph _)
    · rw [hX.K] at z
      exact z
    · have f : FitS T (X.tr pn xe) := ⟨⟨hX.prog, hX.w, hX.K, hX.mg, hX.base, hX.N, hX.sc, hX.fn, hX.calm, hX.room⟩, po, hX.st, hX.fr⟩
      exact (hb W').choose_spec.1 _ f tk
  · refine (hb _).choose_spec.2 B De σ H F s I ?_
    show R.wp mb _ _
    have w : R.wp (tryR mb hit a) (fun a => Post T.K B F rk De s (it a)) fun x => PostX T.toCst B W s x := w
    cases mb with
    | ok b => exact w
    | bad => exact w
    | exc y =>
      show PostX T.toCst B _ s y
      intro cls dd σ' F' H' I' xr
      obtain ⟨C, hC, hcls, hf⟩ := xr
      subst hcls
      unfold tryR at w
      dsimp only at w
      cases hfl : y.flds with
      | cons _ _ =>
        rw [hfl] at w
        exact w.elim
      | nil =>
        rw [hfl] at w hf
        cases hhit : hit y.cls with
        | none => rw [hhit] at w; exact w.elim
        | some b =>
          rw [hhit] at w
          refine ⟨b, hx _ _ hhit C hC, fun e a0 _ => ?_, fun e => ?_⟩
          · subst e
            have w : Post T.K B F rk De s (it a) := w
            rw [ha] at w
            exact qh B De σ' H' F' s I' w
          · subst e
            have w : PostX T.toCst B W s y := w
            exact w _ dd σ' F' H' I' ⟨C, hC, rfl, by rw [hfl]; exact hf⟩
end
end DL
end
section
namespace DL
open PySem PySem.Spec PyProof.Rows L2
/-! ### the list that all see -/
def getS : S (List D) := fun s => .ok (s, s)
def putS (s' : List D) : S Unit := fun _ => .ok ((), s')
section
variable {T : Tx} {W : WX} {rk : Kd} {ρ : List Slot} {B : Base} {σ : List (Option V)} {F F' F1 F2 H H' H1 H2 : Hp} {s s' s1 s2 : List D} {v : V} {d : D} {K : PySem.W.Frag}
theorem ixO_list {ds : List D} {y d : D} (h : ixO (.list ds) y = some d) : ∃ i, y = .int i ∧ atI ds i = some d := by
  cases y with
  | int i => exact ⟨i, rfl, h⟩
  | _ => cases h
/-- x[e], x that list -/
theorem ed_amix {i : Nat} {x : Str} {b : Expr} {p pos : Pos} {mb : S D} (n : Nm T i x) (h : ρ[i]? = some .am) (hb : ED T W ρ b (.vw 0) mb) (hs : PlainIx b := by intro _ _; rfl) :
    ED T W ρ (.Subscript (.Name x p) b pos) (.vw 0) (mb >>= fun y => getS >>= fun s => lfo (ixO (.list s) y)) := by
  obtain ⟨tb, pb, sb⟩ := hb
  refine ⟨tOp (rIxL T.K) (tVar i) tb, fun X hX hW => ?_, fun B σ H F s Q I w => ?_⟩
  · have z := pe_ix (pos := pos) ix_list (n.pe (pos := p) hX) (pb X hX hW) hs
    rw [hX.K] at z
    exact z
  · obtain ⟨a, ea, e⟩ := I.getAm h
    refine ⟨.ref a, e, ?_⟩
    refine sb B σ H F s _ I (EM.mono (EM.wp_bind w) (fun y s1 w1 u F1 H1 st r => ?_) fun x s1 w => w)
    have I1 := I.step st
    have w1 : EM.wp (lfo (M := S) (ixO (.list s1) y)) (Want T.toCst B F H (.vw 0) Q) (WantX T.toCst B F H W σ) s1 := w1
    obtain ⟨d, ed, w2⟩ := wp_lfo w1
    have am := I1.am
    unfold AmbOk at am
    rw [ea] at am
    obtain ⟨⟨vs, h1, h2⟩, _, _⟩ := am
    obtain ⟨i, ei, ed⟩ := ixO_list ed
    subst ei
    obtain ⟨z, ez, pz⟩ := atI_paired (Dpm_all.mp h2) ed
    exact ⟨a, vs, _, z, rfl, Dp.int_ r, .of h1, ez, w2 z F1 H1 st pz⟩
/-- x itself as a text of its length: len(x[0]) is read so -/
theorem SI.amSet {i : Nat} {a : Addr} (I : SI T.K B ρ σ H F s) (ea : B.a0 = some a) : ∃ vs, H a = some (.lst vs) ∧ DpAll T.K F vs s ∧ ∀ vs' s', vs'.length ≤ sizeLine → DpAll T.K F vs' s' → SI T.K B ρ σ (upd H a (.lst vs')) F s' := by
  have am := I.am
  unfold AmbOk at am
  rw [ea] at am
  obtain ⟨⟨vs, h1, h2⟩, h3, h4⟩ := am
  refine ⟨vs, h1, h2, fun vs' s' hl dp => ?_⟩
  obtain ⟨fps, al, nd, k⟩ := I.sl
  refine ⟨fun b u q => ?_, I.f0, fun b u q => ?_, I.nw, ?_, I.ln.upd hl, fps, al.mono fun x y fp p hp => p.mono (fun _ _ q => q) fun b hb => upd_ne fun e => (k b (hp b hb)).2.2 (by rw [e]; exact ea), nd, k⟩
  · rw [upd_ne fun e => by rw [e, h3] at q; cases q]; exact I.fh b u q
  · rw [upd_ne fun e => by rw [e, h4] at q; cases q]; exact I.gh b u q
  · unfold AmbOk
    rw [ea]
    exact ⟨⟨vs', upd_same, dp⟩, h3, h4⟩
/-- x[k] = e, x that list -/
theorem sx_amset {i : Nat} {x : Str} {e ix : Expr} {p1 p2 pos : Pos} {m mi : S D} (n : Nm T i x) (hy : ρ[i]? = some .am) (he : ED T W ρ e (.vw 0) m) (hi : ED T W ρ ix (.vw 0) mi)
    (ha : ∀ env v, assign (.Subscript (.Name x p1) ix p2) env v = (do
      let ov ← holding [v] (eval (.Name x p1) env)
      let iv ← holding [v, ov] (eval ix env)
      standAt p2
      holding [v, ov, iv] (setItem ov iv v)
      release [v, ov, iv] []) := by intro _ _; rfl)
    (hs : ∀ env, swapsWithSole [.Subscript (.Name x p1) ix p2] e pos.line env = pure false := by intro _; rfl) (hw : ∀ env, swappedStores [.Subscript (.Name x p1) ix p2] e env = pure none := by intro _; rfl)
    (h1 : ∀ env, (assignEach [.Subscript (.Name x p1) ix p2] env).map (·.2) = [assign (.Subscript (.Name x p1) ix p2) env] := by intro _; rfl) :
    SX T W rk ρ (.Assign [.Subscript (.Name x p1) ix p2] e pos) (fun _ : Unit => .nx ρ) (m >>= fun d => mi >>= fun k => getS >>= fun s => lfo (setO s d k) >>= fun s' => putS s') := by
  obtain ⟨te, p, q⟩ := he
  obtain ⟨ti, pi, qi⟩ := hi
  refine ⟨tAsg te (gSub (tVar i) ti rSetL), fun X hX hW => ps_asg (p X hX.toFits hW) (pg_sub (n.pe hX.toFits) (pi X hX.toFits hW) set_list (ha X.env)) (hs X.env) (hw X.env) (h1 X.env), fun B De σ H F s I hw => ?_⟩
  refine q B σ H F s _ I (EM.mono (EM.wp_bind hw) (fun d s1 w v F1 H1 st1 r1 => ?_) fun x s1 w => postX I w)
  have I1 := I.step st1
  obtain ⟨a, ea, eu⟩ := I1.getAm hy
  refine ⟨.ref a, eu, ?_⟩
  refine qi B σ H1 F1 s1 _ I1 (EM.mono (EM.wp_bind w) (fun k s2 w y F2 H2 st2 r2 => ?_) fun x s2 w => postX I1 w)
  have I2 := I1.step st2
  have w : EM.wp (M := S) (lfo (setO s2 d k) >>= fun s' => putS s') (fun _ s' => Post T.K B F rk De s' (.nx ρ)) (fun x s' => PostX T.toCst B W s' x) s2 := w
  obtain ⟨s', e2, w2⟩ := wp_lfo (EM.wp_bind w)
  have w2 : Post T.K B F rk De s' (.nx ρ) := w2
  obtain ⟨vs, hp, dp, put⟩ := I2.amSet (i := i) ea
  unfold setO at e2
  split at e2
  · obtain ⟨j, ej, eds⟩ := Option.map_eq_some_iff.mp e2
    subst eds
    have hl := dpall_len dp
    have r1' : Dp T.K F1 v d := r1
    refine ⟨a, vs, _, j, rfl, Dp.int_ r2, hp, by rw [hl]; exact ej, ?_⟩
    refine w2 _ F2 _ (st1.ff.trans st2.ff) (put (vs.set j v) (s2.set j d) ?_ (dpall_set dp (Dpm st2.ff r1') j))
    rw [List.length_set]
    exact I2.ln a _ hp
  · cases e2
/-! ### a list of its own becomes the one that all see -/
def runS {α : Type} (m : S α) (s : List D) : R α := (m s).bind fun p => .ok p.1
theorem all_am {K : PySem.W.Frag} {B : Base} {F H : Hp} {p : Addr} (ea : B.a0 = some p) : ∀ (σ : List (Option V)) (i : Nat) (ρ : List Slot), σ.length = ρ.length → σ[i]? = some (some (.ref p)) → All3 (SlotOk K B F H) ((ρ.map fun _ => Slot.any).set i .am) σ []
  | [], i, ρ, hl, h => by simp at h
  | o :: σ, i, [], hl, h => by simp at hl
  | o :: σ, 0, x :: ρ, hl, h => by
    have h := Option.some.inj h
    subst h
    have key : ∀ (σ : List (Option V)) (ρ : List Slot), σ.length = ρ.length → All3 (SlotOk K B F H) (ρ.map fun _ => Slot.any) σ [] := by
      intro σ
      induction σ with
      | nil => intro ρ hl; cases ρ with
        | nil => exact .nil
        | cons _ _ => simp at hl
      | cons o σ ih => intro ρ hl; cases ρ with
        | nil => simp at hl
        | cons x ρ => exact All3.cons (fp := []) rfl (ih ρ (by simpa using hl))
    exact All3.cons (fp := []) ⟨rfl, p, ea, rfl⟩ (key σ ρ (by simpa using hl))
  | o :: σ, i + 1, x :: ρ, hl, h => All3.cons (fp := []) rfl (all_am ea σ i ρ (by simpa using hl) h)
theorem bx_amb {sts : List Stmt} {mS : S D} {i : Nat} {ds : List D} (h : ρ[i]? = some (.val (.ow 1) (.list ds))) (hb : BX (M := S) T W (.vw 0) ((ρ.map fun _ => Slot.any).set i .am) sts Out.rt mS) :
    BX (M := R) T W (.vw 0) ρ sts Out.rt (runS mS ds) := by
  obtain ⟨ts, p, q⟩ := hb
  refine ⟨ts, p, fun B De σ H F s I w => ?_⟩
  obtain ⟨a, vs, ea, hp, dp, hF, hn, put⟩ := I.put h
  obtain ⟨fps, al, nd, kk⟩ := id I.sl
  have hGa : B.G a = none := by
    obtain ⟨y, fp, pre, post, e1, sp, e2, _⟩ := al.at_ h
    obtain ⟨u, eu, b, us, ds', fps', eb, _, _, _, ef⟩ := sp
    have : u = .ref a := by
      have z := (e1.trans (congrArg some eu)).symm.trans ea
      exact Option.some.inj (Option.some.inj z)
    subst this
    cases eb
    exact (kk a (by rw [e2, ef]; simp)).2.1
  -- the base with a as the list that all see
  let B' : Base := ⟨fun b => if B.a0 = some b then H b else B.G b, F, some a⟩
  have hB'a : B'.G a = none := by
    show (if B.a0 = some a then H a else B.G a) = none
    rw [if_neg hn]; exact hGa
  have I' : SI T.K B' ((ρ.map fun _ => Slot.any).set i .am) σ H F ds := by
    refine ⟨I.fh, fun _ _ e => e, fun b u e => ?_, fun b u e => .inl ⟨u, e⟩, ?_, I.ln, [], all_am rfl σ i ρ al.length.symm ea, List.nodup_nil, by simp⟩
    · have e : (if B.a0 = some b then H b else B.G b) = some u := e
      split at e
      · exact e
      · exact I.gh b u e
    · exact ⟨⟨vs, hp, dp⟩, hF, hB'a⟩
  have back : ∀ {H' F' : Hp} {s' : List D}, SI T.K B' [] [] H' F' s' → SI T.K B [] [] H' F' s := by
    intro H' F' s' J
    refine ⟨J.fh, fun b u e => J.f0 b u (I.f0 b u e), fun b u e => J.gh b u ?_, fun b u e => ?_, ?_, J.ln, [], .nil, List.nodup_nil, by simp⟩
    · show (if B.a0 = some b then H b else B.G b) = some u
      rw [if_neg fun z => by rw [I.am.noG z] at e; cases e]; exact e
    · rcases J.nw b u e with ⟨o, z⟩ | z
      · exact I.nw b o z
      · have z : (if B.a0 = some b then H b else B.G b) = none := z
        split at z
        · rename_i hb; exact .inr (I.am.noG hb)
        · exact .inr z
    · have am := I.am
      unfold AmbOk at am ⊢
      cases q : B.a0 with
      | none => trivial
      | some b =>
        rw [q] at am
        obtain ⟨⟨us, h1, h2⟩, h3, h4⟩ := am
        have hG : B'.G b = some (.lst us) := by
          show (if B.a0 = some b then H b else B.G b) = some _
          rw [if_pos q]; exact h1
        have hF' : F' b = none := by
          cases e : F' b with
          | none => rfl
          | some u =>
            rcases J.nw b u e with ⟨o, z⟩ | z
            · have z : F b = some o := z
              rw [h3] at z; cases z
            · rw [hG] at z; cases z
        refine ⟨⟨us, J.gh b _ hG, ?_⟩, hF', h4⟩
        exact DpmAll J.f0 h2
  have top : ∀ a, B'.top a = none → B.top a = none := fun b e => by
    have e : (if (some a : Option Addr) = some b then some (HO.lst []) else if B.a0 = some b then H b else B.G b) = none := e
    show (if B.a0 = some b then some (HO.lst []) else B.G b) = none
    split at e
    · cases e
    · split at e
      · rename_i hb
        obtain ⟨o, z⟩ := I.am.there hb
        rw [z] at e; cases e
      · rename_i hb
        rw [if_neg hb]; exact e
  refine q B' De σ H F ds I' ?_
  show R.wp (mS ds) _ _
  have w : R.wp (runS mS ds) (fun d => Post T.K B F (.vw 0) De s (.rt d)) (fun x => PostX T.toCst B W s x) := w
  unfold runS at w
  cases hm : mS ds with
  | ok p =>
    rw [hm] at w
    have w : Post T.K B F (.vw 0) De s (.rt p.1) := w
    intro v F' H' J r
    exact w v F' H' (back J) (r.top top)
  | exc x =>
    rw [hm] at w
    have w : PostX T.toCst B W s x := w
    intro s' cls dd σ' F' H' J xr
    exact w cls dd σ' F' H' (back J) xr
  | bad => rw [hm] at w; exact w
end
end DL
end
section
namespace DL
open PySem PySem.Spec PyProof.Rows L2
section
variable {M : Type → Type} [EM M] {T : Tx} {W : WX} {rk : Kd} {ρ : List Slot} {B : Base} {σ : List (Option V)} {F F' F1 F2 H H' H1 H2 : Hp} {s s' s1 s2 : List D} {v : V} {d : D} {K : PySem.W.Frag}
/-! ### -a -/
def negO : D → Option D
  | .int i => some (.int (-i))
  | _ => none
theorem ed_neg {a : Expr} {pos : Pos} {m : M D} (h : ED T W ρ a (.vw 0) m) : ED T W ρ (.UnaryOp .USub a pos) (.vw 0) (m >>= fun x => lfo (negO x)) := by
  obtain ⟨ta, pa, sa⟩ := h
  refine ⟨tUn (rU fun i => .int (-i)) ta, fun X hX hW => pe_un un_neg (pa X hX hW), fun B σ H F s Q I h => ?_⟩
  refine one1 (e := a) (te := ta) sa I h fun d s1 v F1 H1 st I1 r h1 => ?_
  obtain ⟨d', e, w⟩ := wp_lfo h1
  unfold negO at e
  split at e
  · cases Option.some.inj e
    exact ⟨_, Dp.int_ r, w _ F1 H1 I1.refl (.int _)⟩
  · cases e
/-! ### a table of the text -/
/-- a table's value as data -/
def dvD : He.Dv → Option D
  | .non => some .none
  | .bl b => some (.bool b)
  | .int i => some (.int i)
  | .str x => some (.str x)
  | _ => none
def lookD (tb : List (Str × He.Dv)) (z : Str) : Option D := match tb.find? (fun p => decide (p.1 = z)) with
  | some p => dvD p.2
  | none => none
def dgetO (tb : List (Str × He.Dv)) (y : D) : Option D := (strO y).bind fun z => lookD tb z
def TabN (C : Cst) (x : Str) (tb : List (Str × He.Dv)) : Prop := ∃ a es n, C.mg x = some (.ref a) ∧ KDict C.K C.w a es n ∧ He.valsB C.K a tb = true
theorem ed_dget {x : Str} {tb : List (Str × He.Dv)} {b : Expr} {p pos : Pos} {mb : M D} (hg : GlT T x) (ht : TabN T.toCst x tb) (hb : ED T W ρ b (.vw 0) mb) (hdb : (x == ("__debug__" : Str)) = false := by decide) (hs : PlainIx b := by intro _ _; rfl) :
    ED T W ρ (.Subscript (.Name x p) b pos) (.vw 0) (mb >>= fun y => lfo (dgetO tb y)) := by
  obtain ⟨tt, pb, sb⟩ := hb
  obtain ⟨a, es, n, hm, kd, hv⟩ := ht
  refine ⟨tOp (rIxD T.K T.w) (tC (.ref a)) tt, fun X hX hW => ?_, fun B σ H F s Q I w => ?_⟩
  · have z := pe_ix (pos := pos) ix_kdict (pe_glob (pos := p) (v := .ref a) (hg.gl hX) (by rw [hX.mg]; exact hm) rfl hdb) (pb X hX hW) hs
    rw [hX.K, hX.w] at z
    exact z
  · refine sb B σ H F s _ I (EM.mono (EM.wp_bind w) (fun y s1 w1 u F1 H1 st r => ?_) fun x s1 w => w)
    obtain ⟨d, ed, w2⟩ := wp_lfo w1
    obtain ⟨z, ez, ed2⟩ := Option.bind_eq_some_iff.mp ed
    have ez := strO_ ez
    subst ez
    unfold lookD at ed2
    split at ed2
    · rename_i q hq
      have hz : q.1 = z := by
        have z := List.find?_some hq
        simpa using z
      obtain ⟨u0, e1, e2⟩ := He.valsB_ok hv (List.mem_of_find?_eq_some hq)
      rw [hz] at e1
      refine ⟨a, z, q.2.v T.K, rfl, Dp.str_ r, ⟨es, n, u0, kd.at_, kd.lit, e1, e2⟩, w2 _ F1 H1 st ?_⟩
      have key : ∀ (v : He.Dv) (d : D), dvD v = some d → Dp T.K F1 (v.v T.K) d := by
        intro v d e
        cases v <;> first | (cases e; constructor; done) | (cases e; done)
      exact key _ _ ed2
    · cases ed2
/-! ### blocks behind a loop, behind branches -/
def Er.seq {S α : Type} (r : Er S) (f : S → M α) (g : D → α) : M α := match r with
  | .go s => f s
  | .rt d => pure (g d)
theorem bx_seqE {α S : Type} {it : α → Out} {J : S → List Slot} {st : Stmt} {rest : List Stmt} {m : M (Er S)} {f : S → M α} {g : D → α} (h : SX T W rk ρ st (Er.it J) m) (hg : ∀ d, it (g d) = .rt d) (hr : ∀ s, BX T W rk (J s) rest it (f s)) :
    BX T W rk ρ (st :: rest) it (m >>= fun r => r.seq f g) := by
  refine bx_seqX h (fun b ρ' e => ?_) fun b hb => ?_
  · cases b with
    | go s =>
      have e : Out.nx (J s) = .nx ρ' := e
      cases e
      exact hr s
    | rt d => cases (show Out.rt d = .nx ρ' from e)
  · cases b with
    | go s => exact absurd rfl (hb (J s))
    | rt d => exact ⟨g d, rfl, hg d⟩
/-- how branches in a loop end -/
inductive Fj (σ τ : Type) where
  | nx (s : σ) | ct (s : τ) | bk (s : τ) | rt (d : D)
def Fj.it {σ τ : Type} (J : σ → List Slot) (J' : τ → List Slot) : Fj σ τ → Out
  | .nx s => .nx (J s)
  | .ct s => .ct (J' s)
  | .bk s => .bk (J' s)
  | .rt d => .rt d
def Fj.seq {S τ α : Type} (r : Fj S τ) (f : S → M α) (gc gb : τ → α) (g : D → α) : M α := match r with
  | .nx s => f s
  | .ct s => pure (gc s)
  | .bk s => pure (gb s)
  | .rt d => pure (g d)
theorem bx_seqJ {α S τ : Type} {it : α → Out} {J : S → List Slot} {J' : τ → List Slot} {st : Stmt} {rest : List Stmt} {m : M (Fj S τ)} {f : S → M α} {gc gb : τ → α} {g : D → α} (h : SX T W rk ρ st (Fj.it J J') m) (hc : ∀ s, it (gc s) = .ct (J' s)) (hb : ∀ s, it (gb s) = .bk (J' s)) (hg : ∀ d, it (g d) = .rt d) (hr : ∀ s, BX T W rk (J s) rest it (f s)) :
    BX T W rk ρ (st :: rest) it (m >>= fun r => r.seq f gc gb g) := by
  refine bx_seqX h (fun b ρ' e => ?_) fun b hn => ?_
  · cases b with
    | nx s =>
      have e : Out.nx (J s) = .nx ρ' := e
      cases e
      exact hr s
    | ct s => cases (show Out.ct _ = .nx ρ' from e)
    | bk s => cases (show Out.bk _ = .nx ρ' from e)
    | rt d => cases (show Out.rt d = .nx ρ' from e)
  · cases b with
    | nx s => exact absurd rfl (hn (J s))
    | ct s => exact ⟨gc s, rfl, hc s⟩
    | bk s => exact ⟨gb s, rfl, hb s⟩
    | rt d => exact ⟨g d, rfl, hg d⟩
/-- an owned value is a list -/
theorem bx_ow {α : Type} {it : α → Out} {i : Nat} {sts : List Stmt} {f : List D → M α} (h : ρ[i]? = some (.val (.ow 1) d)) (hb : ∀ ds, BX T W rk (ρ.set i (.val (.ow 1) (.list ds))) sts it (f ds)) : BX T W rk ρ sts it (lfo (lpartsO d) >>= fun ds => f ds) := by
  cases d with
  | list ds =>
    obtain ⟨ts, p, q⟩ := hb ds
    refine ⟨ts, p, fun B De σ H F s I w => q B De σ H F s ?_ ?_⟩
    · obtain ⟨hi, hv⟩ := List.getElem?_eq_some_iff.mp h
      have e : ρ.set i (.val (.ow 1) (.list ds)) = ρ := by rw [← hv]; exact List.set_getElem_self hi
      rw [e]
      exact I
    · obtain ⟨a, e, w⟩ := wp_lfo (EM.wp_bind w)
      have e := Option.some.inj e
      subst e
      exact w
  | _ =>
    refine ⟨tNever, fun _ _ _ => pss_never, fun B De σ H F s I w => ?_⟩
    obtain ⟨a, e, w⟩ := wp_lfo (EM.wp_bind w)
    cases e
/-- nothing -/
theorem sx_pass {pos : Pos} : SX (M := M) T W rk ρ (.Pass pos) (fun _ : Unit => .nx ρ) (pure ()) := by
  refine ⟨tNext, fun X hX hW => ps_pass, fun B De σ H F s I w => ?_⟩
  exact EM.wp_pure w σ F H (Same.refl F) I
end
end DL
end
section
namespace DL
open PySem PySem.Spec PyProof.Rows L2
section
variable {T : Tx} {M : Type → Type} [EM M]
theorem GD.map {tg : Expr} {β β' : Type} {p : D → Option β} {p' : D → Option β'} {st : β → List Slot → List Slot} {st' : β' → List Slot → List Slot} {ix : List Nat} (h : GD T tg p st ix) (f : β' → β) (hp : ∀ d b, p' d = some b → p d = some (f b)) (hs : ∀ b ρ, st (f b) ρ = st' b ρ) : GD T tg p' st' ix := by
  obtain ⟨g, pg, q⟩ := h
  exact ⟨g, pg, fun B ρ σ H F s d b v Q I h e k => q B ρ σ H F s d (f b) v Q I h (hp d b e) fun σ' I' w => k σ' (by rw [← hs]; exact I') w⟩
/-- pairs, triples -/
def tup2 : D → Option (D × D)
  | .tuple [a, b] => some (a, b)
  | _ => none
def tup3 : D → Option (D × D × D)
  | .tuple [a, b, c] => some (a, b, c)
  | _ => none
def tup4 : D → Option (D × D × D × D)
  | .tuple [a, b, c, d] => some (a, b, c, d)
  | _ => none
def tup5 : D → Option (D × D × D × D × D)
  | .tuple [a, b, c, d, e] => some (a, b, c, d, e)
  | _ => none
def tup6 : D → Option (D × D × D × D × D × D)
  | .tuple [a, b, c, d, e, f] => some (a, b, c, d, e, f)
  | _ => none
def lst2 : D → Option (D × D)
  | .list [a, b] => some (a, b)
  | _ => none
theorem gd_tup2 {i1 i2 : Nat} {x1 x2 : Str} {p1 p2 pos : Pos} {j : Nat} (h1 : Sto T i1 x1) (h2 : Sto T i2 x2) (hn : ∀ env, (assignEach [.Name x1 p1, .Name x2 p2] env).length = 2 := by intro _; rfl) (hst : ∀ env, (assignEach [.Name x1 p1, .Name x2 p2] env).findIdx? (·.1) = none := by intro _; rfl) :
    GD T (.Tuple [.Name x1 p1, .Name x2 p2] j pos) tup2 (fun b ρ => (ρ.set i1 (.val (.vw 0) b.1)).set i2 (.val (.vw 0) b.2)) ([i1] ++ [i2]) :=
  (gd_tup (gds_cons (gd_name h1) (gds_one (gd_name h2))) hn hst).map id (fun d b e => by
    unfold tup2 at e
    split at e
    · cases e; rfl
    · cases e) fun b ρ => rfl
theorem gd_tup3 {i1 i2 i3 : Nat} {x1 x2 x3 : Str} {p1 p2 p3 pos : Pos} {j : Nat} (h1 : Sto T i1 x1) (h2 : Sto T i2 x2) (h3 : Sto T i3 x3) (hn : ∀ env, (assignEach [.Name x1 p1, .Name x2 p2, .Name x3 p3] env).length = 3 := by intro _; rfl) (hst : ∀ env, (assignEach [.Name x1 p1, .Name x2 p2, .Name x3 p3] env).findIdx? (·.1) = none := by intro _; rfl) :
    GD T (.Tuple [.Name x1 p1, .Name x2 p2, .Name x3 p3] j pos) tup3 (fun b ρ => ((ρ.set i1 (.val (.vw 0) b.1)).set i2 (.val (.vw 0) b.2.1)).set i3 (.val (.vw 0) b.2.2)) ([i1] ++ ([i2] ++ [i3])) :=
  (gd_tup (gds_cons (gd_name h1) (gds_cons (gd_name h2) (gds_one (gd_name h3)))) hn hst).map id (fun d b e => by
    unfold tup3 at e
    split at e
    · cases e; rfl
    · cases e) fun b ρ => rfl
theorem gd_tup4 {i1 i2 i3 i4 : Nat} {x1 x2 x3 x4 : Str} {p1 p2 p3 p4 pos : Pos} {j : Nat} (h1 : Sto T i1 x1) (h2 : Sto T i2 x2) (h3 : Sto T i3 x3) (h4 : Sto T i4 x4) (hn : ∀ env, (assignEach [.Name x1 p1, .Name x2 p2, .Name x3 p3, .Name x4 p4] env).length = 4 := by intro _; rfl) (hst : ∀ env, (assignEach [.Name x1 p1, .Name x2 p2, .Name x3 p3, .Name x4 p4] env).findIdx? (·.1) = none := by intro _; rfl) :
    GD T (.Tuple [.Name x1 p1, .Name x2 p2, .Name x3 p3, .Name x4 p4] j pos) tup4 (fun b ρ => (((ρ.set i1 (.val (.vw 0) b.1)).set i2 (.val (.vw 0) b.2.1)).set i3 (.val (.vw 0) b.2.2.1)).set i4 (.val (.vw 0) b.2.2.2)) ([i1] ++ ([i2] ++ ([i3] ++ [i4]))) :=
  (gd_tup (gds_cons (gd_name h1) (gds_cons (gd_name h2) (gds_cons (gd_name h3) (gds_one (gd_name h4))))) hn hst).map id (fun d b e => by
    unfold tup4 at e
    split at e
    · cases e; rfl
    · cases e) fun b ρ => rfl
theorem gd_lst2 {i1 i2 : Nat} {x1 x2 : Str} {p1 p2 pos : Pos} {j : Nat} (h1 : Sto T i1 x1) (h2 : Sto T i2 x2) (hn : ∀ env, (assignEach [.Name x1 p1, .Name x2 p2] env).length = 2 := by intro _; rfl) (hst : ∀ env, (assignEach [.Name x1 p1, .Name x2 p2] env).findIdx? (·.1) = none := by intro _; rfl) :
    GD T (.Tuple [.Name x1 p1, .Name x2 p2] j pos) lst2 (fun b ρ => (ρ.set i1 (.val (.vw 0) b.1)).set i2 (.val (.vw 0) b.2)) ([i1] ++ [i2]) :=
  (gd_unl (gds_cons (gd_name h1) (gds_one (gd_name h2))) hn hst).map id (fun d b e => by
    unfold lst2 at e
    split at e
    · cases e; rfl
    · cases e) fun b ρ => rfl
/-- a made list becomes shared -/
theorem EA.fr {W : WX} {ρ : List Slot} {e : Expr} {n : Nat} {m : M D} (h : EA T W ρ e (.ow n) m) : EA T W ρ e (.vw 0) m := by
  obtain ⟨te, p, ps, q⟩ := h
  refine ⟨te, p, ps, fun B σ H F s Q I w => q B σ H F s Q I (EM.mono w (fun d s1 w v F1 H1 st r => ?_) fun x s1 w => w)⟩
  obtain ⟨fp, o, nd, k⟩ := r
  have outF : ∀ a o, F1 a = some o → (if a ∈ fp then H1 a else F1 a) = some o := fun a o e => by
    rw [if_neg fun z => by rw [(k a z).2] at e; cases e]
    exact e
  refine w v (fun a => if a ∈ fp then H1 a else F1 a) H1 ⟨fun a o e => outF a o (st.ff a o e), fun a o e => ?_, st.hh, fun a o e => ?_, ?_, st.ln⟩ (Own.freeze outF o fun a ha => if_pos ha)
  · by_cases z : a ∈ fp
    · rw [if_pos z] at e; exact e
    · rw [if_neg z] at e; exact st.fh a o e
  · by_cases z : a ∈ fp
    · exact .inr (k a z).1
    · rw [if_neg z] at e; exact st.nw a o e
  · have am := st.am
    unfold AmbOk at am ⊢
    cases q : B.a0 with
    | none => trivial
    | some b =>
      rw [q] at am
      obtain ⟨⟨vs, h1, h2⟩, h3, h4⟩ := am
      refine ⟨⟨vs, h1, DpmAll outF h2⟩, ?_, h4⟩
      show (if b ∈ fp then H1 b else F1 b) = none
      rw [if_neg fun z => by obtain ⟨u, e⟩ := I.top_ b q; rw [(k b z).1] at e; cases e]
      exact h3
/-- x = [..], x a local -/
theorem sx_setA {W : WX} {rk : Kd} {ρ : List Slot} {i : Nat} {x : Str} {elt : Expr} {gs : List Comprehension} {scope : Scope} {lpos pos pos' : Pos} {k : Kd} {m : M D} {y : Slot} (st : Sto T i x) (hy : ρ[i]? = some y) (he : EA T W ρ (.ListComp elt gs scope lpos) k m) (hx : T.sc.names.lookup x = some .local) (hk : k.kept = true := by rfl)
    (hf : T.sc.kind = .function := by kernel_rfl) (hl : (pos'.line == lpos.line) = true := by rfl) (ha : (scope.names.any fun (n, k) => n == x && (k == .local || k == .cell)) = false := by kernel_rfl) :
    SX T W rk ρ (.Assign [.Name x pos'] (.ListComp elt gs scope lpos) pos) (fun d => .nx (ρ.set i (.val k d))) m := by
  obtain ⟨te, p, ps, q⟩ := he
  refine ⟨tAsg te (gName i), fun X hX hW => ps X i x pos' pos hX.toFits hW (by rw [hX.N]; exact st.ix) (by rw [hX.sc]; exact hx) (sw_true (by rw [hX.sc]; exact hf) (by rw [hX.sc]; exact hx) hl ha), fun B De σ H F s I h1 => ?_⟩
  refine q B σ H F s _ I (EM.mono h1 (fun d s1 w v F1 H1 stp r => ?_) fun x s1 w => postX I w)
  exact w _ F1 H1 stp.ff (I.set stp r hk hy)
/-- x = [..], x a cell -/
theorem sx_setC {W : WX} {rk : Kd} {ρ : List Slot} {i : Nat} {x : Str} {elt : Expr} {gs : List Comprehension} {scope : Scope} {lpos pos pos' : Pos} {k : Kd} {m : M D} {y : Slot} (st : Sto T i x) (hy : ρ[i]? = some y) (he : EA T W ρ (.ListComp elt gs scope lpos) k m) (hx : T.sc.names.lookup x = some .cell) (hk : k.kept = true := by rfl) :
    SX T W rk ρ (.Assign [.Name x pos'] (.ListComp elt gs scope lpos) pos) (fun d => .nx (ρ.set i (.val k d))) m := by
  obtain ⟨te, p, _, q⟩ := he
  refine ⟨tAsg te (gName i), fun X hX hW => ps_set (by rw [hX.N]; exact T.nd) (by rw [hX.N]; exact st.ix) (by rw [hX.sc]; exact st.loc) (p X hX.toFits hW) ?_ (by rw [hX.fn, hX.sc]; exact st.fn), fun B De σ H F s I h1 => ?_⟩
  · have kx : X.env.kindOf x = some .cell := by
      show X.env.scope.names.lookup x = _
      rw [hX.sc]; exact hx
    unfold swapsWith
    simp only [kx]
    have e : (some NameKind.cell == some NameKind.local) = false := rfl
    simp only [e, Bool.and_false, Bool.false_and]
  · refine q B σ H F s _ I (EM.mono h1 (fun d s1 w v F1 H1 stp r => ?_) fun x s1 w => postX I w)
    exact w _ F1 H1 stp.ff (I.set stp r hk hy)
theorem ed_map {W : WX} {ρ : List Slot} {tg iter elt : Expr} {scope : Scope} {own : List (Str × Nat)} {pos : Pos} {β : Type} {mi : M (List D)} {p : D → Option β} {st : β → List Slot → List Slot} {ix : List Nat} {f : β → M D} (hi : IDj true T W ρ tg iter mi) (hg : GD (T.blk scope) tg p st ix) (he : ∀ b, ED (T.blk scope) W0 (st b (wipeR ρ (own.map (·.2)))) elt (.vw 0) (f b))
    (ok : blkC T.N T.sc scope own = true) (hix : ∀ i ∈ ix, i ∈ own.map (·.2)) (hs : ∀ env x, foldedSetIterable iter env x = pure x := by intro _ _; rfl) :
    ED T W ρ (.ListComp elt [⟨tg, iter, [], 0⟩] scope pos) (.ow 1) (mi >>= fun ds => (mapS ds fun d => EM.nox (lfo (p d) >>= fun b => f b)) >>= fun r => pure (.list r)) := (ea_map hi hg he ok hix hs).ed
theorem ed_flt {W : WX} {ρ : List Slot} {tg iter elt : Expr} {ifs : List Expr} {scope : Scope} {own : List (Str × Nat)} {pos : Pos} {β : Type} {mi : M (List D)} {p : D → Option β} {st : β → List Slot → List Slot} {ix : List Nat} {mt : β → M Bool} {f : β → M D} (hi : IDj true T W ρ tg iter mi) (hg : GD (T.blk scope) tg p st ix) (ht : ∀ b, TsD (T.blk scope) W0 (st b (wipeR ρ (own.map (·.2)))) ifs (mt b)) (he : ∀ b, ED (T.blk scope) W0 (st b (wipeR ρ (own.map (·.2)))) elt (.vw 0) (f b))
    (ok : blkC T.N T.sc scope own = true) (hix : ∀ i ∈ ix, i ∈ own.map (·.2)) (hs : ∀ env x, foldedSetIterable iter env x = pure x := by intro _ _; rfl) :
    ED T W ρ (.ListComp elt [⟨tg, iter, ifs, 0⟩] scope pos) (.ow 1) (mi >>= fun ds => (fltS ds fun d => EM.nox (lfo (p d) >>= fun b => mt b >>= fun c => if c then f b >>= fun x => pure (some x) else pure none)) >>= fun r => pure (.list r)) := (ea_flt hi hg ht he ok hix hs).ed
/-- the turns of a while that are told of -/
def FUEL : Nat := 1000000
end
end DL
end
section
namespace DL
open PySem PySem.Spec PyProof.Rows L2
/-! ### zip over lists, tuples, texts -/
inductive Sk where
  | l (a : Addr) | t (a : Addr) | s (x : Str)
def chV (x : Str) : List V := x.cps.toList.map fun c => .str ⟨#[c]⟩
def Sk.val (K : PySem.W.Frag) (H : Hp) : Sk → V → List V → Prop
  | .l a, v, vs => v = .ref a ∧ SqL K H a vs
  | .t a, v, vs => v = .ref a ∧ SqT K H a vs
  | .s x, v, vs => v = .str x ∧ vs = chV x
def Sk.st : Sk → Addr → Nat → Heap → Prop
  | .l a, it, i, h => h.IsListIter it a i
  | .t a, it, i, h => h.IsTupleIter it a i
  | .s x, it, i, h => ∃ t, h.IsStrIter it (strIterType x) x t i
def Sk.below : Sk → Nat → Prop
  | .l a, n => a < n
  | .t a, n => a < n
  | .s _, _ => True
theorem Sk.st_obj {k : Sk} {it : Addr} {i : Nat} {h : Heap} (st : k.st it i h) : ∃ o, h.get? it = some o ∧ ∀ v, o.data ≠ .cell v := by
  cases k with
  | l a => obtain ⟨o, e, _, d⟩ := st; exact ⟨o, e, fun v q => by rw [d] at q; cases q⟩
  | t a => obtain ⟨o, e, _, d⟩ := st; exact ⟨o, e, fun v q => by rw [d] at q; cases q⟩
  | s x => obtain ⟨t, o, e, _, d⟩ := st; exact ⟨o, e, fun v q => by rw [d] at q; cases q⟩
theorem Sk.st_keep {k : Sk} {it : Addr} {i : Nat} {h h' : Heap} (st : k.st it i h) (kp : ∀ o, h.get? it = some o → h'.get? it = some o) : k.st it i h' := by
  cases k with
  | l a => exact Heap.IsListIter.at st kp
  | t a => exact Heap.IsTupleIter.at st kp
  | s x => obtain ⟨t, o, e, r⟩ := st; exact ⟨t, o, kp o e, r⟩
theorem Sk.draws {X : Cx} {pins : List (Addr × Obj)} {σ : L2.St} {H : Hp} {s : Shared} {A : Around} {k : Sk} {it : Addr} {i : Nat} {v : V} {vs : List V} {n0 : Nat} (I : Inv X pins σ H s) (hA : A.handled = none) (hv : k.val X.K H v vs) (st : k.st it i s.heap) (hb : k.below n0) (hit : n0 ≤ it) :
    ∃ fp n P Sq, Draws X.prog X.w A it fp n P Sq ∧ n = vs.length ∧ Sq i s.heap ∧ (∀ j u, P j u → ∃ x, vs[j]? = some x ∧ RelV x u) ∧ (∀ j h, Sq j h → k.st it j h) ∧ it ∈ fp ∧ ∀ b ∈ fp, b = it ∨ b < n0 := by
  cases k with
  | l a =>
    obtain ⟨_, hq⟩ := hv
    obtain ⟨its, rv, p, hz⟩ := I.list hq
    have hb : a < n0 := hb
    refine ⟨_, _, _, _, Draws.list hA it a (Nat.ne_of_lt (Nat.lt_of_lt_of_le hb hit)) its.toArray, by rw [List.size_toArray]; exact rv.length.symm, ⟨st, p.isList⟩, fun j u e => ?_, fun j h z => z.1, by simp, fun b hb' => ?_⟩
    · have e : its[j]? = some u := by simpa using e
      have hj : j < vs.length := by rw [rv.length]; exact (List.getElem?_eq_some_iff.mp e).1
      obtain ⟨w, ew, rw'⟩ := rv.get (List.getElem?_eq_getElem hj)
      rw [e] at ew
      cases ew
      exact ⟨_, List.getElem?_eq_getElem hj, rw'⟩
    · rcases List.mem_cons.mp hb' with z | z
      · exact .inl z
      · exact .inr (by rw [List.mem_singleton.mp z]; exact hb)
  | t a =>
    obtain ⟨_, hq⟩ := hv
    obtain ⟨its, rv, p, hz⟩ := I.tuple hq
    have hb : a < n0 := hb
    refine ⟨_, _, _, _, Draws.tuple hA it a (Nat.ne_of_lt (Nat.lt_of_lt_of_le hb hit)) its.toArray, by rw [List.size_toArray]; exact rv.length.symm, ⟨st, (show s.heap.IsTuple a its.toArray from p)⟩, fun j u e => ?_, fun j h z => z.1, by simp, fun b hb' => ?_⟩
    · have e : its[j]? = some u := by simpa using e
      have hj : j < vs.length := by rw [rv.length]; exact (List.getElem?_eq_some_iff.mp e).1
      obtain ⟨w, ew, rw'⟩ := rv.get (List.getElem?_eq_getElem hj)
      rw [e] at ew
      cases ew
      exact ⟨_, List.getElem?_eq_getElem hj, rw'⟩
    · rcases List.mem_cons.mp hb' with z | z
      · exact .inl z
      · exact .inr (by rw [List.mem_singleton.mp z]; exact hb)
  | s x =>
    obtain ⟨_, hq⟩ := hv
    obtain ⟨t, st⟩ := st
    refine ⟨_, _, _, _, Draws.text hA it x t, by rw [hq]; simp [chV], st, fun j u e => ?_, fun j h z => ⟨t, z⟩, by simp, fun b hb' => .inl (by simpa using hb')⟩
    obtain ⟨c, tk, e1, e2⟩ := e
    refine ⟨.str ⟨#[c]⟩, ?_, tk, e2⟩
    rw [hq]
    unfold chV
    rw [List.getElem?_map, Array.getElem?_toList, e1]; rfl
/-- the pairs of two -/
def Jz (K : PySem.W.Frag) (k1 k2 : Sk) (v1 v2 : V) (xs ys : List V) : It :=
  ⟨fun i H => i < xs.length ∧ i < ys.length ∧ k1.val K H v1 xs ∧ k2.val K H v2 ys,
    fun i H v H' => ∃ T x y, v = .ref T ∧ H T = none ∧ H' = upd H T (.tup [x, y]) ∧ xs[i]? = some x ∧ ys[i]? = some y,
    fun i H => i ≤ xs.length ∧ i ≤ ys.length ∧ (i = xs.length ∨ i = ys.length) ∧ k1.val K H v1 xs ∧ k2.val K H v2 ys⟩
theorem nea (n i j : Nat) (h : i ≠ j) : n + i ≠ n + j := by omega
theorem nof (n i j : Nat) (h : i ≠ j) (k : n + i = n + j ∨ n + i < n) : False := by omega
theorem turn_zipG {P : Program} {w : World} {K : PySem.W.Frag} {elts : List Expr} {kk : Nat} {tpos : Pos} {k1 k2 : Sk} {v1 v2 : V} {xs ys : List V} {n0 : Nat} (b1 : k1.below n0) (b2 : k2.below n0) :
    Turn P w K (.Tuple elts kk tpos) (Jz K k1 k2 v1 v2 xs ys) [n0 + 4, n0 + 2, n0 + 3, n0, n0 + 1] (n0 + 4) (fun i h => IsZip h (n0 + 4) (n0 + 2) (n0 + 3) .none ∧ IsTupOf2 h (n0 + 2) (.ref n0) (.ref (n0 + 1)) ∧ (∃ x y, IsTupOf2 h (n0 + 3) x y) ∧ k1.st n0 i h ∧ k2.st (n0 + 1) i h) where
  mem := by simp
  obj := fun i h st c hc => by
    obtain ⟨hz, hTI, ⟨x, y, hTO⟩, h1, h2⟩ := st
    have e' : c = n0 + 4 ∨ c = n0 + 2 ∨ c = n0 + 3 ∨ c = n0 ∨ c = n0 + 1 := by simpa using hc
    rcases e' with q | q | q | q | q
    · rw [q]; exact ⟨_, hz, fun v q => nomatch q⟩
    · rw [q]; exact ⟨_, hTI, fun v q => nomatch q⟩
    · rw [q]; exact ⟨_, hTO, fun v q => nomatch q⟩
    · rw [q]; exact Sk.st_obj h1
    · rw [q]; exact Sk.st_obj h2
  keep := fun i h h' st k => by
    obtain ⟨hz, hTI, ⟨x, y, hTO⟩, h1, h2⟩ := st
    exact ⟨k _ (by simp) _ hz, k _ (by simp) _ hTI, ⟨x, y, k _ (by simp) _ hTO⟩, Sk.st_keep h1 fun o q => k n0 (by simp) o q, Sk.st_keep h2 fun o q => k (n0 + 1) (by simp) o q⟩
  item := by
    intro X hP hw hK hc i pins s σ H E I hf st hg
    subst hP hw hK
    obtain ⟨hz, hTI, ⟨x0, y0, hTO⟩, h1, h2⟩ := st
    obtain ⟨l1, l2, q1, q2⟩ := hg
    have hA : X.A.in1.handled = none := I.ok.hd hc
    obtain ⟨fp1, n1, P1, S1, D1, e1, s1, r1, t1, m1, f1⟩ := Sk.draws I hA q1 h1 b1 (Nat.le_refl n0)
    obtain ⟨fp2, n2, P2, S2, D2, e2, s2, r2, t2, m2, f2⟩ := Sk.draws I hA q2 h2 b2 (Nat.le_succ n0)
    have S : ZipSep2 (n0 + 4) (n0 + 2) (n0 + 3) n0 (n0 + 1) fp1 fp2 := by
      refine ⟨nea n0 2 4 (by decide), nea n0 3 4 (by decide), nea n0 2 3 (by decide), nea n0 2 0 (by decide), m1, fun z => nof n0 4 0 (by decide) (f1 _ z), fun z => nof n0 3 0 (by decide) (f1 _ z), nea n0 2 1 (by decide), m2, fun z => nof n0 4 1 (by decide) (f2 _ z), fun z => nof n0 3 1 (by decide) (f2 _ z), fun z => nof n0 0 1 (by decide) (f2 _ z), fun z => nof n0 1 0 (by decide) (f1 _ z)⟩
    have hzl : n0 + 4 < s.heap.objs.size := Heap.lt_size hz
    refine wpAny_pyNext_zipD2_item S D1 D2 hz hTI hTO s1 s2 (by rw [e1]; exact l1) (by rw [e2]; exact l2) fun u1 u2 h' tk p1 p2 z' TO' st1' st2' hT hsz hk => ?_
    refine ⟨_, rfl, wpAny_letOwnedTupleGo_zip (s := { s with heap := h', toks := tk }) z' fun h'' z'' sb => ?_⟩
    obtain ⟨x, hx, ru1⟩ := r1 _ _ p1
    obtain ⟨y, hy, ru2⟩ := r2 _ _ p2
    have hT2 : h''.get? s.heap.objs.size = some { cls := .type "tuple", data := .seq #[u1, u2] } := (sb.2 _ (Nat.ne_of_gt hzl)).trans hT
    have new : ObjOk X.prog X.w (upd H s.heap.objs.size (.tup [x, y])) h'' s.heap.objs.size (.tup [x, y]) :=
      ⟨by show 2 ≤ sizeLine; decide, [u1, u2], .cons ru1 (.cons ru2 .nil), ⟨_, hT2, rfl, _, rfl⟩⟩
    have I1 : Inv X pins σ (upd H s.heap.objs.size (.tup [x, y])) { s with heap := h'', toks := tk } :=
      I.turnedNew (t' := tk) (ch := [n0 + 4, n0 + 2, n0 + 3, n0, n0 + 1]) (fun c o hb q => (sb.2 c (fun q' => hb (by simp [q']))).trans (hk c o (fun q' => hb (by simp [q'])) (fun q' => hb (by simp [q'])) (fun q' => hb (by simp [q'])) (fun q' => hb (by simp [q'])) q)) hf (Nat.le_refl _) new
    have st1 := t1 _ _ st1'
    have st2 := t2 _ _ st2'
    refine ⟨.ref s.heap.objs.size, _, I1, rfl, ⟨_, x, y, rfl, I.hok.fresh (Nat.le_refl _), rfl, hx, hy⟩, ⟨z'', ?_, ⟨u1, u2, ?_⟩, ?_, ?_⟩, fun c hcm => ?_⟩
    · exact (sb.2 _ (nea n0 2 4 (by decide))).trans (hk _ _ (nea n0 2 4 (by decide)) (nea n0 2 3 (by decide)) (nea n0 2 0 (by decide)) (nea n0 2 1 (by decide)) hTI)
    · exact (sb.2 _ (nea n0 3 4 (by decide))).trans TO'
    · exact Sk.st_keep st1 fun o q => (sb.2 _ (nea n0 0 4 (by decide))).trans q
    · exact Sk.st_keep st2 fun o q => (sb.2 _ (nea n0 1 4 (by decide))).trans q
    · have hlt : c < s.heap.objs.size := by
        have e' : c = n0 + 4 ∨ c = n0 + 2 ∨ c = n0 + 3 ∨ c = n0 ∨ c = n0 + 1 := by simpa using hcm
        have hzl : (n0 + 4 : Nat) < s.heap.objs.size := hzl
        rcases e' with q | q | q | q | q
        all_goals rw [q]
        · exact hzl
        · exact Nat.lt_trans (Nat.add_lt_add_left (by decide) n0) hzl
        · exact Nat.lt_trans (Nat.add_lt_add_left (by decide) n0) hzl
        · exact Nat.lt_trans (Nat.lt_add_of_pos_right (by decide)) hzl
        · exact Nat.lt_trans (Nat.add_lt_add_left (by decide) n0) hzl
      rw [upd_ne (Nat.ne_of_lt hlt)]
      exact (hf c hcm).1
  done := by
    intro X hP hw hK hc i pins s σ H E I hf st hg
    subst hP hw hK
    obtain ⟨hz, hTI, ⟨x0, y0, hTO⟩, h1, h2⟩ := st
    obtain ⟨l1, l2, le, q1, q2⟩ := hg
    have hA : X.A.in1.handled = none := I.ok.hd hc
    obtain ⟨fp1, n1, P1, S1, D1, e1, s1, r1, t1, m1, f1⟩ := Sk.draws I hA q1 h1 b1 (Nat.le_refl n0)
    obtain ⟨fp2, n2, P2, S2, D2, e2, s2, r2, t2, m2, f2⟩ := Sk.draws I hA q2 h2 b2 (Nat.le_succ n0)
    have S : ZipSep2 (n0 + 4) (n0 + 2) (n0 + 3) n0 (n0 + 1) fp1 fp2 := by
      refine ⟨nea n0 2 4 (by decide), nea n0 3 4 (by decide), nea n0 2 3 (by decide), nea n0 2 0 (by decide), m1, fun z => nof n0 4 0 (by decide) (f1 _ z), fun z => nof n0 3 0 (by decide) (f1 _ z), nea n0 2 1 (by decide), m2, fun z => nof n0 4 1 (by decide) (f2 _ z), fun z => nof n0 3 1 (by decide) (f2 _ z), fun z => nof n0 0 1 (by decide) (f2 _ z), fun z => nof n0 1 0 (by decide) (f1 _ z)⟩
    exact wpAny_pyNext_zipD2_end S D1 D2 hz hTI hTO s1 s2 (by rw [e1]; exact l1) (by rw [e2]; exact l2) (by rw [e1, e2]; exact le) fun h' tk hk => ⟨rfl, I.turnedL (t' := tk) (ch := [n0 + 4, n0 + 2, n0 + 3, n0, n0 + 1]) (fun c o hb q =>
      hk c o (fun q' => hb (by simp [q'])) (fun q' => hb (by simp [q'])) (fun q' => hb (by simp [q'])) (fun q' => hb (by simp [q'])) q) hf⟩
  self := fun A i s Q E st h => wpAny_pyIter_zip st.1 h
/-- how a source begins -/
theorem Sk.begins {X : Cx} {pins : List (Addr × Obj)} {σ : L2.St} {H : Hp} {s : Shared} {k : Sk} {v : V} {u : Value} {vs : List V} (I : Inv X pins σ H s) (hv : k.val X.K H v vs) (r : RelV v u) :
    ∃ o Hq, Begins u o Hq ∧ Hq s.heap ∧ k.below s.heap.objs.size ∧ ∀ h it, h.get? it = some o → k.st it 0 h := by
  cases k with
  | l a =>
    obtain ⟨e, hq⟩ := hv
    subst e
    cases r
    obtain ⟨its, rv, p, hz⟩ := I.list hq
    exact ⟨_, _, begins_list a its.toArray, p.isList, p.lt, fun h it e => ⟨_, e, rfl, rfl⟩⟩
  | t a =>
    obtain ⟨e, hq⟩ := hv
    subst e
    cases r
    obtain ⟨its, rv, p, hz⟩ := I.tuple hq
    obtain ⟨o, ho, _⟩ := id p
    exact ⟨_, _, begins_tuple a its.toArray, (show s.heap.IsTuple a its.toArray from p), Heap.lt_size ho, fun h it e => ⟨_, e, rfl, rfl⟩⟩
  | s x =>
    obtain ⟨e, hq⟩ := hv
    subst e
    obtain ⟨t, rfl⟩ := r
    exact ⟨_, _, begins_text x t, trivial, trivial, fun h it e => ⟨t, _, e, rfl, rfl⟩⟩
def iZipG (K : PySem.W.Frag) (ta : TA) : TI := fun σ H R => ta σ H fun vs H1 => ∃ k1 k2 v1 v2 xs ys, vs = [v1, v2] ∧ Sk.val K H1 k1 v1 xs ∧ Sk.val K H1 k2 v2 ys ∧ R (Jz K k1 k2 v1 v2 xs ys) H1
theorem pi_zipG {X : Cx} {e e2 : Expr} {ta : TA} {p pos tpos : Pos} {elts : List Expr} {kk : Nat} (hg : Gl X "zip") (hm : X.mg "zip" = none) (ha : PA X [e, e2] ta)
    (hs : starEach [e, e2] X.env = (false, eval e X.env) :: starEach [e2] X.env := by rfl) (hpl : (backTo pos (starEach [e2] X.env)).any (·.1) = false := by rfl) :
    PI X (.Tuple elts kk tpos) (.Call (.Name "zip" p) [e, e2] [] pos) (iZipG X.K ta) := by
  refine ⟨fun pins s σ H R I h => ?_⟩
  refine Call_ (ld_blt I hg hm PyProof.Rows.boot_zip (PyProof.Rows.callWith_type1 (thn (ha.run pos pins s σ H _ I h) fun us s1 ⟨vs, H1, I1, r1, q1⟩ => ?_) hs hpl))
  obtain ⟨k1, k2, v1, v2, xs, ys, ex, hq1, hq2, q⟩ := q1
  subst ex
  cases r1 with
  | cons r rr =>
    cases rr with
    | cons r' rr =>
      cases rr
      obtain ⟨o1, Hq1, B1, h1, bl1, st1⟩ := Sk.begins I1 hq1 r
      obtain ⟨o2, Hq2, B2, h2, bl2, st2⟩ := Sk.begins I1 hq2 r'
      refine zip_begins2 B1 B2 h1 h2 fun h' hz hTI hTO g1 g2 hsz hk => wpAny_pyIter_zip hz ?_
      have I2 : Inv X pins σ H1 { s1 with heap := h' } := I1.kept (t' := s1.toks) hk
      refine ⟨s1.heap.objs.size + 4, [s1.heap.objs.size + 4, s1.heap.objs.size + 2, s1.heap.objs.size + 3, s1.heap.objs.size, s1.heap.objs.size + 1], _, _, H1, rfl, I2, turn_zipG (n0 := s1.heap.objs.size) bl1 bl2, ⟨hz, hTI, ⟨_, _, hTO⟩, st1 _ _ g1, st2 _ _ g2⟩, fun c hcm => ?_, q⟩
      have e' : c = s1.heap.objs.size + 4 ∨ c = s1.heap.objs.size + 2 ∨ c = s1.heap.objs.size + 3 ∨ c = s1.heap.objs.size ∨ c = s1.heap.objs.size + 1 := by simpa using hcm
      have hle : s1.heap.objs.size ≤ c := by
        rcases e' with z | z | z | z | z
        all_goals rw [z]
        · exact Nat.le_add_right _ _
        · exact Nat.le_add_right _ _
        · exact Nat.le_add_right _ _
        · exact Nat.le_refl _
        · exact Nat.le_add_right _ _
      exact I1.fpOk hle (I1.hok.fresh hle)
/-! ### .. as data -/
def zipD : List D → List D → List D
  | d :: ds, e :: es => .tuple [d, e] :: zipD ds es
  | _, _ => []
theorem zipD_len : ∀ {ds es : List D}, (zipD ds es).length = min ds.length es.length
  | [], _ => by simp [zipD]
  | _ :: _, [] => by simp [zipD]
  | d :: ds, e :: es => by simp only [zipD, List.length_cons, zipD_len]; omega
theorem zipD_at : ∀ {ds es : List D} {i : Nat} {d : D}, (zipD ds es)[i]? = some d → ∃ x y, ds[i]? = some x ∧ es[i]? = some y ∧ d = .tuple [x, y]
  | [], _, _, _, h => by simp [zipD] at h
  | _ :: _, [], _, _, h => by simp [zipD] at h
  | x :: ds, y :: es, 0, d, h => by
    have h := Option.some.inj h
    exact ⟨x, y, rfl, rfl, h.symm⟩
  | x :: ds, y :: es, i + 1, d, h => zipD_at (ds := ds) (es := es) (i := i) h
def zipO2 : List D → Option (List D)
  | [a, b] => (itemsO a).bind fun xs => (itemsO b).bind fun ys => some (zipD xs ys)
  | _ => none
section
variable {M : Type → Type} [EM M] {T : Tx} {W : WX} {ρ : List Slot} {B : Base} {σ : List (Option V)} {F F' F1 F2 H H' H1 H2 : Hp} {s s' s1 s2 : List D} {v : V} {d : D} {K : PySem.W.Frag}
/-- data of a source -/
theorem Sk.of {ds : List D} (fh : Same F H) (ln : LenOk H) (h : Dp K F v d) (e : itemsO d = some ds) : ∃ k vs, Sk.val K F k v vs ∧ DpAll K F vs ds ∧ ds.length ≤ sizeLine := by
  cases h with
  | lst hs ha =>
    cases Option.some.inj e
    exact ⟨.l _, _, ⟨rfl, hs⟩, ha, by rw [← dpall_len ha]; exact ln.lst (SqLmono hs fun o z => fh _ _ z)⟩
  | tup hs ha =>
    cases Option.some.inj e
    exact ⟨.t _, _, ⟨rfl, hs⟩, ha, by rw [← dpall_len ha]; exact ln.tup (SqTmono hs fun o z => fh _ _ z)⟩
  | str x =>
    have e : (if x.length ≤ sizeLine then some (signsD x) else none) = some ds := e
    by_cases hx : x.length ≤ sizeLine
    · rw [if_pos hx] at e
      have e := Option.some.inj e
      subst e
      refine ⟨.s x, _, ⟨rfl, rfl⟩, ?_, by have : (signsD x).length = x.length := by simp [signsD, Str.length]
                                          omega⟩
      unfold chV signsD
      generalize x.cps.toList = l
      induction l with
      | nil => exact .nil
      | cons c l ih => exact .cons (.str _) ih
    · rw [if_neg hx] at e; cases e
  | _ => cases e
theorem Sk.mono {k : Sk} {vs : List V} (ff : Same F H) (h : Sk.val K F k v vs) : Sk.val K H k v vs := by
  cases k with
  | l a => exact ⟨h.1, ff.seq h.2⟩
  | t a => exact ⟨h.1, SqTmono h.2 fun o z => ff _ _ z⟩
  | s x => exact h
theorem walks_zip {k1 k2 : Sk} {v1 v2 : V} {xs ys : List V} {ds es : List D} (h1 : Sk.val K F k1 v1 xs) (h2 : Sk.val K F k2 v2 ys) (a1 : DpAll K F xs ds) (a2 : DpAll K F ys es) {G0 : Hp} (hl : ds.length ≤ sizeLine) : Walks K (Jz K k1 k2 v1 v2 xs ys) (zipD ds es) F G0 where
  len := by rw [zipD_len]; exact Nat.le_trans (Nat.min_le_left _ _) hl
  go := fun i H hi ff _ => by
    rw [zipD_len, ← dpall_len a1, ← dpall_len a2] at hi
    exact ⟨by omega, by omega, Sk.mono ff h1, Sk.mono ff h2⟩
  stop := fun H ff _ => by
    rw [zipD_len, ← dpall_len a1, ← dpall_len a2]
    exact ⟨Nat.min_le_left _ _, Nat.min_le_right _ _, by omega, Sk.mono ff h1, Sk.mono ff h2⟩
  yld := fun i H x H' F' d hd f0 fh _ y => by
    obtain ⟨T, u, w, e1, e2, e3, e4, e5⟩ := y
    obtain ⟨dx, dy, e6, e7, e8⟩ := zipD_at hd
    subst e1 e3 e8
    have ex := Ext.tup (vs := [u, w]) fh e2 (by show 2 ≤ sizeLine; rw [sizeLine_eq]; omega)
    exact ⟨_, ex, .tup (.of upd_same) (.cons (Dpm (f0.trans ex.ff) (dpall_at a1 e4 e6)) (.cons (Dpm (f0.trans ex.ff) (dpall_at a2 e5 e7)) .nil))⟩
theorem id_zip2 {cm : Bool} {e e2 : Expr} {p pos tpos : Pos} {elts : List Expr} {kk : Nat} {κ : (List D → M (List D)) → M (List D)} (hg : GlT T "zip") (hm : T.mg "zip" = none) (ha : AD T W ρ [e, e2] [.p (.vw 0), .p (.vw 0)] κ) (hs : ∀ env, starEach [e, e2] env = (false, eval e env) :: starEach [e2] env := by intro _; rfl) (hpl : ∀ env, (backTo pos (starEach [e2] env)).any (·.1) = false := by intro _; rfl) :
    IDj cm T W ρ (.Tuple elts kk tpos) (.Call (.Name "zip" p) [e, e2] [] pos) (κ fun ds => lfo (zipO2 ds)) := by
  obtain ⟨ta, pa, sa⟩ := ha
  refine ⟨iZipG T.K ta, fun X hX hW => ?_, fun B σ H F s R I h => ?_⟩
  · have z := pi_zipG (tpos := tpos) (elts := elts) (kk := kk) (p := p) (pos := pos) (hg.gl hX) (by rw [hX.mg]; exact hm) (pa X hX hW) (hs X.env) (hpl X.env)
    rw [hX.K] at z
    exact z
  refine sa B σ H F s _ _ _ I h fun ds s1 vs F1 H1 st w ar => ?_
  obtain ⟨v, d, u, e', e1, e2, hv, hu⟩ := args2 ar
  subst e1 e2
  obtain ⟨r, e, w⟩ := wp_lfo w
  obtain ⟨xs, e3, e4⟩ := Option.bind_eq_some_iff.mp (show (itemsO d).bind (fun xs => (itemsO e').bind fun ys => some (zipD xs ys)) = some r from e)
  obtain ⟨ys, e5, e6⟩ := Option.bind_eq_some_iff.mp e4
  cases Option.some.inj e6
  have I1 := I.step st
  obtain ⟨k1, vs1, q1, a1, l1⟩ := Sk.of I1.fh I1.ln (show Dp T.K F1 v d from hv) e3
  obtain ⟨k2, vs2, q2, a2, l2⟩ := Sk.of I1.fh I1.ln (show Dp T.K F1 u e' from hu) e5
  exact ⟨k1, k2, v, u, vs1, vs2, rfl, Sk.mono I1.fh q1, Sk.mono I1.fh q2, w _ F1 H1 st (walks_zip q1 q2 a1 a2 l1)⟩
end
end DL
end
section
namespace DL
open PySem PySem.Spec PyProof.Rows L2
/-- a def keeps its promise, its function object known -/
theorem def_fn {M : Type → Type} [EM M] {C : Cst} {N ps : List Str} {sc : Scope} {k : Nat} {x qual : Str} {params : Arguments} {body : List Stmt} {fa : Addr} {fd : FuncData} {ks : List Kp} {rk : Kd} {f : List D → M D}
    (F : FunD C.K x qual params body sc [] [] fa fd) (S : FnScope N ps sc) (hk : ks.length = ps.length)
    (hb : ∀ (W : WX) (ds : List D), ds.length = ks.length → BX { C with N := N, sc := sc, fn := fun _ => true, k := k, nd := S.nd } W rk (entry N.length ks ds) body Out.rt (f ds)) :
    FnOk C.P C.w C.K C.mg C.base (L2.CX C.P C.w) (k + 1) fa fd ps (spD C ks rk f) :=
  def_core F S hk hb fun B F H De ψ χ ds s w h _ => EM.mono w (fun d s' z => h d s' z) fun _ _ z => z
theorem lenO_of {P : Program} {w : World} {H : Hp} {h : Heap} {a : Addr} {o : HO} (x : ObjOk P w H h a o) : LenO o := by
  induction o with
  | lst _ => exact x.1
  | tup _ => exact x.1
  | dK _ => exact x.1
  | frz _ u ih => exact ih x.2
  | _ => trivial
theorem dp_ints {K : PySem.W.Frag} {H : Hp} : ∀ ns : List Int, DpAll K H (ns.map V.int) (ns.map PyData.int)
  | [] => .nil
  | n :: ns => .cons (.int n) (dp_ints ns)
def spLaw (K : PySem.W.Frag) : Sp := fun vs H Q _ => ∃ (a : Addr) (ns : List Int), vs = [.ref a] ∧ ns.length ≤ 63 ∧ SqL K H a (ns.map V.int) ∧ ∀ H', Q (.bl true) H'
/-- the law's def: its mirror tells True -/
theorem law_fn {P : Program} {w : World} {K : PySem.W.Frag} {mg : Str → Option Value} {base : Heap} {k : Nat} {fa : Addr} {fd : FuncData} {m : List D → R D}
    (F : FnOk P w K mg base (L2.CX P w) k fa fd ["script"] (spD ⟨P, w, K, mg, base⟩ [.p (.vw 0)] (.vw 0) m)) (hm : ∀ ns : List Int, ns.length ≤ 63 → m [.list (ns.map .int)] = .ok (.bool true)) :
    FnOk P w K mg base (fun _ _ _ _ _ _ => False) k fa fd ["script"] (spLaw K) := by
  refine ⟨fun vs H Q E h => ?_, fun A outer s H args us vs Q E hr e0 hb hv h => ?_⟩
  · obtain ⟨a, ns, rfl, _⟩ := h
    rfl
  · obtain ⟨a, ns, rfl, hl, hS, q⟩ := h
    refine codeAny_mono (F.run A outer s H args us _ Q (fun _ _ _ => False) hr e0 hb hv ?_) fun r s' z => ?_
    · refine ⟨none, H, [], [.list (ns.map .int)], Same.refl H, fun a o e => lenO_of (e0.hok a o e), trivial, .cons (.lst hS (dp_ints ns)) .nil, ?_⟩
      rw [hm ns hl]
      intro v F' H' st r
      have r : Dp K F' v (.bool true) := r
      rw [Dp.bool_ r]
      exact q H'
    · cases r with
      | ok u =>
        cases u with
        | ret u => exact z
        | _ => exact z.elim
      | error e =>
        obtain ⟨a, B, H', cls, d, _, _, _, _, _, _, _, z⟩ := z
        exact z.elim
end DL
end
section
namespace DL
open PySem PySem.Spec PyProof.Rows L2
/-! ### mirrors in R, reckoned -/
@[simp] theorem r_pure {α : Type} (a : α) : (pure a : R α) = .ok a := rfl
@[simp] theorem r_bind {α β : Type} (a : α) (f : α → R β) : (R.ok a >>= f) = f a := rfl
@[simp] theorem r_bad {α β : Type} (f : α → R β) : ((R.bad : R α) >>= f) = .bad := rfl
@[simp] theorem r_exc {α β : Type} (x : XC) (f : α → R β) : ((R.exc x : R α) >>= f) = .exc x := rfl
@[simp] theorem r_lfo {α : Type} (a : α) : (lfo (some a) : R α) = .ok a := rfl
@[simp] theorem r_lfo0 {α : Type} : (lfo (none : Option α) : R α) = .bad := rfl
@[simp] theorem r_lft {α : Type} (r : R α) : (EM.lft r : R α) = r := rfl
@[simp] theorem r_nox {α : Type} (a : α) : (EM.nox (R.ok a) : R α) = .ok a := rfl
@[simp] theorem er_go {M : Type → Type} [EM M] {S α : Type} (s : S) (f : S → M α) (g : D → α) : Er.seq (.go s) f g = f s := rfl
@[simp] theorem er_rt {M : Type → Type} [EM M] {S α : Type} (d : D) (f : S → M α) (g : D → α) : Er.seq (.rt d) f g = pure (g d) := rfl
theorem forS_nil {S : Type} (s : S) (f : D → S → R S) : forS [] s f = .ok s := rfl
/-- a loop of which each turn is told -/
theorem forS_ok {S : Type} (g : D → S → S) (f : D → S → R S) : ∀ (ds : List D) (s : S) (P : S → Prop), P s → (∀ d s, d ∈ ds → P s → f d s = .ok (g d s) ∧ P (g d s)) → forS ds s f = .ok (ds.foldl (fun s d => g d s) s)
  | [], s, P, _, _ => rfl
  | d :: ds, s, P, h, k => by
    obtain ⟨e, p⟩ := k d s (List.mem_cons_self ..) h
    show (f d s >>= fun s' => forS ds s' f) = _
    rw [e]
    exact forS_ok g f ds _ P p fun d' s' hd => k d' s' (List.mem_cons_of_mem _ hd)
theorem mapS_ok {α : Type} (g : D → α) (f : D → R α) : ∀ (ds : List D), (∀ d ∈ ds, f d = .ok (g d)) → mapS ds f = .ok (ds.map g)
  | [], _ => rfl
  | d :: ds, k => by
    show (f d >>= fun x => mapS ds f >>= fun r => pure (x :: r)) = _
    rw [k d (List.mem_cons_self ..), mapS_ok g f ds fun d' hd => k d' (List.mem_cons_of_mem _ hd)]
    rfl
/-- by place -/
theorem mapS_at {α : Type} (f : D → R α) : ∀ (ds : List D) (rs : List α), ds.length = rs.length → (∀ (i : Nat) (d : D) (r : α), ds[i]? = some d → rs[i]? = some r → f d = .ok r) → mapS ds f = .ok rs
  | [], [], _, _ => rfl
  | d :: ds, r :: rs, hl, k => by
    show (f d >>= fun x => mapS ds f >>= fun r => pure (x :: r)) = _
    rw [k 0 d r rfl rfl, mapS_at f ds rs (by simpa using hl) fun i d' r' h1 h2 => k (i + 1) d' r' h1 h2]
    rfl
  | [], _ :: _, hl, _ => by simp at hl
  | _ :: _, [], hl, _ => by simp at hl
theorem mul_i (i j : Int) (h : i.natAbs < 2 ^ 64 ∨ j.natAbs < 2 ^ 64) : mulO (.int i) (.int j) = some (.int (i * j)) := if_pos (h.elim .inl fun k => .inr (.inl k))
theorem mul_w (i j : Int) (h : i.natAbs < 2 ^ 1000) (k : j.natAbs < 2 ^ 1000) : mulO (.int i) (.int j) = some (.int (i * j)) := if_pos (.inr (.inr ⟨h, k⟩))
theorem mod_i (i j : Int) (h : 0 < j) : modO (.int i) (.int j) = some (.int (i % j)) := if_pos h
theorem fdiv_i (i j : Int) (h : 0 < j ∧ j < 1073741824) : fdivO (.int i) (.int j) = some (.int (i / j)) := if_pos h
@[simp] theorem add_i (i j : Int) : addA (.int i) (.int j) = some (.int (i + j)) := rfl
@[simp] theorem sub_i (i j : Int) : subO (.int i) (.int j) = some (.int (i - j)) := rfl
@[simp] theorem neg_i (i : Int) : negO (.int i) = some (.int (-i)) := rfl
@[simp] theorem lt_i (i j : Int) : ltO (.int i) (.int j) = some (decide (i < j)) := rfl
@[simp] theorem le_i (i j : Int) : leO (.int i) (.int j) = some (decide (i ≤ j)) := rfl
@[simp] theorem gt_i (i j : Int) : gtO (.int i) (.int j) = some (decide (j < i)) := rfl
@[simp] theorem ge_i (i j : Int) : geO (.int i) (.int j) = some (decide (j ≤ i)) := rfl
@[simp] theorem int1_i (i : Int) : o1 int1O [.int i] = some (.int i) := rfl
@[simp] theorem len_l (ds : List D) : o1 lenO [.list ds] = some (.int ds.length) := rfl
@[simp] theorem len_t (ds : List D) : o1 lenO [.tuple ds] = some (.int ds.length) := rfl
@[simp] theorem list_l (ds : List D) : o1 listO [.list ds] = some (.list ds) := rfl
@[simp] theorem list_t (ds : List D) : o1 listO [.tuple ds] = some (.list ds) := rfl
@[simp] theorem tuple_l (ds : List D) : o1 tupleO [.list ds] = some (.tuple ds) := rfl
@[simp] theorem tuple_t (ds : List D) : o1 tupleO [.tuple ds] = some (.tuple ds) := rfl
@[simp] theorem parts_l (ds : List D) : lpartsO (.list ds) = some ds := rfl
@[simp] theorem items_l (ds : List D) : itemsO (.list ds) = some ds := rfl
@[simp] theorem items_t (ds : List D) : itemsO (.tuple ds) = some ds := rfl
@[simp] theorem int_i (i : Int) : intO (.int i) = some i := rfl
@[simp] theorem str_s (x : Str) : strO (.str x) = some x := rfl
@[simp] theorem strOf_s (x : Str) : o1 strOf [.str x] = some (.str x) := rfl
theorem strOf_i (i : Int) (h : i.natAbs.log2 < 1920) : o1 strOf [.int i] = some (.str (toString i)) := if_pos h
@[simp] theorem ix_l (ds : List D) (i : Int) : ixO (.list ds) (.int i) = atI ds i := rfl
@[simp] theorem ix_t (ds : List D) (i : Int) : ixO (.tuple ds) (.int i) = atI ds i := rfl
@[simp] theorem tup2_t (a b : D) : tup2 (.tuple [a, b]) = some (a, b) := rfl
@[simp] theorem lst2_t (a b : D) : lst2 (.list [a, b]) = some (a, b) := rfl
@[simp] theorem tru_b (b : Bool) : truO (.bool b) = some b := rfl
@[simp] theorem tru_l (ds : List D) : truO (.list ds) = some (!ds.isEmpty) := rfl
theorem atI_nat {α : Type} (xs : List α) (i : Nat) (h : i < xs.length) : atI xs (i : Int) = some xs[i] := by
  unfold atI ixN
  have h1 : (0 : Int) ≤ (i : Int) := by omega
  have h2 : (i : Int) < (xs.length : Int) := by omega
  rw [if_pos h1, if_pos h2]
  simp [h]
theorem atI_last {α : Type} (xs : List α) (h : 0 < xs.length) : atI xs (-1) = some (xs[xs.length - 1]'(by omega)) := by
  unfold atI ixN
  rw [if_neg (by omega), if_pos (by omega)]
  have e : (-1 + (xs.length : Int)).toNat = xs.length - 1 := by omega
  simp only [Option.bind_some, e]
  rw [List.getElem?_eq_getElem (by omega)]
/-! ### mirrors in S: what stands behind them -/
/-- m ends well from every state that P tells of, again in such a state -/
def Ok {α : Type} (P : List D → Prop) (m : S α) (Q : α → Prop) : Prop := ∀ s, P s → ∃ a s', m s = .ok (a, s') ∧ Q a ∧ P s'
theorem Ok.bind {α β : Type} {P : List D → Prop} {m : S α} {f : α → S β} {Q : α → Prop} {Q' : β → Prop} (h : Ok P m Q) (k : ∀ a, Q a → Ok P (f a) Q') : Ok P (m >>= f) Q' := fun s p => by
  obtain ⟨a, s1, e, q, p1⟩ := h s p
  obtain ⟨b, s2, e2, q2, p2⟩ := k a q s1 p1
  refine ⟨b, s2, ?_, q2, p2⟩
  show (m s).bind (fun p => f p.1 p.2) = _
  rw [e]
  exact e2
theorem Ok.pure {α : Type} {P : List D → Prop} {a : α} {Q : α → Prop} (q : Q a) : Ok P (pure a : S α) Q := fun s p => ⟨a, s, rfl, q, p⟩
theorem Ok.lft {α : Type} {P : List D → Prop} {r : R α} {a : α} {Q : α → Prop} (e : r = .ok a) (q : Q a) : Ok P (lft r : S α) Q := fun s p => ⟨a, s, by subst e; rfl, q, p⟩
theorem Ok.lfo {α : Type} {P : List D → Prop} {o : Option α} {a : α} {Q : α → Prop} (e : o = some a) (q : Q a) : Ok P (lfo o : S α) Q := fun s p => ⟨a, s, by subst e; rfl, q, p⟩
theorem Ok.nox {α : Type} {P : List D → Prop} {m : S α} {Q : α → Prop} (h : Ok P m Q) : Ok P (EM.nox m) Q := fun s p => by
  obtain ⟨a, s1, e, q⟩ := h s p
  refine ⟨a, s1, ?_, q⟩
  show (m s).nox = _
  rw [e]; rfl
theorem Ok.imp {α : Type} {P : List D → Prop} {m : S α} {Q Q' : α → Prop} (h : Ok P m Q) (k : ∀ a, Q a → Q' a) : Ok P m Q' := fun s p => by
  obtain ⟨a, s1, e, q, p1⟩ := h s p
  exact ⟨a, s1, e, k a q, p1⟩
theorem Ok.mapS {α : Type} {P : List D → Prop} {f : D → S α} {Q : α → Prop} : ∀ {ds : List D}, (∀ d ∈ ds, Ok P (f d) Q) → Ok P (mapS ds f) fun rs => rs.length = ds.length ∧ ∀ r ∈ rs, Q r
  | [], _ => Ok.pure ⟨rfl, by simp⟩
  | d :: ds, h => Ok.bind (h d (List.mem_cons_self ..)) fun x hx => Ok.bind (Ok.mapS fun d' hd => h d' (List.mem_cons_of_mem _ hd)) fun r hr => Ok.pure ⟨by simp [hr.1], fun y hy => by
    rcases List.mem_cons.mp hy with e | e
    · rw [e]; exact hx
    · exact hr.2 y e⟩
/-- .. by place -/
theorem Ok.mapS_at {α : Type} {P : List D → Prop} {f : D → S α} : ∀ {ds : List D} {rs : List α}, ds.length = rs.length → (∀ (i : Nat) (d : D) (r : α), ds[i]? = some d → rs[i]? = some r → Ok P (f d) (· = r)) → Ok P (DL.mapS ds f) (· = rs)
  | [], [], _, _ => Ok.pure rfl
  | d :: ds, r :: rs, hl, k => Ok.bind (k 0 d r rfl rfl) fun x hx => Ok.bind (Ok.mapS_at (ds := ds) (rs := rs) (by simpa using hl) fun i d' r' h1 h2 => k (i + 1) d' r' h1 h2) fun y hy => Ok.pure (by rw [hx, hy])
  | [], _ :: _, hl, _ => by simp at hl
  | _ :: _, [], hl, _ => by simp at hl
/-- .. each turn keeps what I tells -/
theorem Ok.forF {P : List D → Prop} {St : Type} {f : D → St → S (Fl St)} {I : St → Prop} {Q : Er St → Prop} : ∀ {ds : List D} {s0 : St}, I s0 → (∀ d ∈ ds, ∀ s, I s → Ok P (f d s) fun r => match r with | .nx s' => I s' | .ct s' => I s' | .bk s' => Q (.go s') | .rt v => Q (.rt v)) → (∀ s, I s → Q (.go s)) → Ok P (forF ds s0 f) Q
  | [], s0, h, _, z => Ok.pure (z s0 h)
  | d :: ds, s0, h, k, z => Ok.bind (k d (List.mem_cons_self ..) s0 h) fun r hr => by
    cases r with
    | nx s' => exact Ok.forF (ds := ds) hr (fun d' hd => k d' (List.mem_cons_of_mem _ hd)) z
    | ct s' => exact Ok.forF (ds := ds) hr (fun d' hd => k d' (List.mem_cons_of_mem _ hd)) z
    | bk s' => exact Ok.pure hr
    | rt v => exact Ok.pure hr
end DL
end
section
namespace Lw
open PySem PySem.Spec PyProof.Rows L2 DL
def tb_KINDS : List (Str × He.Dv) := [("supply", .str "ni"), ("move", .str "nni"), ("node", .str "ni"), ("no node", .str "n"), ("arc", .str "nnniwi"), ("no arc", .str "n"), ("bounds", .str "niw"), ("price", .str "ni"), ("ends", .str "nnn")]
def tb_WORDS : List (Str × He.Dv) := [("supply", .str "supply"), ("move", .str "move"), ("node", .str "node"), ("no node", .str "no-node"), ("arc", .str "arc"), ("no arc", .str "no-arc"), ("bounds", .str "bounds"), ("price", .str "price"), ("ends", .str "ends")]
def hit_NotPossible (y : Str) : Option Bool := if y = "EbbError" then some false else if y = "NotPossible" then some true else none
def b_text_of_bound (bound'1 : D) : R D := (((pure bound'1) >>= fun a'2 => (pure .none) >>= fun b'3 => lfo (isO a'2 b'3)) >>= fun c => if c then (pure (.str "-")) else ((pure bound'1) >>= fun a'4 => lfo (o1 strOf [a'4])))
def m_text_of_bound : List D → R D
  | [bound'1] => b_text_of_bound bound'1
  | _ => lft .bad
def b_sum_of_text (text'1 : D) : R D := ((pure (.int 1)) >>= fun found'2 => ((((pure text'1) >>= fun d'3 => lfo (itemsO d'3)) >>= fun ds'19 => forS ds'19 found'2 fun d'18 (s'4 : D) => lfo (some d'18) >>= fun sign'5 => ((((((pure (.int 31)) >>= fun a'6 => (pure s'4) >>= fun b'7 => lfo (mulO a'6 b'7)) >>= fun a'11 => ((pure (.str " abcdefghijklmnopqrstuvwxyz0123456789.-;|")) >>= fun x'8 => lfo (strO x'8) >>= fun z'9 => (pure sign'5) >>= fun y'10 => lfo (findO z'9 y'10)) >>= fun b'12 => lfo (addA a'11 b'12)) >>= fun a'13 => (pure (.int 2)) >>= fun b'14 => lfo (addA a'13 b'14)) >>= fun a'15 => (pure (.int (9973))) >>= fun b'16 => lfo (modO a'15 b'16)) >>= fun found'17 => (pure found'17))) >>= fun s'21 => (pure s'21)))
def m_sum_of_text : List D → R D
  | [text'1] => b_sum_of_text text'1
  | _ => lft .bad
def b_digest_of_text (text'1 : D) : R D := ((pure (.int 7)) >>= fun found'2 => ((((pure text'1) >>= fun d'3 => lfo (itemsO d'3)) >>= fun ds'19 => forS ds'19 found'2 fun d'18 (s'4 : D) => lfo (some d'18) >>= fun sign'5 => ((((((pure (.int (1000003))) >>= fun a'6 => (pure s'4) >>= fun b'7 => lfo (mulO a'6 b'7)) >>= fun a'11 => ((pure (.str " abcdefghijklmnopqrstuvwxyz0123456789.-;|")) >>= fun x'8 => lfo (strO x'8) >>= fun z'9 => (pure sign'5) >>= fun y'10 => lfo (findO z'9 y'10)) >>= fun b'12 => lfo (addA a'11 b'12)) >>= fun a'13 => (pure (.int 2)) >>= fun b'14 => lfo (addA a'13 b'14)) >>= fun a'15 => (pure (.int (2305843009213693951))) >>= fun b'16 => lfo (modO a'15 b'16)) >>= fun found'17 => (pure found'17))) >>= fun s'21 => (pure s'21)))
def m_digest_of_text : List D → R D
  | [text'1] => b_digest_of_text text'1
  | _ => lft .bad
def b_join_digests (one'1 : D) (other'2 : D) : R D := (((((((pure one'1) >>= fun a'3 => (pure (.int (1000003))) >>= fun b'4 => lfo (mulO a'3 b'4)) >>= fun a'5 => (pure (.int 31)) >>= fun b'6 => lfo (addA a'5 b'6)) >>= fun a'11 => (((pure one'1) >>= fun a'7 => (pure (.int (1000003))) >>= fun b'8 => lfo (mulO a'7 b'8)) >>= fun a'9 => (pure (.int 31)) >>= fun b'10 => lfo (addA a'9 b'10)) >>= fun b'12 => lfo (mulO a'11 b'12)) >>= fun a'15 => ((pure other'2) >>= fun a'13 => (pure (.int 37)) >>= fun b'14 => lfo (mulO a'13 b'14)) >>= fun b'16 => lfo (addA a'15 b'16)) >>= fun a'17 => (pure (.int 1)) >>= fun b'18 => lfo (addA a'17 b'18)) >>= fun a'19 => (pure (.int (2305843009213693951))) >>= fun b'20 => lfo (modO a'19 b'20))
def m_join_digests : List D → R D
  | [one'1, other'2] => b_join_digests one'1 other'2
  | _ => lft .bad
def b_short_digest (digest'1 : D) : R D := ((pure (.str "0123456789abcdef")) >>= fun signs'2 => ((pure (.str "")) >>= fun found'3 => ((((pure (.int 16)) >>= fun a'4 => lfo (rangeO1 [a'4])) >>= fun ds'17 => forS ds'17 (digest'1, found'3) fun d'16 (s'5 : D × D) => lfo (some d'16) >>= fun u'6 => ((((pure signs'2) >>= fun a'9 => ((pure s'5.1) >>= fun a'7 => (pure (.int 16)) >>= fun b'8 => lfo (modO a'7 b'8)) >>= fun b'10 => lfo (ixO a'9 b'10)) >>= fun a'11 => (pure s'5.2) >>= fun b'12 => lfo (addA a'11 b'12)) >>= fun found'13 => (((pure (.int 16)) >>= fun y'15 => lfo (fdivO s'5.1 y'15)) >>= fun digest'14 => (pure (digest'14, found'13))))) >>= fun s'19 => (pure s'19.2))))
def m_short_digest : List D → R D
  | [digest'1] => b_short_digest digest'1
  | _ => lft .bad
def b__law_state (script'1 : D) : R D := (((pure script'1) >>= fun a'7 => lfo (o1 listO [a'7])) >>= fun a'8 => (pure (.int 0)) >>= fun a'6 => (pure (.int 0)) >>= fun a'5 => (pure (.int 0)) >>= fun a'4 => (pure (.bool false)) >>= fun a'3 => (pure (.int 500)) >>= fun a'2 => pure (.list [a'8, a'6, a'5, a'4, a'3, a'2]))
def m__law_state : List D → R D
  | [script'1] => b__law_state script'1
  | _ => lft .bad
def b__law_draw (limit'2 : D) : S D := (((((pure (.int 3)) >>= fun y'3 => getS >>= fun s'4 => lfo (ixO (.list s'4) y'3)) >>= fun a'5 => (pure (.int 0)) >>= fun b'6 => lfo (eqO a'5 b'6)) >>= fun c => if c then ((((pure (.int 1)) >>= fun y'7 => getS >>= fun s'8 => lfo (ixO (.list s'8) y'7)) >>= fun a'12 => (((pure (.int 0)) >>= fun y'9 => getS >>= fun s'10 => lfo (ixO (.list s'10) y'9)) >>= fun a'11 => lfo (o1 lenO [a'11])) >>= fun b'13 => lfo (geO a'12 b'13)) >>= fun c => if c then (pure (.int 0)) >>= fun b'59 => pure (.rt b'59 : Er (Unit)) else ((((pure (.int 0)) >>= fun y'16 => getS >>= fun s'17 => lfo (ixO (.list s'17) y'16)) >>= fun a'18 => ((pure (.int 1)) >>= fun y'14 => getS >>= fun s'15 => lfo (ixO (.list s'15) y'14)) >>= fun b'19 => lfo (ixO a'18 b'19)) >>= fun cell'20 => ((((pure cell'20) >>= fun a'21 => (pure (.int 0)) >>= fun b'22 => lfo (ltO a'21 b'22)) >>= fun c => if c then ((((pure (.int 1)) >>= fun a'23 => lfo (negO a'23)) >>= fun a'24 => (pure cell'20) >>= fun b'25 => lfo (subO a'24 b'25)) >>= fun cell'26 => (pure cell'26)) else (pure cell'20)) >>= fun j'27 => (((((pure (.int 1)) >>= fun y'28 => getS >>= fun s'29 => lfo (ixO (.list s'29) y'28)) >>= fun a'30 => (pure (.int 1)) >>= fun b'31 => lfo (addA a'30 b'31)) >>= fun d'55 => (pure (.int 1)) >>= fun k'56 => getS >>= fun s'57 => lfo (setO s'57 d'55 k'56) >>= fun s'58 => putS s'58) >>= fun _ => (((pure j'27) >>= fun d'51 => (pure (.int 2)) >>= fun k'52 => getS >>= fun s'53 => lfo (setO s'53 d'51 k'52) >>= fun s'54 => putS s'54) >>= fun _ => ((((pure j'27) >>= fun a'34 => ((pure (.int 10)) >>= fun a'32 => (pure (.int 18)) >>= fun b'33 => lfo (powO a'32 b'33)) >>= fun b'35 => lfo ((geO a'34 b'35).map .bool)) >>= fun d'47 => (pure (.int 4)) >>= fun k'48 => getS >>= fun s'49 => lfo (setO s'49 d'47 k'48) >>= fun s'50 => putS s'50) >>= fun _ => (((pure (.int 6)) >>= fun d'43 => (pure (.int 3)) >>= fun k'44 => getS >>= fun s'45 => lfo (setO s'45 d'43 k'44) >>= fun s'46 => putS s'46) >>= fun _ => ((((pure (.int 4)) >>= fun y'36 => getS >>= fun s'37 => lfo (ixO (.list s'37) y'36)) >>= fun a'38 => lfo (truO a'38)) >>= fun c => if c then (((pure (.int 60)) >>= fun d'39 => (pure (.int 3)) >>= fun k'40 => getS >>= fun s'41 => lfo (setO s'41 d'39 k'40) >>= fun s'42 => putS s'42) >>= fun _ => (pure ((.go ()) : Er (Unit)))) else (pure ((.go ()) : Er (Unit))))))))))) else (pure ((.go ()) : Er (Unit)))) >>= fun r'130 => Er.seq r'130 (fun j'60 => (((((pure (.int 3)) >>= fun y'61 => getS >>= fun s'62 => lfo (ixO (.list s'62) y'61)) >>= fun a'63 => (pure (.int 1)) >>= fun b'64 => lfo (subO a'63 b'64)) >>= fun d'126 => (pure (.int 3)) >>= fun k'127 => getS >>= fun s'128 => lfo (setO s'128 d'126 k'127) >>= fun s'129 => putS s'129) >>= fun _ => ((((pure (.int 4)) >>= fun y'65 => getS >>= fun s'66 => lfo (ixO (.list s'66) y'65)) >>= fun a'67 => lfo (truO a'67)) >>= fun c => if c then (((((pure (.int 2)) >>= fun y'68 => getS >>= fun s'69 => lfo (ixO (.list s'69) y'68)) >>= fun a'70 => lfo (o1 int1O [a'70])) >>= fun a'71 => (pure limit'2) >>= fun b'72 => lfo (modO a'71 b'72)) >>= fun digit'73 => (((((pure (.int 2)) >>= fun y'74 => getS >>= fun s'75 => lfo (ixO (.list s'75) y'74)) >>= fun a'76 => (pure limit'2) >>= fun b'77 => lfo (fdivO a'76 b'77)) >>= fun d'87 => (pure (.int 2)) >>= fun k'88 => getS >>= fun s'89 => lfo (setO s'89 d'87 k'88) >>= fun s'90 => putS s'90) >>= fun _ => (((((pure (.int 2)) >>= fun y'78 => getS >>= fun s'79 => lfo (ixO (.list s'79) y'78)) >>= fun a'80 => (pure (.int 0)) >>= fun b'81 => lfo (eqO a'80 b'81)) >>= fun c => if c then (((pure (.int 0)) >>= fun d'82 => (pure (.int 3)) >>= fun k'83 => getS >>= fun s'84 => lfo (setO s'84 d'82 k'83) >>= fun s'85 => putS s'85) >>= fun _ => (pure ())) else (pure ())) >>= fun j'86 => (pure digit'73)))) else ((((((((pure (.int 2)) >>= fun y'91 => getS >>= fun s'92 => lfo (ixO (.list s'92) y'91)) >>= fun a'93 => (pure (.int 48271)) >>= fun b'94 => lfo (mulO a'93 b'94)) >>= fun a'99 => (((pure (.int 3)) >>= fun y'95 => getS >>= fun s'96 => lfo (ixO (.list s'96) y'95)) >>= fun a'97 => (pure (.int 69621)) >>= fun b'98 => lfo (mulO a'97 b'98)) >>= fun b'100 => lfo (addA a'99 b'100)) >>= fun a'101 => (pure (.int 7)) >>= fun b'102 => lfo (addA a'101 b'102)) >>= fun a'103 => lfo (o1 int1O [a'103])) >>= fun a'104 => (pure (.int 2147483647)) >>= fun b'105 => lfo (modO a'104 b'105)) >>= fun mixed'106 => (((((((pure mixed'106) >>= fun a'107 => (pure mixed'106) >>= fun b'108 => lfo (mulO a'107 b'108)) >>= fun a'113 => (((pure (.int 2)) >>= fun y'109 => getS >>= fun s'110 => lfo (ixO (.list s'110) y'109)) >>= fun a'111 => (pure (.int 31)) >>= fun b'112 => lfo (mulO a'111 b'112)) >>= fun b'114 => lfo (addA a'113 b'114)) >>= fun a'117 => ((pure (.int 3)) >>= fun y'115 => getS >>= fun s'116 => lfo (ixO (.list s'116) y'115)) >>= fun b'118 => lfo (addA a'117 b'118)) >>= fun a'119 => lfo (o1 int1O [a'119])) >>= fun a'120 => (pure (.int 1000003)) >>= fun b'121 => lfo (modO a'120 b'121)) >>= fun mixed'122 => (((pure mixed'122) >>= fun a'123 => lfo (o1 int1O [a'123])) >>= fun a'124 => (pure limit'2) >>= fun b'125 => lfo (modO a'124 b'125))))))) (fun d => d))
def m__law_draw : List D → S D
  | [_, limit'2] => b__law_draw limit'2
  | _ => lft .bad
def b__law_truth (told'1 : D) (due'2 : D) : R D := (((pure due'2) >>= fun a'3 => lfo (truO a'3)) >>= fun c => if c then ((pure told'1) >>= fun a'4 => (pure (.bool true)) >>= fun b'5 => lfo ((isO a'4 b'5).map .bool)) else ((pure told'1) >>= fun a'6 => (pure (.bool false)) >>= fun b'7 => lfo ((isO a'6 b'7).map .bool)))
def m__law_truth : List D → R D
  | [told'1, due'2] => b__law_truth told'1 due'2
  | _ => lft .bad
def b__law_sum (text'1 : D) (first'2 : D) (factor'3 : D) (modulus'4 : D) : R D := ((pure (.str " abcdefghijklmnopqrstuvwxyz0123456789.-;|")) >>= fun signs'5 => ((pure first'2) >>= fun found'6 => ((((pure text'1) >>= fun d'7 => lfo (itemsO d'7)) >>= fun ds'24 => forS ds'24 found'6 fun d'23 (s'8 : D) => lfo (some d'23) >>= fun sign'9 => (((((((pure s'8) >>= fun a'10 => (pure factor'3) >>= fun b'11 => lfo (mulO a'10 b'11)) >>= fun a'15 => ((pure signs'5) >>= fun x'12 => lfo (strO x'12) >>= fun z'13 => (pure sign'9) >>= fun y'14 => lfo (sindexO z'13 y'14)) >>= fun b'16 => lfo (addA a'15 b'16)) >>= fun a'17 => (pure (.int 2)) >>= fun b'18 => lfo (addA a'17 b'18)) >>= fun a'19 => lfo (o1 int1O [a'19])) >>= fun a'20 => (pure modulus'4) >>= fun b'21 => lfo (modO a'20 b'21)) >>= fun found'22 => (pure found'22))) >>= fun s'26 => (pure s'26))))
def m__law_sum : List D → R D
  | [text'1, first'2, factor'3, modulus'4] => b__law_sum text'1 first'2 factor'3 modulus'4
  | _ => lft .bad
def b__law_join (one'1 : D) (other'2 : D) : R D := ((((pure one'1) >>= fun a'3 => (pure (.int 1000003)) >>= fun b'4 => lfo (mulO a'3 b'4)) >>= fun a'5 => (pure (.int 31)) >>= fun b'6 => lfo (addA a'5 b'6)) >>= fun part'7 => ((((((pure part'7) >>= fun a'8 => (pure part'7) >>= fun b'9 => lfo (mulO a'8 b'9)) >>= fun a'12 => ((pure other'2) >>= fun a'10 => (pure (.int 37)) >>= fun b'11 => lfo (mulO a'10 b'11)) >>= fun b'13 => lfo (addA a'12 b'13)) >>= fun a'14 => (pure (.int 1)) >>= fun b'15 => lfo (addA a'14 b'15)) >>= fun a'16 => lfo (o1 int1O [a'16])) >>= fun a'17 => (pure (.int 2305843009213693951)) >>= fun b'18 => lfo (modO a'17 b'18)))
def m__law_join : List D → R D
  | [one'1, other'2] => b__law_join one'1 other'2
  | _ => lft .bad
def b__law_paper (rows'1 : D) (place'2 : D) : R D := ((pure (.list [])) >>= fun d'3 => lfo (lpartsO d'3) >>= fun found'4 => ((pure place'2) >>= fun at'5 => (((((pure rows'1) >>= fun a'8 => (pure none) >>= fun l'9 => (((pure (.int 1)) >>= fun a'6 => lfo (negO a'6)) >>= fun d'7 => lfo ((intO d'7).map some)) >>= fun h'10 => lfo (sliceO a'8 l'9 h'10)) >>= fun d'11 => lfo (itemsO d'11)) >>= fun ds'45 => forS ds'45 (found'4, at'5) fun d'44 (s'12 : List D × D) => lfo (some d'44) >>= fun row'13 => ((((((pure s'12.2) >>= fun a'14 => lfo (o1 int1O [a'14])) >>= fun a'15 => (pure (.int 2)) >>= fun b'16 => lfo (modO a'15 b'16)) >>= fun a'17 => (pure (.int 1)) >>= fun b'18 => lfo (eqO a'17 b'18)) >>= fun c => if c then ((((pure (.str "left")) >>= fun a'24 => ((pure row'13) >>= fun a'21 => ((pure s'12.2) >>= fun a'19 => (pure (.int 1)) >>= fun b'20 => lfo (subO a'19 b'20)) >>= fun b'22 => lfo (ixO a'21 b'22)) >>= fun a'23 => pure (.tuple [a'24, a'23])) >>= fun d'26 => lfo (if s'12.1.length < sizeLine then some (s'12.1 ++ [d'26]) else none)) >>= fun found'25 => (pure found'25)) else ((((pure s'12.2) >>= fun a'27 => (pure (.int 1)) >>= fun b'28 => lfo (addA a'27 b'28)) >>= fun a'30 => ((pure row'13) >>= fun a'29 => lfo (o1 lenO [a'29])) >>= fun b'31 => lfo (ltO a'30 b'31)) >>= fun c => if c then ((((pure (.str "right")) >>= fun a'37 => ((pure row'13) >>= fun a'34 => ((pure s'12.2) >>= fun a'32 => (pure (.int 1)) >>= fun b'33 => lfo (addA a'32 b'33)) >>= fun b'35 => lfo (ixO a'34 b'35)) >>= fun a'36 => pure (.tuple [a'37, a'36])) >>= fun d'39 => lfo (if s'12.1.length < sizeLine then some (s'12.1 ++ [d'39]) else none)) >>= fun found'38 => (pure found'38)) else (pure s'12.1))) >>= fun j'40 => (((pure s'12.2) >>= fun a'41 => (pure (.int 2)) >>= fun b'42 => lfo (fdivO a'41 b'42)) >>= fun at'43 => (pure (j'40, at'43))))) >>= fun s'47 => ((pure (.list s'47.1)) >>= fun a'48 => lfo (o1 tupleO [a'48])))))
def m__law_paper : List D → R D
  | [rows'1, place'2] => b__law_paper rows'1 place'2
  | _ => lft .bad
def b_format_net (net' : D) : R D := (lft .bad)
def m_format_net : List D → R D
  | [net'] => b_format_net net'
  | _ => lft .bad
def b_format_change (change'1 : D) : R D := (((((pure change'1) >>= fun a'2 => (pure (.int 0)) >>= fun b'3 => lfo (ixO a'2 b'3)) >>= fun y'4 => lfo (dgetO tb_WORDS y'4)) >>= fun a'5 => pure (.list [a'5])) >>= fun d'6 => lfo (lpartsO d'6) >>= fun words'7 => ((((((pure change'1) >>= fun a'13 => (pure (.int 0)) >>= fun b'14 => lfo (ixO a'13 b'14)) >>= fun y'15 => lfo (dgetO tb_KINDS y'15)) >>= fun a'16 => ((pure change'1) >>= fun a'9 => ((pure (.int 1)) >>= fun d'8 => lfo ((intO d'8).map some)) >>= fun l'10 => (pure none) >>= fun h'11 => lfo (sliceO a'9 l'10 h'11)) >>= fun a'12 => lfo (zipO2 [a'16, a'12])) >>= fun ds'25 => forS ds'25 words'7 fun d'24 (s'17 : List D) => lfo (tup2 d'24) >>= fun t'18 => (((((pure t'18.1) >>= fun a'19 => (pure (.str "n")) >>= fun b'20 => lfo (eqO a'19 b'20)) >>= fun c => if c then (pure t'18.2) else ((pure t'18.2) >>= fun a'21 => m_text_of_bound [a'21])) >>= fun d'23 => lfo (if s'17.length < sizeLine then some (s'17 ++ [d'23]) else none)) >>= fun words'22 => (pure words'22))) >>= fun s'27 => ((pure (.str " ")) >>= fun x'28 => lfo (strO x'28) >>= fun z'29 => (pure (.list s'27)) >>= fun y'30 => lfo (joinO z'29 y'30))))
def m_format_change : List D → R D
  | [change'1] => b_format_change change'1
  | _ => lft .bad
def b__law_event  : S D := (((pure (.int 6)) >>= fun a'2 => m__law_draw [.none, a'2]) >>= fun kind'3 => (((pure kind'3) >>= fun a'4 => (pure (.int 0)) >>= fun b'5 => lfo (eqO a'4 b'5)) >>= fun c => if c then (((pure (.str "back")) >>= fun a'7 => pure (.tuple [a'7])) >>= fun a'8 => (pure (.str "back")) >>= fun a'6 => pure (.list [a'8, a'6])) else (((pure kind'3) >>= fun a'9 => (pure (.int 1)) >>= fun b'10 => lfo (eqO a'9 b'10)) >>= fun c => if c then (((pure (.str "again")) >>= fun a'12 => pure (.tuple [a'12])) >>= fun a'13 => (pure (.str "again")) >>= fun a'11 => pure (.list [a'13, a'11])) else (((pure kind'3) >>= fun a'14 => (pure (.int 2)) >>= fun b'15 => lfo (eqO a'14 b'15)) >>= fun c => if c then ((((pure (.str "abc")) >>= fun a'17 => ((pure (.int 3)) >>= fun a'16 => m__law_draw [.none, a'16]) >>= fun b'18 => lfo (ixO a'17 b'18)) >>= fun a'21 => (((pure (.int 100)) >>= fun a'19 => m__law_draw [.none, a'19]) >>= fun a'20 => lfo (o1 strOf [a'20])) >>= fun b'22 => lfo (addA a'21 b'22)) >>= fun word'23 => (((pure (.str "mark")) >>= fun a'28 => (pure word'23) >>= fun a'27 => pure (.tuple [a'28, a'27])) >>= fun a'29 => ((pure (.str "mark ")) >>= fun a'24 => (pure word'23) >>= fun b'25 => lfo (addA a'24 b'25)) >>= fun a'26 => pure (.list [a'29, a'26]))) else (((pure kind'3) >>= fun a'30 => (pure (.int 3)) >>= fun b'31 => lfo (eqO a'30 b'31)) >>= fun c => if c then ((((pure (.int 2000)) >>= fun a'32 => m__law_draw [.none, a'32]) >>= fun a'33 => (pure (.int 1000)) >>= fun b'34 => lfo (subO a'33 b'34)) >>= fun number'35 => (((((pure (.str "price")) >>= fun a'47 => (pure number'35) >>= fun a'46 => pure (.tuple [a'47, a'46])) >>= fun a'48 => ((pure (.str "price ")) >>= fun a'43 => ((pure number'35) >>= fun a'42 => lfo (o1 strOf [a'42])) >>= fun b'44 => lfo (addA a'43 b'44)) >>= fun a'45 => pure (.list [a'48, a'45])) >>= fun a'49 => (((pure (.str "price")) >>= fun a'39 => (pure .none) >>= fun a'38 => pure (.tuple [a'39, a'38])) >>= fun a'40 => (pure (.str "price -")) >>= fun a'37 => pure (.list [a'40, a'37])) >>= fun a'41 => pure (.list [a'49, a'41])) >>= fun a'50 => ((pure (.int 2)) >>= fun a'36 => m__law_draw [.none, a'36]) >>= fun b'51 => lfo (ixO a'50 b'51))) else (((pure kind'3) >>= fun a'52 => (pure (.int 4)) >>= fun b'53 => lfo (eqO a'52 b'53)) >>= fun c => if c then ((((pure (.int 2000)) >>= fun a'54 => m__law_draw [.none, a'54]) >>= fun a'55 => (pure (.int 1000)) >>= fun b'56 => lfo (subO a'55 b'56)) >>= fun number'57 => (((pure (.str "tell")) >>= fun a'66 => ((pure (.str "supply")) >>= fun a'64 => (pure (.str "a.b")) >>= fun a'63 => (pure number'57) >>= fun a'62 => pure (.tuple [a'64, a'63, a'62])) >>= fun a'65 => pure (.tuple [a'66, a'65])) >>= fun a'67 => ((pure (.str "tell supply a.b ")) >>= fun a'59 => ((pure number'57) >>= fun a'58 => lfo (o1 strOf [a'58])) >>= fun b'60 => lfo (addA a'59 b'60)) >>= fun a'61 => pure (.list [a'67, a'61]))) else (((pure (.str "tell")) >>= fun a'74 => ((pure (.str "bounds")) >>= fun a'72 => (pure (.str "e1")) >>= fun a'71 => (pure (.int 3)) >>= fun a'70 => (pure .none) >>= fun a'69 => pure (.tuple [a'72, a'71, a'70, a'69])) >>= fun a'73 => pure (.tuple [a'74, a'73])) >>= fun a'75 => (pure (.str "tell bounds e1 3 -")) >>= fun a'68 => pure (.list [a'75, a'68]))))))))
def m__law_event : List D → S D
  | [_] => b__law_event 
  | _ => lft .bad
def b__law_line (number'1 : D) (text'2 : D) : R D := (((((pure number'1) >>= fun a'3 => lfo (o1 strOf [a'3])) >>= fun a'4 => (pure (.str " ")) >>= fun b'5 => lfo (addA a'4 b'5)) >>= fun a'6 => (pure text'2) >>= fun b'7 => lfo (addA a'6 b'7)) >>= fun whole'8 => ((((((pure number'1) >>= fun a'9 => lfo (o1 strOf [a'9])) >>= fun a'10 => (pure (.str " ")) >>= fun b'11 => lfo (addA a'10 b'11)) >>= fun a'17 => (((pure whole'8) >>= fun a'15 => (pure (.int 1)) >>= fun a'14 => (pure (.int 31)) >>= fun a'13 => (pure (.int 9973)) >>= fun a'12 => m__law_sum [a'15, a'14, a'13, a'12]) >>= fun a'16 => lfo (o1 strOf [a'16])) >>= fun b'18 => lfo (addA a'17 b'18)) >>= fun a'19 => (pure (.str " ")) >>= fun b'20 => lfo (addA a'19 b'20)) >>= fun a'21 => (pure text'2) >>= fun b'22 => lfo (addA a'21 b'22)))
def m__law_line : List D → R D
  | [number'1, text'2] => b__law_line number'1 text'2
  | _ => lft .bad
def b__law_digest (text'1 : D) : R D := ((pure text'1) >>= fun a'5 => (pure (.int 7)) >>= fun a'4 => (pure (.int 1000003)) >>= fun a'3 => (pure (.int 2305843009213693951)) >>= fun a'2 => m__law_sum [a'5, a'4, a'3, a'2])
def m__law_digest : List D → R D
  | [text'1] => b__law_digest text'1
  | _ => lft .bad
def b_one_line_net (net' : D) : R D := (lft .bad)
def m_one_line_net : List D → R D
  | [net'] => b_one_line_net net'
  | _ => lft .bad
def b__law_rows (texts'1 : D) : R D := ((((((pure texts'1) >>= fun a'2 => lfo (o1 lenO [a'2])) >>= fun a'3 => lfo (rangeO1 [a'3])) >>= fun ds'11 => (mapS ds'11 fun d'10 => EM.nox (lfo (some d'10) >>= fun k'4 => (((pure k'4) >>= fun a'8 => ((pure texts'1) >>= fun a'5 => (pure k'4) >>= fun b'6 => lfo (ixO a'5 b'6)) >>= fun a'7 => m__law_line [a'8, a'7]) >>= fun a'9 => m__law_digest [a'9]))) >>= fun r'12 => pure (.list r'12)) >>= fun a'13 => pure (.list [a'13])) >>= fun d'14 => lfo (lpartsO d'14) >>= fun rows'15 => ((((pure (.int 10)) >>= fun a'16 => lfo (rangeO1 [a'16])) >>= fun ds'70 => forF ds'70 rows'15 fun d'69 (s'17 : List D) => lfo (some d'69) >>= fun turn'18 => (((pure (.list s'17)) >>= fun a'22 => (((pure (.list s'17)) >>= fun a'19 => lfo (o1 lenO [a'19])) >>= fun a'20 => (pure (.int 1)) >>= fun b'21 => lfo (subO a'20 b'21)) >>= fun b'23 => lfo (ixO a'22 b'23)) >>= fun last'24 => ((((pure last'24) >>= fun a'25 => lfo (o1 lenO [a'25])) >>= fun a'26 => (pure (.int 2)) >>= fun b'27 => lfo (ltO a'26 b'27)) >>= fun c => if c then (pure s'17) >>= fun b'68 => pure (.bk b'68 : Fl (List D)) else ((((((pure last'24) >>= fun a'28 => lfo (o1 lenO [a'28])) >>= fun a'29 => (pure (.int 2)) >>= fun b'30 => lfo (fdivO a'29 b'30)) >>= fun a'31 => lfo (rangeO1 [a'31])) >>= fun ds'46 => (mapS ds'46 fun d'45 => EM.nox (lfo (some d'45) >>= fun k'32 => (((pure last'24) >>= fun a'42 => ((pure (.int 2)) >>= fun a'40 => (pure k'32) >>= fun b'41 => lfo (mulO a'40 b'41)) >>= fun b'43 => lfo (ixO a'42 b'43)) >>= fun a'44 => ((pure last'24) >>= fun a'37 => (((pure (.int 2)) >>= fun a'33 => (pure k'32) >>= fun b'34 => lfo (mulO a'33 b'34)) >>= fun a'35 => (pure (.int 1)) >>= fun b'36 => lfo (addA a'35 b'36)) >>= fun b'38 => lfo (ixO a'37 b'38)) >>= fun a'39 => m__law_join [a'44, a'39]))) >>= fun r'47 => pure (.list r'47)) >>= fun made'48 => (((((((pure last'24) >>= fun a'49 => lfo (o1 lenO [a'49])) >>= fun a'50 => lfo (o1 int1O [a'50])) >>= fun a'51 => (pure (.int 2)) >>= fun b'52 => lfo (modO a'51 b'52)) >>= fun a'53 => (pure (.int 1)) >>= fun b'54 => lfo (eqO a'53 b'54)) >>= fun c => if c then (((pure made'48) >>= fun a'61 => (((pure last'24) >>= fun a'58 => (((pure last'24) >>= fun a'55 => lfo (o1 lenO [a'55])) >>= fun a'56 => (pure (.int 1)) >>= fun b'57 => lfo (subO a'56 b'57)) >>= fun b'59 => lfo (ixO a'58 b'59)) >>= fun a'60 => pure (.list [a'60])) >>= fun b'62 => lfo (addA a'61 b'62)) >>= fun made'63 => (pure made'63)) else (pure made'48)) >>= fun j'64 => (((pure j'64) >>= fun d'66 => lfo (if s'17.length < sizeLine then some (s'17 ++ [d'66]) else none)) >>= fun rows'65 => (pure ((.nx rows'65) : Fl (List D))))))))) >>= fun r'71 => Er.seq r'71 (fun s'72 => (pure (.list s'72))) (fun d => d)))
def m__law_rows : List D → R D
  | [texts'1] => b__law_rows texts'1
  | _ => lft .bad
def b__law_leads (digest'1 : D) (place'2 : D) (text'3 : D) (paper'4 : D) : R D := ((((pure place'2) >>= fun a'6 => (pure text'3) >>= fun a'5 => m__law_line [a'6, a'5]) >>= fun a'7 => m__law_digest [a'7]) >>= fun found'8 => ((((pure paper'4) >>= fun d'9 => lfo (itemsO d'9)) >>= fun ds'21 => forS ds'21 found'8 fun d'20 (s'10 : D) => lfo (tup2 d'20) >>= fun t'11 => (((pure t'11.1) >>= fun a'12 => (pure (.str "left")) >>= fun b'13 => lfo (eqO a'12 b'13)) >>= fun c => if c then (((pure t'11.2) >>= fun a'15 => (pure s'10) >>= fun a'14 => m__law_join [a'15, a'14]) >>= fun found'16 => (pure found'16)) else (((pure s'10) >>= fun a'18 => (pure t'11.2) >>= fun a'17 => m__law_join [a'18, a'17]) >>= fun found'19 => (pure found'19)))) >>= fun s'23 => ((pure s'23) >>= fun a'24 => (pure digest'1) >>= fun b'25 => lfo ((eqO a'24 b'25).map .bool))))
def m__law_leads : List D → R D
  | [digest'1, place'2, text'3, paper'4] => b__law_leads digest'1 place'2 text'3 paper'4
  | _ => lft .bad
def b__law_chain (texts'1 : D) : R D := (((pure (.int 0)) >>= fun a'2 => pure (.list [a'2])) >>= fun d'3 => lfo (lpartsO d'3) >>= fun found'4 => (((((pure texts'1) >>= fun a'5 => lfo (o1 lenO [a'5])) >>= fun a'6 => lfo (rangeO1 [a'6])) >>= fun ds'21 => forS ds'21 found'4 fun d'20 (s'7 : List D) => lfo (some d'20) >>= fun k'8 => (((((pure (.list s'7)) >>= fun a'15 => (pure k'8) >>= fun b'16 => lfo (ixO a'15 b'16)) >>= fun a'17 => (((pure k'8) >>= fun a'12 => ((pure texts'1) >>= fun a'9 => (pure k'8) >>= fun b'10 => lfo (ixO a'9 b'10)) >>= fun a'11 => m__law_line [a'12, a'11]) >>= fun a'13 => m__law_digest [a'13]) >>= fun a'14 => m__law_join [a'17, a'14]) >>= fun d'19 => lfo (if s'7.length < sizeLine then some (s'7 ++ [d'19]) else none)) >>= fun found'18 => (pure found'18))) >>= fun s'23 => (pure (.list s'23))))
def m__law_chain : List D → R D
  | [texts'1] => b__law_chain texts'1
  | _ => lft .bad
def b_event_text (event'1 : D) : R D := ((((pure event'1) >>= fun a'2 => (pure (.int 0)) >>= fun b'3 => lfo (ixO a'2 b'3)) >>= fun a'4 => (pure (.str "start")) >>= fun b'5 => lfo (eqO a'4 b'5)) >>= fun c => if c then ((pure (.str "start ")) >>= fun a'9 => (((pure event'1) >>= fun a'6 => (pure (.int 1)) >>= fun b'7 => lfo (ixO a'6 b'7)) >>= fun a'8 => m_one_line_net [a'8]) >>= fun b'10 => lfo (addA a'9 b'10)) else ((((pure event'1) >>= fun a'11 => (pure (.int 0)) >>= fun b'12 => lfo (ixO a'11 b'12)) >>= fun a'13 => (pure (.str "tell")) >>= fun b'14 => lfo (eqO a'13 b'14)) >>= fun c => if c then ((pure (.str "tell ")) >>= fun a'18 => (((pure event'1) >>= fun a'15 => (pure (.int 1)) >>= fun b'16 => lfo (ixO a'15 b'16)) >>= fun a'17 => m_format_change [a'17]) >>= fun b'19 => lfo (addA a'18 b'19)) else ((((pure event'1) >>= fun a'20 => (pure (.int 0)) >>= fun b'21 => lfo (ixO a'20 b'21)) >>= fun a'22 => (pure (.str "mark")) >>= fun b'23 => lfo (eqO a'22 b'23)) >>= fun c => if c then ((pure (.str "mark ")) >>= fun a'26 => ((pure event'1) >>= fun a'24 => (pure (.int 1)) >>= fun b'25 => lfo (ixO a'24 b'25)) >>= fun b'27 => lfo (addA a'26 b'27)) else ((((pure event'1) >>= fun a'28 => (pure (.int 0)) >>= fun b'29 => lfo (ixO a'28 b'29)) >>= fun a'30 => (pure (.str "price")) >>= fun b'31 => lfo (eqO a'30 b'31)) >>= fun c => if c then ((pure (.str "price ")) >>= fun a'39 => ((((pure event'1) >>= fun a'32 => (pure (.int 1)) >>= fun b'33 => lfo (ixO a'32 b'33)) >>= fun a'34 => (pure .none) >>= fun b'35 => lfo (isO a'34 b'35)) >>= fun c => if c then (pure (.str "-")) else (((pure event'1) >>= fun a'36 => (pure (.int 1)) >>= fun b'37 => lfo (ixO a'36 b'37)) >>= fun a'38 => lfo (o1 strOf [a'38]))) >>= fun b'40 => lfo (addA a'39 b'40)) else ((pure event'1) >>= fun a'41 => (pure (.int 0)) >>= fun b'42 => lfo (ixO a'41 b'42))))))
def m_event_text : List D → R D
  | [event'1] => b_event_text event'1
  | _ => lft .bad
def b__law_apart (one'1 : D) (other'2 : D) : R D := (((pure one'1) >>= fun a'3 => m__law_chain [a'3]) >>= fun first'4 => (((pure other'2) >>= fun a'5 => m__law_chain [a'5]) >>= fun second'6 => ((pure (.int 0)) >>= fun low'7 => ((((pure one'1) >>= fun a'10 => lfo (o1 lenO [a'10])) >>= fun a'11 => ((pure other'2) >>= fun a'8 => lfo (o1 lenO [a'8])) >>= fun a'9 => lfo (o2 min2O [a'11, a'9])) >>= fun high'12 => ((((pure first'4) >>= fun a'13 => (pure high'12) >>= fun b'14 => lfo (ixO a'13 b'14)) >>= fun a'17 => ((pure second'6) >>= fun a'15 => (pure high'12) >>= fun b'16 => lfo (ixO a'15 b'16)) >>= fun b'18 => lfo (eqO a'17 b'18)) >>= fun c => if c then (((pure high'12) >>= fun a'25 => (pure .none) >>= fun a'24 => pure (.list [a'25, a'24])) >>= fun a'26 => ((((pure one'1) >>= fun a'19 => lfo (o1 lenO [a'19])) >>= fun a'21 => ((pure other'2) >>= fun a'20 => lfo (o1 lenO [a'20])) >>= fun b'22 => lfo ((eqO a'21 b'22).map .bool)) >>= fun a'23 => lfo (o1 int1O [a'23])) >>= fun b'27 => lfo (ixO a'26 b'27)) else ((((pure (.int 10)) >>= fun a'28 => lfo (rangeO1 [a'28])) >>= fun ds'53 => forS ds'53 (low'7, high'12) fun d'52 (s'29 : D × D) => lfo (some d'52) >>= fun turn'30 => (((pure s'29.1) >>= fun a'31 => (pure s'29.2) >>= fun b'32 => lfo (ltO a'31 b'32)) >>= fun c => if c then ((((pure s'29.1) >>= fun a'33 => (pure s'29.2) >>= fun b'34 => lfo (addA a'33 b'34)) >>= fun a'35 => (pure (.int 2)) >>= fun b'36 => lfo (fdivO a'35 b'36)) >>= fun middle'37 => ((((pure first'4) >>= fun a'40 => ((pure middle'37) >>= fun a'38 => (pure (.int 1)) >>= fun b'39 => lfo (addA a'38 b'39)) >>= fun b'41 => lfo (ixO a'40 b'41)) >>= fun a'46 => ((pure second'6) >>= fun a'44 => ((pure middle'37) >>= fun a'42 => (pure (.int 1)) >>= fun b'43 => lfo (addA a'42 b'43)) >>= fun b'45 => lfo (ixO a'44 b'45)) >>= fun b'47 => lfo (eqO a'46 b'47)) >>= fun c => if c then (((pure middle'37) >>= fun a'48 => (pure (.int 1)) >>= fun b'49 => lfo (addA a'48 b'49)) >>= fun low'50 => (pure (low'50, s'29.2))) else ((pure middle'37) >>= fun high'51 => (pure (s'29.1, high'51))))) else (pure (s'29.1, s'29.2)))) >>= fun s'55 => (pure s'55.1)))))))
def m__law_apart : List D → R D
  | [one'1, other'2] => b__law_apart one'1 other'2
  | _ => lft .bad
def b_journal_line (number'1 : D) (event'2 : D) : R D := (((pure event'2) >>= fun a'3 => m_event_text [a'3]) >>= fun text'4 => ((((((pure number'1) >>= fun a'5 => lfo (o1 strOf [a'5])) >>= fun a'6 => (pure (.str " ")) >>= fun b'7 => lfo (addA a'6 b'7)) >>= fun a'15 => ((((((pure number'1) >>= fun a'8 => lfo (o1 strOf [a'8])) >>= fun a'9 => (pure (.str " ")) >>= fun b'10 => lfo (addA a'9 b'10)) >>= fun a'11 => (pure text'4) >>= fun b'12 => lfo (addA a'11 b'12)) >>= fun a'13 => m_sum_of_text [a'13]) >>= fun a'14 => lfo (o1 strOf [a'14])) >>= fun b'16 => lfo (addA a'15 b'16)) >>= fun a'17 => (pure (.str " ")) >>= fun b'18 => lfo (addA a'17 b'18)) >>= fun a'19 => (pure text'4) >>= fun b'20 => lfo (addA a'19 b'20)))
def m_journal_line : List D → R D
  | [number'1, event'2] => b_journal_line number'1 event'2
  | _ => lft .bad
def b_digest_rows (events'1 : D) : R D := (((pure events'1) >>= fun a'2 => (pure (.list [])) >>= fun b'3 => lfo (eqO a'2 b'3)) >>= fun c => if c then (pure (.list [])) else (((((pure events'1) >>= fun a'4 => lfo (enumO [a'4])) >>= fun ds'10 => (mapS ds'10 fun d'9 => EM.nox (lfo (tup2 d'9) >>= fun t'5 => (((pure t'5.1) >>= fun a'7 => (pure t'5.2) >>= fun a'6 => m_journal_line [a'7, a'6]) >>= fun a'8 => m_digest_of_text [a'8]))) >>= fun r'11 => pure (.list r'11)) >>= fun a'12 => pure (.list [a'12])) >>= fun d'13 => lfo (lpartsO d'13) >>= fun rows'14 => ((whileS (fun (s'15 : List D) => ((((pure (.list s'15)) >>= fun a'17 => ((pure (.int 1)) >>= fun a'16 => lfo (negO a'16)) >>= fun b'18 => lfo (ixO a'17 b'18)) >>= fun a'19 => lfo (o1 lenO [a'19])) >>= fun a'20 => (pure (.int 1)) >>= fun b'21 => lfo (gtO a'20 b'21))) (fun (s'15 : List D) => (((pure (.list s'15)) >>= fun a'23 => ((pure (.int 1)) >>= fun a'22 => lfo (negO a'22)) >>= fun b'24 => lfo (ixO a'23 b'24)) >>= fun row'25 => ((((pure (.int 0)) >>= fun a'31 => (((pure row'25) >>= fun a'27 => lfo (o1 lenO [a'27])) >>= fun a'28 => (pure (.int 1)) >>= fun b'29 => lfo (subO a'28 b'29)) >>= fun a'30 => (pure (.int 2)) >>= fun a'26 => lfo (rangeO3 [a'31, a'30, a'26])) >>= fun ds'42 => (mapS ds'42 fun d'41 => EM.nox (lfo (some d'41) >>= fun at'32 => (((pure row'25) >>= fun a'38 => (pure at'32) >>= fun b'39 => lfo (ixO a'38 b'39)) >>= fun a'40 => ((pure row'25) >>= fun a'35 => ((pure at'32) >>= fun a'33 => (pure (.int 1)) >>= fun b'34 => lfo (addA a'33 b'34)) >>= fun b'36 => lfo (ixO a'35 b'36)) >>= fun a'37 => m_join_digests [a'40, a'37]))) >>= fun r'43 => pure (.list r'43)) >>= fun made'44 => ((((pure made'44) >>= fun a'55 => ((pure row'25) >>= fun a'52 => ((((pure row'25) >>= fun a'45 => lfo (o1 lenO [a'45])) >>= fun a'49 => (((pure row'25) >>= fun a'46 => lfo (o1 lenO [a'46])) >>= fun a'47 => (pure (.int 2)) >>= fun b'48 => lfo (modO a'47 b'48)) >>= fun b'50 => lfo (subO a'49 b'50)) >>= fun d'51 => lfo ((intO d'51).map some)) >>= fun l'53 => (pure none) >>= fun h'54 => lfo (sliceO a'52 l'53 h'54)) >>= fun b'56 => lfo (addA a'55 b'56)) >>= fun d'58 => lfo (if s'15.length < sizeLine then some (s'15 ++ [d'58]) else none)) >>= fun rows'57 => (pure rows'57))))) FUEL rows'14) >>= fun s'59 => (pure (.list s'59)))))
def m_digest_rows : List D → R D
  | [events'1] => b_digest_rows events'1
  | _ => lft .bad
def b_judge_line (digest'1 : D) (place'2 : D) (event'3 : D) (paper'4 : D) : R D := ((((pure place'2) >>= fun a'6 => (pure event'3) >>= fun a'5 => m_journal_line [a'6, a'5]) >>= fun a'7 => m_digest_of_text [a'7]) >>= fun found'8 => ((((pure paper'4) >>= fun d'9 => lfo (itemsO d'9)) >>= fun ds'20 => forS ds'20 found'8 fun d'19 (s'10 : D) => lfo (tup2 d'19) >>= fun t'11 => ((((pure t'11.1) >>= fun a'12 => (pure (.str "left")) >>= fun b'13 => lfo (eqO a'12 b'13)) >>= fun c => if c then ((pure t'11.2) >>= fun a'15 => (pure s'10) >>= fun a'14 => m_join_digests [a'15, a'14]) else ((pure s'10) >>= fun a'17 => (pure t'11.2) >>= fun a'16 => m_join_digests [a'17, a'16])) >>= fun found'18 => (pure found'18))) >>= fun s'22 => ((pure s'22) >>= fun a'23 => (pure digest'1) >>= fun b'24 => lfo ((eqO a'23 b'24).map .bool))))
def m_judge_line : List D → R D
  | [digest'1, place'2, event'3, paper'4] => b_judge_line digest'1 place'2 event'3 paper'4
  | _ => lft .bad
def b_chain_digests (events'1 : D) : R D := (((pure (.int 0)) >>= fun a'2 => pure (.list [a'2])) >>= fun d'3 => lfo (lpartsO d'3) >>= fun found'4 => ((((pure events'1) >>= fun a'5 => lfo (enumO [a'5])) >>= fun ds'19 => forS ds'19 found'4 fun d'18 (s'6 : List D) => lfo (tup2 d'18) >>= fun t'7 => (((((pure (.list s'6)) >>= fun a'13 => ((pure (.int 1)) >>= fun a'12 => lfo (negO a'12)) >>= fun b'14 => lfo (ixO a'13 b'14)) >>= fun a'15 => (((pure t'7.1) >>= fun a'9 => (pure t'7.2) >>= fun a'8 => m_journal_line [a'9, a'8]) >>= fun a'10 => m_digest_of_text [a'10]) >>= fun a'11 => m_join_digests [a'15, a'11]) >>= fun d'17 => lfo (if s'6.length < sizeLine then some (s'6 ++ [d'17]) else none)) >>= fun found'16 => (pure found'16))) >>= fun s'21 => (pure (.list s'21))))
def m_chain_digests : List D → R D
  | [events'1] => b_chain_digests events'1
  | _ => lft .bad
def b_digest_of (events'1 : D) : R D := (((pure events'1) >>= fun a'2 => m_digest_rows [a'2]) >>= fun rows'3 => (((pure rows'3) >>= fun a'4 => lfo (truO a'4)) >>= fun c => if c then (((pure rows'3) >>= fun a'6 => ((pure (.int 1)) >>= fun a'5 => lfo (negO a'5)) >>= fun b'7 => lfo (ixO a'6 b'7)) >>= fun a'8 => (pure (.int 0)) >>= fun b'9 => lfo (ixO a'8 b'9)) else (pure (.int 0))))
def m_digest_of : List D → R D
  | [events'1] => b_digest_of events'1
  | _ => lft .bad
def b_line_paper (events'1 : D) (place'2 : D) : R D := ((((pure (.int 0)) >>= fun a'4 => (pure place'2) >>= fun b'5 => lfo (leO a'4 b'5) >>= fun t => if t then ((pure events'1) >>= fun a'3 => lfo (o1 lenO [a'3])) >>= fun c'6 => lfo (ltO b'5 c'6) else pure false) >>= fun c => pure (!c)) >>= fun c => if c then (lft (.exc ⟨"NotPossible", []⟩)) else ((pure (.list [])) >>= fun d'7 => lfo (lpartsO d'7) >>= fun found'8 => ((((((pure events'1) >>= fun a'9 => m_digest_rows [a'9]) >>= fun a'12 => (pure none) >>= fun l'13 => (((pure (.int 1)) >>= fun a'10 => lfo (negO a'10)) >>= fun d'11 => lfo ((intO d'11).map some)) >>= fun h'14 => lfo (sliceO a'12 l'13 h'14)) >>= fun d'15 => lfo (itemsO d'15)) >>= fun ds'47 => forS ds'47 (place'2, found'8) fun d'46 (s'16 : D × List D) => lfo (some d'46) >>= fun row'17 => (((((pure s'16.1) >>= fun a'18 => (pure (.int 2)) >>= fun b'19 => lfo (modO a'18 b'19)) >>= fun a'20 => (pure (.int 1)) >>= fun b'21 => lfo (eqO a'20 b'21)) >>= fun c => if c then ((((pure (.str "left")) >>= fun a'27 => ((pure row'17) >>= fun a'24 => ((pure s'16.1) >>= fun a'22 => (pure (.int 1)) >>= fun b'23 => lfo (subO a'22 b'23)) >>= fun b'25 => lfo (ixO a'24 b'25)) >>= fun a'26 => pure (.tuple [a'27, a'26])) >>= fun d'29 => lfo (if s'16.2.length < sizeLine then some (s'16.2 ++ [d'29]) else none)) >>= fun found'28 => (pure found'28)) else ((((pure s'16.1) >>= fun a'30 => (pure (.int 1)) >>= fun b'31 => lfo (addA a'30 b'31)) >>= fun a'33 => ((pure row'17) >>= fun a'32 => lfo (o1 lenO [a'32])) >>= fun b'34 => lfo (ltO a'33 b'34)) >>= fun c => if c then ((((pure (.str "right")) >>= fun a'40 => ((pure row'17) >>= fun a'37 => ((pure s'16.1) >>= fun a'35 => (pure (.int 1)) >>= fun b'36 => lfo (addA a'35 b'36)) >>= fun b'38 => lfo (ixO a'37 b'38)) >>= fun a'39 => pure (.tuple [a'40, a'39])) >>= fun d'42 => lfo (if s'16.2.length < sizeLine then some (s'16.2 ++ [d'42]) else none)) >>= fun found'41 => (pure found'41)) else (pure s'16.2))) >>= fun j'43 => (((pure (.int 2)) >>= fun y'45 => lfo (fdivO s'16.1 y'45)) >>= fun place'44 => (pure (place'44, j'43))))) >>= fun s'49 => ((pure (.list s'49.2)) >>= fun a'50 => lfo (o1 tupleO [a'50])))))
def m_line_paper : List D → R D
  | [events'1, place'2] => b_line_paper events'1 place'2
  | _ => lft .bad
def b_first_apart (one'1 : D) (other'2 : D) : R D := ((((pure one'1) >>= fun a'3 => m_chain_digests [a'3]) >>= fun u'5 => ((pure other'2) >>= fun a'4 => m_chain_digests [a'4]) >>= fun v'6 => pure (u'5, v'6)) >>= fun q'7 => (((pure (.int 0)) >>= fun u'12 => (((pure one'1) >>= fun a'10 => lfo (o1 lenO [a'10])) >>= fun a'11 => ((pure other'2) >>= fun a'8 => lfo (o1 lenO [a'8])) >>= fun a'9 => lfo (o2 min2O [a'11, a'9])) >>= fun v'13 => pure (u'12, v'13)) >>= fun q'14 => ((((pure q'7.1) >>= fun a'15 => (pure q'14.2) >>= fun b'16 => lfo (ixO a'15 b'16)) >>= fun a'19 => ((pure q'7.2) >>= fun a'17 => (pure q'14.2) >>= fun b'18 => lfo (ixO a'17 b'18)) >>= fun b'20 => lfo (eqO a'19 b'20)) >>= fun c => if c then ((((pure one'1) >>= fun a'21 => lfo (o1 lenO [a'21])) >>= fun a'23 => ((pure other'2) >>= fun a'22 => lfo (o1 lenO [a'22])) >>= fun b'24 => lfo (eqO a'23 b'24)) >>= fun c => if c then (pure .none) else (pure q'14.2)) else ((whileS (fun (s'25 : D × D) => ((pure s'25.1) >>= fun a'26 => (pure s'25.2) >>= fun b'27 => lfo (ltO a'26 b'27))) (fun (s'25 : D × D) => ((((pure s'25.1) >>= fun a'28 => (pure s'25.2) >>= fun b'29 => lfo (addA a'28 b'29)) >>= fun a'30 => (pure (.int 2)) >>= fun b'31 => lfo (fdivO a'30 b'31)) >>= fun middle'32 => ((((pure q'7.1) >>= fun a'35 => ((pure middle'32) >>= fun a'33 => (pure (.int 1)) >>= fun b'34 => lfo (addA a'33 b'34)) >>= fun b'36 => lfo (ixO a'35 b'36)) >>= fun a'41 => ((pure q'7.2) >>= fun a'39 => ((pure middle'32) >>= fun a'37 => (pure (.int 1)) >>= fun b'38 => lfo (addA a'37 b'38)) >>= fun b'40 => lfo (ixO a'39 b'40)) >>= fun b'42 => lfo (eqO a'41 b'42)) >>= fun c => if c then (((pure middle'32) >>= fun a'43 => (pure (.int 1)) >>= fun b'44 => lfo (addA a'43 b'44)) >>= fun low'45 => (pure (low'45, s'25.2))) else ((pure middle'32) >>= fun high'46 => (pure (s'25.1, high'46)))))) FUEL (q'14.1, q'14.2)) >>= fun s'47 => (pure s'47.1)))))
def m_first_apart : List D → R D
  | [one'1, other'2] => b_first_apart one'1 other'2
  | _ => lft .bad
def b_is_continued (digest'1 : D) (count'2 : D) (events'3 : D) : R D := (((pure count'2) >>= fun a'5 => ((pure events'3) >>= fun a'4 => lfo (o1 lenO [a'4])) >>= fun b'6 => lfo (gtO a'5 b'6)) >>= fun c => if c then (lft (.exc ⟨"NotPossible", []⟩)) else ((((pure events'3) >>= fun a'7 => m_chain_digests [a'7]) >>= fun a'8 => (pure count'2) >>= fun b'9 => lfo (ixO a'8 b'9)) >>= fun a'10 => (pure digest'1) >>= fun b'11 => lfo ((eqO a'10 b'11).map .bool)))
def m_is_continued : List D → R D
  | [digest'1, count'2, events'3] => b_is_continued digest'1 count'2 events'3
  | _ => lft .bad
def b__law_refused (events'1 : D) (kind'2 : D) : R D := (tryR ((((pure kind'2) >>= fun a'3 => (pure (.int 0)) >>= fun b'4 => lfo (eqO a'3 b'4)) >>= fun c => if c then (((pure events'1) >>= fun a'7 => ((pure events'1) >>= fun a'5 => lfo (o1 lenO [a'5])) >>= fun a'6 => m_line_paper [a'7, a'6]) >>= fun _ => (pure ())) else (((pure kind'2) >>= fun a'8 => (pure (.int 1)) >>= fun b'9 => lfo (eqO a'8 b'9)) >>= fun c => if c then (((pure events'1) >>= fun a'12 => ((pure (.int 1)) >>= fun a'10 => lfo (negO a'10)) >>= fun a'11 => m_line_paper [a'12, a'11]) >>= fun _ => (pure ())) else (((pure (.int 0)) >>= fun a'18 => (((pure events'1) >>= fun a'14 => lfo (o1 lenO [a'14])) >>= fun a'15 => (pure (.int 1)) >>= fun b'16 => lfo (addA a'15 b'16)) >>= fun a'17 => (pure events'1) >>= fun a'13 => m_is_continued [a'18, a'17, a'13]) >>= fun _ => (pure ())))) >>= fun j'19 => (pure (.bool false))) hit_NotPossible (.bool true))
def m__law_refused : List D → R D
  | [events'1, kind'2] => b__law_refused events'1 kind'2
  | _ => lft .bad
def b_law (script'1 : D) : R D := (((pure script'1) >>= fun a'2 => m__law_state [a'2]) >>= fun d'3 => lfo (lpartsO d'3) >>= fun ds'4 => runS (((((pure (.int 41)) >>= fun a'5 => m__law_draw [.none, a'5]) >>= fun a'6 => lfo (rangeO1 [a'6])) >>= fun ds'9 => (mapS ds'9 fun d'8 => EM.nox (lfo (some d'8) >>= fun k'7 => (m__law_event [.none]))) >>= fun r'10 => pure (.list r'10)) >>= fun pairs'11 => ((((pure pairs'11) >>= fun d'12 => lfo (itemsO d'12)) >>= fun ds'17 => (mapS ds'17 fun d'16 => EM.nox (lfo (some d'16) >>= fun pair'13 => ((pure pair'13) >>= fun a'14 => (pure (.int 0)) >>= fun b'15 => lfo (ixO a'14 b'15)))) >>= fun r'18 => pure (.list r'18)) >>= fun events'19 => ((((pure pairs'11) >>= fun d'20 => lfo (itemsO d'20)) >>= fun ds'25 => (mapS ds'25 fun d'24 => EM.nox (lfo (some d'24) >>= fun pair'21 => ((pure pair'21) >>= fun a'22 => (pure (.int 1)) >>= fun b'23 => lfo (ixO a'22 b'23)))) >>= fun r'26 => pure (.list r'26)) >>= fun texts'27 => (((pure texts'27) >>= fun a'28 => lft (m__law_chain [a'28])) >>= fun chain'29 => ((((((pure events'19) >>= fun a'30 => lfo (o1 listO [a'30])) >>= fun a'31 => lft (m_chain_digests [a'31])) >>= fun a'32 => (pure chain'29) >>= fun b'33 => lfo (neO a'32 b'33)) >>= fun c => if c then pure true else (((((pure (.int 3)) >>= fun a'34 => lfo (rangeO1 [a'34])) >>= fun ds'37 => (fltS ds'37 fun d'36 => EM.nox (lfo (some d'36) >>= fun kind'35 => (((((pure events'19) >>= fun a'40 => lfo (o1 listO [a'40])) >>= fun a'41 => (pure kind'35) >>= fun a'39 => lft (m__law_refused [a'41, a'39])) >>= fun a'42 => lfo (truO a'42)) >>= fun c => pure (!c)) >>= fun c => if c then (pure kind'35) >>= fun x'43 => pure (some x'43) else pure none)) >>= fun r'38 => pure (.list r'38)) >>= fun a'44 => lfo (o1 lenO [a'44])) >>= fun a'45 => (pure (.int 0)) >>= fun b'46 => lfo (gtO a'45 b'46))) >>= fun c => if c then (pure (.bool false)) else ((((((pure events'19) >>= fun a'47 => lfo (o1 lenO [a'47])) >>= fun a'48 => lfo (rangeO1 [a'48])) >>= fun ds'55 => (mapS ds'55 fun d'54 => EM.nox (lfo (some d'54) >>= fun k'49 => ((pure k'49) >>= fun a'53 => ((pure events'19) >>= fun a'50 => (pure k'49) >>= fun b'51 => lfo (ixO a'50 b'51)) >>= fun a'52 => lft (m_journal_line [a'53, a'52])))) >>= fun r'56 => pure (.list r'56)) >>= fun a'67 => ((((pure texts'27) >>= fun a'57 => lfo (o1 lenO [a'57])) >>= fun a'58 => lfo (rangeO1 [a'58])) >>= fun ds'65 => (mapS ds'65 fun d'64 => EM.nox (lfo (some d'64) >>= fun k'59 => ((pure k'59) >>= fun a'63 => ((pure texts'27) >>= fun a'60 => (pure k'59) >>= fun b'61 => lfo (ixO a'60 b'61)) >>= fun a'62 => lft (m__law_line [a'63, a'62])))) >>= fun r'66 => pure (.list r'66)) >>= fun b'68 => lfo (neO a'67 b'68)) >>= fun c => if c then (pure (.bool false)) else (((((pure events'19) >>= fun a'69 => lfo (o1 lenO [a'69])) >>= fun a'70 => (pure (.int 0)) >>= fun b'71 => lfo (eqO a'70 b'71)) >>= fun c => if c then (((((pure (.list [])) >>= fun a'72 => lft (m_digest_rows [a'72])) >>= fun a'73 => (pure (.list [])) >>= fun b'74 => lfo (neO a'73 b'74)) >>= fun c => if c then pure true else (((pure (.list [])) >>= fun a'75 => lft (m_digest_of [a'75])) >>= fun a'76 => (pure (.int 0)) >>= fun b'77 => lfo (neO a'76 b'77))) >>= fun c => if c then ((pure (.bool false)) >>= fun d'78 => pure (.rt d'78 : Er (Unit))) else (pure ((.go ()) : Er (Unit)))) else (((pure texts'27) >>= fun a'79 => lft (m__law_rows [a'79])) >>= fun rows'80 => ((((pure rows'80) >>= fun a'84 => (((pure rows'80) >>= fun a'81 => lfo (o1 lenO [a'81])) >>= fun a'82 => (pure (.int 1)) >>= fun b'83 => lfo (subO a'82 b'83)) >>= fun b'85 => lfo (ixO a'84 b'85)) >>= fun a'86 => (pure (.int 0)) >>= fun b'87 => lfo (ixO a'86 b'87)) >>= fun digest'88 => ((((((pure events'19) >>= fun a'89 => lfo (o1 listO [a'89])) >>= fun a'90 => lft (m_digest_rows [a'90])) >>= fun a'91 => (pure rows'80) >>= fun b'92 => lfo (neO a'91 b'92)) >>= fun c => if c then pure true else (((((pure events'19) >>= fun a'93 => lfo (o1 listO [a'93])) >>= fun a'94 => lft (m_digest_of [a'94])) >>= fun a'95 => (pure digest'88) >>= fun b'96 => lfo (neO a'95 b'96)) >>= fun c => if c then pure true else (((pure digest'88) >>= fun a'98 => (pure (.int 5)) >>= fun a'97 => lft (m_join_digests [a'98, a'97])) >>= fun a'101 => ((pure digest'88) >>= fun a'100 => (pure (.int 5)) >>= fun a'99 => lft (m__law_join [a'100, a'99])) >>= fun b'102 => lfo (neO a'101 b'102)))) >>= fun c => if c then (pure (.bool false)) >>= fun b'255 => pure (.rt b'255 : Er (Unit)) else (((pure (.str "0123456789abcdef")) >>= fun a'106 => (((pure digest'88) >>= fun a'103 => lfo (o1 int1O [a'103])) >>= fun a'104 => (pure (.int 16)) >>= fun b'105 => lfo (modO a'104 b'105)) >>= fun b'107 => lfo (ixO a'106 b'107)) >>= fun word'108 => ((((((pure digest'88) >>= fun a'109 => lft (m_short_digest [a'109])) >>= fun a'110 => (pure (.int 15)) >>= fun b'111 => lfo (ixO a'110 b'111)) >>= fun a'112 => (pure word'108) >>= fun b'113 => lfo (neO a'112 b'113)) >>= fun c => if c then pure true else (((((pure digest'88) >>= fun a'114 => lft (m_short_digest [a'114])) >>= fun a'115 => lfo (o1 lenO [a'115])) >>= fun a'116 => (pure (.int 16)) >>= fun b'117 => lfo (neO a'116 b'117)) >>= fun c => if c then pure true else (((pure (.int 255)) >>= fun a'118 => lft (m_short_digest [a'118])) >>= fun a'119 => (pure (.str "00000000000000ff")) >>= fun b'120 => lfo (neO a'119 b'120)))) >>= fun c => if c then (pure (.bool false)) >>= fun b'254 => pure (.rt b'254 : Er (Unit)) else ((((pure (.int 4)) >>= fun a'121 => lfo (rangeO1 [a'121])) >>= fun ds'251 => forF ds'251 () fun d'250 (s'122 : Unit) => lfo (some d'250) >>= fun turn'123 => ((((pure events'19) >>= fun a'124 => lfo (o1 lenO [a'124])) >>= fun a'125 => m__law_draw [.none, a'125]) >>= fun place'126 => (((pure rows'80) >>= fun a'128 => (pure place'126) >>= fun a'127 => lft (m__law_paper [a'128, a'127])) >>= fun paper'129 => ((((((pure events'19) >>= fun a'131 => lfo (o1 listO [a'131])) >>= fun a'132 => (pure place'126) >>= fun a'130 => lft (m_line_paper [a'132, a'130])) >>= fun a'133 => (pure paper'129) >>= fun b'134 => lfo (neO a'133 b'134)) >>= fun c => if c then pure true else (((pure digest'88) >>= fun a'140 => (pure place'126) >>= fun a'139 => ((pure events'19) >>= fun a'136 => (pure place'126) >>= fun b'137 => lfo (ixO a'136 b'137)) >>= fun a'138 => (pure paper'129) >>= fun a'135 => lft (m_judge_line [a'140, a'139, a'138, a'135])) >>= fun a'141 => (pure (.bool true)) >>= fun b'142 => lfo (isntO a'141 b'142))) >>= fun c => if c then (pure (.bool false)) >>= fun b'249 => pure (.rt b'249 : Fl (Unit)) else ((((pure events'19) >>= fun a'143 => lfo (o1 lenO [a'143])) >>= fun a'144 => m__law_draw [.none, a'144]) >>= fun at'145 => ((((((pure digest'88) >>= fun a'158 => (pure at'145) >>= fun a'157 => ((pure events'19) >>= fun a'154 => (pure place'126) >>= fun b'155 => lfo (ixO a'154 b'155)) >>= fun a'156 => (pure paper'129) >>= fun a'153 => lft (m_judge_line [a'158, a'157, a'156, a'153])) >>= fun a'159 => ((pure digest'88) >>= fun a'151 => (pure at'145) >>= fun a'150 => ((pure texts'27) >>= fun a'147 => (pure place'126) >>= fun b'148 => lfo (ixO a'147 b'148)) >>= fun a'149 => (pure paper'129) >>= fun a'146 => lft (m__law_leads [a'151, a'150, a'149, a'146])) >>= fun a'152 => lft (m__law_truth [a'159, a'152])) >>= fun a'160 => lfo (truO a'160)) >>= fun c => pure (!c)) >>= fun c => if c then (pure (.bool false)) >>= fun b'248 => pure (.rt b'248 : Fl (Unit)) else (((m__law_event [.none]) >>= fun d'162 => lfo (lst2 d'162)) >>= fun t'161 => ((((((pure digest'88) >>= fun a'171 => (pure place'126) >>= fun a'170 => (pure t'161.1) >>= fun a'169 => (pure paper'129) >>= fun a'168 => lft (m_judge_line [a'171, a'170, a'169, a'168])) >>= fun a'172 => ((pure digest'88) >>= fun a'166 => (pure place'126) >>= fun a'165 => (pure t'161.2) >>= fun a'164 => (pure paper'129) >>= fun a'163 => lft (m__law_leads [a'166, a'165, a'164, a'163])) >>= fun a'167 => lft (m__law_truth [a'172, a'167])) >>= fun a'173 => lfo (truO a'173)) >>= fun c => pure (!c)) >>= fun c => if c then (pure (.bool false)) >>= fun b'247 => pure (.rt b'247 : Fl (Unit)) else ((((pure paper'129) >>= fun a'174 => lfo (o1 lenO [a'174])) >>= fun a'175 => (pure (.int 0)) >>= fun b'176 => lfo (gtO a'175 b'176)) >>= fun c => if c then ((((pure paper'129) >>= fun a'177 => lfo (o1 lenO [a'177])) >>= fun a'178 => m__law_draw [.none, a'178]) >>= fun k'179 => ((((pure (.str "left")) >>= fun a'188 => (pure (.str "right")) >>= fun a'187 => pure (.list [a'188, a'187])) >>= fun a'189 => (((((pure paper'129) >>= fun a'180 => (pure k'179) >>= fun b'181 => lfo (ixO a'180 b'181)) >>= fun a'182 => (pure (.int 0)) >>= fun b'183 => lfo (ixO a'182 b'183)) >>= fun a'184 => (pure (.str "left")) >>= fun b'185 => lfo ((eqO a'184 b'185).map .bool)) >>= fun a'186 => lfo (o1 int1O [a'186])) >>= fun b'190 => lfo (ixO a'189 b'190)) >>= fun side'191 => (((((pure paper'129) >>= fun a'193 => (pure none) >>= fun l'194 => ((pure k'179) >>= fun d'192 => lfo ((intO d'192).map some)) >>= fun h'195 => lfo (sliceO a'193 l'194 h'195)) >>= fun a'220 => (((((pure side'191) >>= fun a'215 => (((pure paper'129) >>= fun a'210 => (pure k'179) >>= fun b'211 => lfo (ixO a'210 b'211)) >>= fun a'212 => (pure (.int 1)) >>= fun b'213 => lfo (ixO a'212 b'213)) >>= fun a'214 => pure (.tuple [a'215, a'214])) >>= fun a'216 => ((((pure paper'129) >>= fun a'204 => (pure k'179) >>= fun b'205 => lfo (ixO a'204 b'205)) >>= fun a'206 => (pure (.int 0)) >>= fun b'207 => lfo (ixO a'206 b'207)) >>= fun a'208 => ((((pure paper'129) >>= fun a'197 => (pure k'179) >>= fun b'198 => lfo (ixO a'197 b'198)) >>= fun a'199 => (pure (.int 1)) >>= fun b'200 => lfo (ixO a'199 b'200)) >>= fun a'201 => (pure (.int 1)) >>= fun b'202 => lfo (addA a'201 b'202)) >>= fun a'203 => pure (.tuple [a'208, a'203])) >>= fun a'209 => pure (.list [a'216, a'209])) >>= fun a'217 => ((pure (.int 2)) >>= fun a'196 => m__law_draw [.none, a'196]) >>= fun b'218 => lfo (ixO a'217 b'218)) >>= fun a'219 => pure (.tuple [a'219])) >>= fun b'221 => lfo (addA a'220 b'221)) >>= fun a'228 => ((pure paper'129) >>= fun a'225 => (((pure k'179) >>= fun a'222 => (pure (.int 1)) >>= fun b'223 => lfo (addA a'222 b'223)) >>= fun d'224 => lfo ((intO d'224).map some)) >>= fun l'226 => (pure none) >>= fun h'227 => lfo (sliceO a'225 l'226 h'227)) >>= fun b'229 => lfo (addA a'228 b'229)) >>= fun turned'230 => ((((((pure digest'88) >>= fun a'243 => (pure place'126) >>= fun a'242 => ((pure events'19) >>= fun a'239 => (pure place'126) >>= fun b'240 => lfo (ixO a'239 b'240)) >>= fun a'241 => (pure turned'230) >>= fun a'238 => lft (m_judge_line [a'243, a'242, a'241, a'238])) >>= fun a'244 => ((pure digest'88) >>= fun a'236 => (pure place'126) >>= fun a'235 => ((pure texts'27) >>= fun a'232 => (pure place'126) >>= fun b'233 => lfo (ixO a'232 b'233)) >>= fun a'234 => (pure turned'230) >>= fun a'231 => lft (m__law_leads [a'236, a'235, a'234, a'231])) >>= fun a'237 => lft (m__law_truth [a'244, a'237])) >>= fun a'245 => lfo (truO a'245)) >>= fun c => pure (!c)) >>= fun c => if c then ((pure (.bool false)) >>= fun d'246 => pure (.rt d'246 : Fl (Unit))) else (pure ((.nx ()) : Fl (Unit))))))) else (pure ((.nx ()) : Fl (Unit)))))))))))) >>= fun r'252 => Er.seq r'252 (fun s'253 => (pure ((.go ()) : Er (Unit)))) (fun d => (.rt d : Er (Unit)))))))))) >>= fun r'352 => Er.seq r'352 (fun j'256 => (((pure pairs'11) >>= fun a'257 => lfo (o1 listO [a'257])) >>= fun d'258 => lfo (lpartsO d'258) >>= fun others'259 => ((((((pure pairs'11) >>= fun a'260 => lfo (o1 lenO [a'260])) >>= fun a'261 => (pure (.int 0)) >>= fun b'262 => lfo (gtO a'261 b'262)) >>= fun c => if c then (((pure (.int 2)) >>= fun a'263 => m__law_draw [.none, a'263]) >>= fun a'264 => (pure (.int 0)) >>= fun b'265 => lfo (eqO a'264 b'265)) else pure false) >>= fun c => if c then (((m__law_event [.none]) >>= fun d'268 => (((pure pairs'11) >>= fun a'266 => lfo (o1 lenO [a'266])) >>= fun a'267 => m__law_draw [.none, a'267]) >>= fun k'269 => lfo (setO others'259 d'268 k'269)) >>= fun others'270 => (pure others'270)) else (pure others'259)) >>= fun j'271 => ((((pure (.list j'271)) >>= fun a'283 => (pure none) >>= fun l'284 => ((((pure (.list j'271)) >>= fun a'272 => lfo (o1 lenO [a'272])) >>= fun a'280 => (((pure (.list j'271)) >>= fun a'278 => lfo (o1 lenO [a'278])) >>= fun a'279 => (((pure (.int 2)) >>= fun a'273 => m__law_draw [.none, a'273]) >>= fun a'275 => ((pure (.int 4)) >>= fun a'274 => m__law_draw [.none, a'274]) >>= fun b'276 => lfo (mulO a'275 b'276)) >>= fun a'277 => lfo (o2 min2O [a'279, a'277])) >>= fun b'281 => lfo (subO a'280 b'281)) >>= fun d'282 => lfo ((intO d'282).map some)) >>= fun h'285 => lfo (sliceO a'283 l'284 h'285)) >>= fun a'292 => ((((pure (.int 3)) >>= fun a'286 => m__law_draw [.none, a'286]) >>= fun a'287 => lfo (rangeO1 [a'287])) >>= fun ds'290 => (mapS ds'290 fun d'289 => EM.nox (lfo (some d'289) >>= fun k'288 => (m__law_event [.none]))) >>= fun r'291 => pure (.list r'291)) >>= fun b'293 => lfo (catO a'292 b'293)) >>= fun d'294 => lfo (lpartsO d'294) >>= fun others'295 => (((pure texts'27) >>= fun a'304 => (((pure (.list others'295)) >>= fun d'296 => lfo (itemsO d'296)) >>= fun ds'301 => (mapS ds'301 fun d'300 => EM.nox (lfo (some d'300) >>= fun pair'297 => ((pure pair'297) >>= fun a'298 => (pure (.int 1)) >>= fun b'299 => lfo (ixO a'298 b'299)))) >>= fun r'302 => pure (.list r'302)) >>= fun a'303 => lft (m__law_apart [a'304, a'303])) >>= fun due'305 => ((((((pure events'19) >>= fun a'314 => lfo (o1 listO [a'314])) >>= fun a'315 => (((pure (.list others'295)) >>= fun d'306 => lfo (itemsO d'306)) >>= fun ds'311 => (mapS ds'311 fun d'310 => EM.nox (lfo (some d'310) >>= fun pair'307 => ((pure pair'307) >>= fun a'308 => (pure (.int 0)) >>= fun b'309 => lfo (ixO a'308 b'309)))) >>= fun r'312 => pure (.list r'312)) >>= fun a'313 => lft (m_first_apart [a'315, a'313])) >>= fun a'316 => (pure due'305) >>= fun b'317 => lfo (neO a'316 b'317)) >>= fun c => if c then pure true else ((((pure events'19) >>= fun a'320 => lfo (o1 listO [a'320])) >>= fun a'321 => ((pure events'19) >>= fun a'318 => lfo (o1 listO [a'318])) >>= fun a'319 => lft (m_first_apart [a'321, a'319])) >>= fun a'322 => (pure .none) >>= fun b'323 => lfo (isntO a'322 b'323))) >>= fun c => if c then (pure (.bool false)) else (((((pure events'19) >>= fun a'324 => lfo (o1 lenO [a'324])) >>= fun a'325 => (pure (.int 1)) >>= fun b'326 => lfo (addA a'325 b'326)) >>= fun a'327 => m__law_draw [.none, a'327]) >>= fun count'328 => (((((pure chain'29) >>= fun a'332 => (pure count'328) >>= fun b'333 => lfo (ixO a'332 b'333)) >>= fun a'334 => (pure count'328) >>= fun a'331 => ((pure events'19) >>= fun a'329 => lfo (o1 listO [a'329])) >>= fun a'330 => lft (m_is_continued [a'334, a'331, a'330])) >>= fun a'335 => (pure (.bool true)) >>= fun b'336 => lfo (isntO a'335 b'336)) >>= fun c => if c then (pure (.bool false)) else ((((pure (.str "a b.9")) >>= fun a'337 => lft (m_digest_of_text [a'337])) >>= fun a'339 => ((pure (.str "a b.9")) >>= fun a'338 => lft (m__law_digest [a'338])) >>= fun b'340 => lfo ((eqO a'339 b'340).map .bool)) >>= fun a'351 => lfo (truO a'351) >>= fun c => if c then (((((pure chain'29) >>= fun a'345 => (pure count'328) >>= fun b'346 => lfo (ixO a'345 b'346)) >>= fun a'347 => (pure (.int 1)) >>= fun b'348 => lfo (addA a'347 b'348)) >>= fun a'349 => (pure count'328) >>= fun a'344 => ((pure events'19) >>= fun a'342 => lfo (o1 listO [a'342])) >>= fun a'343 => lft (m_is_continued [a'349, a'344, a'343])) >>= fun a'350 => (pure (.bool false)) >>= fun a'341 => lft (m__law_truth [a'350, a'341])) else pure a'351))))))))) (fun d => d)))))))) ds'4)
def m_law : List D → R D
  | [script'1] => b_law script'1
  | _ => lft .bad
end Lw
end
section
set_option maxHeartbeats 0
namespace Hd
open PySem PySem.Spec PyProof.Rows L2
def top (i : Nat) : Stmt := PySem.Challenge.pw_ebbledger_k42_whole_digests_of_long_jour.main.body.getD i (.Pass ⟨0, 0, 0, 0⟩)
abbrev s_text_of_bound : Stmt := top 6
abbrev s_format_net : Stmt := top 7
abbrev s_format_change : Stmt := top 8
abbrev s_sum_of_text : Stmt := top 12
abbrev s_one_line_net : Stmt := top 13
abbrev s_event_text : Stmt := top 14
abbrev s_journal_line : Stmt := top 15
abbrev s_digest_of_text : Stmt := top 20
abbrev s_join_digests : Stmt := top 21
abbrev s_digest_rows : Stmt := top 22
abbrev s_digest_of : Stmt := top 23
abbrev s_line_paper : Stmt := top 24
abbrev s_judge_line : Stmt := top 25
abbrev s_chain_digests : Stmt := top 26
abbrev s_first_apart : Stmt := top 27
abbrev s_is_continued : Stmt := top 28
abbrev s_short_digest : Stmt := top 29
abbrev s__law_state : Stmt := top 31
abbrev s__law_draw : Stmt := top 32
abbrev s__law_truth : Stmt := top 33
abbrev s__law_event : Stmt := top 34
abbrev s__law_sum : Stmt := top 35
abbrev s__law_line : Stmt := top 36
abbrev s__law_digest : Stmt := top 37
abbrev s__law_join : Stmt := top 38
abbrev s__law_rows : Stmt := top 39
abbrev s__law_paper : Stmt := top 40
abbrev s__law_leads : Stmt := top 41
abbrev s__law_chain : Stmt := top 42
abbrev s__law_apart : Stmt := top 43
abbrev s__law_refused : Stmt := top 44
abbrev s_law : Stmt := top 45
def d_text_of_bound : He.DefD := ⟨("text_of_bound", none), "text_of_bound", "text_of_bound", defArgs s_text_of_bound, defBody s_text_of_bound, defScope s_text_of_bound, [], []⟩
def d_format_net : He.DefD := ⟨("format_net", none), "format_net", "format_net", defArgs s_format_net, defBody s_format_net, defScope s_format_net, [], []⟩
def d_format_change : He.DefD := ⟨("format_change", none), "format_change", "format_change", defArgs s_format_change, defBody s_format_change, defScope s_format_change, [], []⟩
def d_sum_of_text : He.DefD := ⟨("sum_of_text", none), "sum_of_text", "sum_of_text", defArgs s_sum_of_text, defBody s_sum_of_text, defScope s_sum_of_text, [], []⟩
def d_one_line_net : He.DefD := ⟨("one_line_net", none), "one_line_net", "one_line_net", defArgs s_one_line_net, defBody s_one_line_net, defScope s_one_line_net, [], []⟩
def d_event_text : He.DefD := ⟨("event_text", none), "event_text", "event_text", defArgs s_event_text, defBody s_event_text, defScope s_event_text, [], []⟩
def d_journal_line : He.DefD := ⟨("journal_line", none), "journal_line", "journal_line", defArgs s_journal_line, defBody s_journal_line, defScope s_journal_line, [], []⟩
def d_digest_of_text : He.DefD := ⟨("digest_of_text", none), "digest_of_text", "digest_of_text", defArgs s_digest_of_text, defBody s_digest_of_text, defScope s_digest_of_text, [], []⟩
def d_join_digests : He.DefD := ⟨("join_digests", none), "join_digests", "join_digests", defArgs s_join_digests, defBody s_join_digests, defScope s_join_digests, [], []⟩
def d_digest_rows : He.DefD := ⟨("digest_rows", none), "digest_rows", "digest_rows", defArgs s_digest_rows, defBody s_digest_rows, defScope s_digest_rows, [], []⟩
def d_digest_of : He.DefD := ⟨("digest_of", none), "digest_of", "digest_of", defArgs s_digest_of, defBody s_digest_of, defScope s_digest_of, [], []⟩
def d_line_paper : He.DefD := ⟨("line_paper", none), "line_paper", "line_paper", defArgs s_line_paper, defBody s_line_paper, defScope s_line_paper, [], []⟩
def d_judge_line : He.DefD := ⟨("judge_line", none), "judge_line", "judge_line", defArgs s_judge_line, defBody s_judge_line, defScope s_judge_line, [], []⟩
def d_chain_digests : He.DefD := ⟨("chain_digests", none), "chain_digests", "chain_digests", defArgs s_chain_digests, defBody s_chain_digests, defScope s_chain_digests, [], []⟩
def d_first_apart : He.DefD := ⟨("first_apart", none), "first_apart", "first_apart", defArgs s_first_apart, defBody s_first_apart, defScope s_first_apart, [], []⟩
def d_is_continued : He.DefD := ⟨("is_continued", none), "is_continued", "is_continued", defArgs s_is_continued, defBody s_is_continued, defScope s_is_continued, [], []⟩
def d_short_digest : He.DefD := ⟨("short_digest", none), "short_digest", "short_digest", defArgs s_short_digest, defBody s_short_digest, defScope s_short_digest, [], []⟩
def d__law_state : He.DefD := ⟨("_law_state", none), "_law_state", "_law_state", defArgs s__law_state, defBody s__law_state, defScope s__law_state, [], []⟩
def d__law_draw : He.DefD := ⟨("_law_draw", none), "_law_draw", "_law_draw", defArgs s__law_draw, defBody s__law_draw, defScope s__law_draw, [], []⟩
def d__law_truth : He.DefD := ⟨("_law_truth", none), "_law_truth", "_law_truth", defArgs s__law_truth, defBody s__law_truth, defScope s__law_truth, [], []⟩
def d__law_event : He.DefD := ⟨("_law_event", none), "_law_event", "_law_event", defArgs s__law_event, defBody s__law_event, defScope s__law_event, [], []⟩
def d__law_sum : He.DefD := ⟨("_law_sum", none), "_law_sum", "_law_sum", defArgs s__law_sum, defBody s__law_sum, defScope s__law_sum, [], []⟩
def d__law_line : He.DefD := ⟨("_law_line", none), "_law_line", "_law_line", defArgs s__law_line, defBody s__law_line, defScope s__law_line, [], []⟩
def d__law_digest : He.DefD := ⟨("_law_digest", none), "_law_digest", "_law_digest", defArgs s__law_digest, defBody s__law_digest, defScope s__law_digest, [], []⟩
def d__law_join : He.DefD := ⟨("_law_join", none), "_law_join", "_law_join", defArgs s__law_join, defBody s__law_join, defScope s__law_join, [], []⟩
def d__law_rows : He.DefD := ⟨("_law_rows", none), "_law_rows", "_law_rows", defArgs s__law_rows, defBody s__law_rows, defScope s__law_rows, [], []⟩
def d__law_paper : He.DefD := ⟨("_law_paper", none), "_law_paper", "_law_paper", defArgs s__law_paper, defBody s__law_paper, defScope s__law_paper, [], []⟩
def d__law_leads : He.DefD := ⟨("_law_leads", none), "_law_leads", "_law_leads", defArgs s__law_leads, defBody s__law_leads, defScope s__law_leads, [], []⟩
def d__law_chain : He.DefD := ⟨("_law_chain", none), "_law_chain", "_law_chain", defArgs s__law_chain, defBody s__law_chain, defScope s__law_chain, [], []⟩
def d__law_apart : He.DefD := ⟨("_law_apart", none), "_law_apart", "_law_apart", defArgs s__law_apart, defBody s__law_apart, defScope s__law_apart, [], []⟩
def d__law_refused : He.DefD := ⟨("_law_refused", none), "_law_refused", "_law_refused", defArgs s__law_refused, defBody s__law_refused, defScope s__law_refused, [], []⟩
def d_law : He.DefD := ⟨("law", none), "law", "law", defArgs s_law, defBody s_law, defScope s_law, [], []⟩
def fn : List He.DefD := [d_text_of_bound, d_format_net, d_format_change, d_sum_of_text, d_one_line_net, d_event_text, d_journal_line, d_digest_of_text, d_join_digests, d_digest_rows, d_digest_of, d_line_paper, d_judge_line, d_chain_digests, d_first_apart, d_is_continued, d_short_digest, d__law_state, d__law_draw, d__law_truth, d__law_event, d__law_sum, d__law_line, d__law_digest, d__law_join, d__law_rows, d__law_paper, d__law_leads, d__law_chain, d__law_apart, d__law_refused, d_law]
def fa0 : List He.Fa := [.glo "text_of_bound", .glo "format_net", .glo "format_change", .glo "sum_of_text", .glo "one_line_net", .glo "event_text", .glo "journal_line", .glo "digest_of_text", .glo "join_digests", .glo "digest_rows", .glo "digest_of", .glo "line_paper", .glo "judge_line", .glo "chain_digests", .glo "first_apart", .glo "is_continued", .glo "short_digest", .glo "_law_state", .glo "_law_draw", .glo "_law_truth", .glo "_law_event", .glo "_law_sum", .glo "_law_line", .glo "_law_digest", .glo "_law_join", .glo "_law_rows", .glo "_law_paper", .glo "_law_leads", .glo "_law_chain", .glo "_law_apart"]
def fa1 : List He.Fa := [.glo "_law_refused", .glo "law", .glo "EbbError", .glo "NotPossible", .int "MODULUS" (9973), .int "PRIME" (2305843009213693951), .int "FACTOR" (1000003), .str "SIGNS" " abcdefghijklmnopqrstuvwxyz0123456789.-;|", .str "CODES" " abcdefghijklmnopqrstuvwxyz0123456789.-;|", .glo "KINDS", .glo "WORDS", .free "ValueError", .free "enumerate", .free "int", .free "len", .free "list", .free "min", .free "range", .free "str", .free "tuple", .free "zip", .exc "EbbError", .exm "EbbError" "EbbError" true, .exm "EbbError" "NotPossible" false, .exc "NotPossible", .exm "NotPossible" "EbbError" true, .exm "NotPossible" "NotPossible" true]
def fa : List He.Fa := fa0 ++ fa1
def tb_KINDS : List (PySem.Str × He.Dv) := [("supply", .str "ni"), ("move", .str "nni"), ("node", .str "ni"), ("no node", .str "n"), ("arc", .str "nnniwi"), ("no arc", .str "n"), ("bounds", .str "niw"), ("price", .str "ni"), ("ends", .str "nnn")]
def tb_WORDS : List (PySem.Str × He.Dv) := [("supply", .str "supply"), ("move", .str "move"), ("node", .str "node"), ("no node", .str "no-node"), ("arc", .str "arc"), ("no arc", .str "no-arc"), ("bounds", .str "bounds"), ("price", .str "price"), ("ends", .str "ends")]
def ex (K : PySem.W.Frag) : Bool := He.valsB K (He.ga K "KINDS") tb_KINDS && He.valsB K (He.ga K "WORDS") tb_WORDS
def ts : List He.Tab := [(fun K => He.ga K "KINDS", ["supply", "move", "node", "no node", "arc", "no arc", "bounds", "price", "ends"]), (fun K => He.ga K "WORDS", ["supply", "move", "node", "no node", "arc", "no arc", "bounds", "price", "ends"])]
def nms0 : List PySem.Str := ["EbbError", "NotPossible", "KINDS", "WORDS", "text_of_bound", "format_net", "format_change", "MODULUS", "SIGNS", "sum_of_text", "one_line_net", "event_text", "journal_line", "PRIME", "FACTOR", "CODES", "digest_of_text", "join_digests", "digest_rows", "digest_of", "line_paper", "judge_line", "chain_digests", "first_apart", "is_continued", "short_digest", "_law_state", "_law_draw", "_law_truth", "_law_event"]
def nms1 : List PySem.Str := ["_law_sum", "_law_line", "_law_digest", "_law_join", "_law_rows", "_law_paper", "_law_leads", "_law_chain", "_law_apart", "_law_refused"]
def nms : List PySem.Str := nms0 ++ nms1
abbrev R : PySem.W.OpenRow := PySem.W.OpenLaw.row PySem.Challenge.rw_ebbledger_k42_whole_digests_of_long_jour
abbrev hk : PySem.W.Hook := He.hookX 4 fa fn ts [] ex
def ob (s : PySem.W.SharedT) : He.AlX := He.obsX 4 fa fn ts [] ex (HandSHeadRun.getT s)
theorem ob_eq (s : PySem.W.SharedT) : ob s = hk.obs s.abs := He.obsX_eq (HandSHeadRun.getT_eq s)
theorem runF (w : World) : HandSHeadRun.RunEq R (PySem.W.view R.prog [45]) hk ob 3000 nms (w.withFollow "special-get-raises" false) := by
  intro os
  kernel_rfl
theorem runT (w : World) : HandSHeadRun.RunEq R (PySem.W.view R.prog [45]) hk ob 3000 nms (w.withFollow "special-get-raises" true) := by
  intro os
  kernel_rfl
theorem run (w : World) : HandSHeadRun.RunEq R (PySem.W.view R.prog [45]) hk ob 3000 nms w := PySem.W.byRow2 "special-get-raises" (P := fun w => HandSHeadRun.RunEq R (PySem.W.view R.prog [45]) hk ob 3000 nms w) runF runT w
end Hd
end
section
set_option maxHeartbeats 0
namespace Lw
open PySem PySem.Spec PyProof.Rows L2 DL
structure Ctx (C : Cst) : Prop where
  f_sum_of_text : ∃ fd, FunD C.K "sum_of_text" "sum_of_text" (defArgs Hd.s_sum_of_text) (defBody Hd.s_sum_of_text) (defScope Hd.s_sum_of_text) [] [] (He.ga C.K "sum_of_text") fd
  f__law_event : ∃ fd, FunD C.K "_law_event" "_law_event" (defArgs Hd.s__law_event) (defBody Hd.s__law_event) (defScope Hd.s__law_event) [] [] (He.ga C.K "_law_event") fd
  f_text_of_bound : ∃ fd, FunD C.K "text_of_bound" "text_of_bound" (defArgs Hd.s_text_of_bound) (defBody Hd.s_text_of_bound) (defScope Hd.s_text_of_bound) [] [] (He.ga C.K "text_of_bound") fd
  f__law_draw : ∃ fd, FunD C.K "_law_draw" "_law_draw" (defArgs Hd.s__law_draw) (defBody Hd.s__law_draw) (defScope Hd.s__law_draw) [] [] (He.ga C.K "_law_draw") fd
  f_short_digest : ∃ fd, FunD C.K "short_digest" "short_digest" (defArgs Hd.s_short_digest) (defBody Hd.s_short_digest) (defScope Hd.s_short_digest) [] [] (He.ga C.K "short_digest") fd
  f_one_line_net : ∃ fd, FunD C.K "one_line_net" "one_line_net" (defArgs Hd.s_one_line_net) (defBody Hd.s_one_line_net) (defScope Hd.s_one_line_net) [] [] (He.ga C.K "one_line_net") fd
  f_first_apart : ∃ fd, FunD C.K "first_apart" "first_apart" (defArgs Hd.s_first_apart) (defBody Hd.s_first_apart) (defScope Hd.s_first_apart) [] [] (He.ga C.K "first_apart") fd
  f__law_leads : ∃ fd, FunD C.K "_law_leads" "_law_leads" (defArgs Hd.s__law_leads) (defBody Hd.s__law_leads) (defScope Hd.s__law_leads) [] [] (He.ga C.K "_law_leads") fd
  f_digest_of_text : ∃ fd, FunD C.K "digest_of_text" "digest_of_text" (defArgs Hd.s_digest_of_text) (defBody Hd.s_digest_of_text) (defScope Hd.s_digest_of_text) [] [] (He.ga C.K "digest_of_text") fd
  f_chain_digests : ∃ fd, FunD C.K "chain_digests" "chain_digests" (defArgs Hd.s_chain_digests) (defBody Hd.s_chain_digests) (defScope Hd.s_chain_digests) [] [] (He.ga C.K "chain_digests") fd
  f_is_continued : ∃ fd, FunD C.K "is_continued" "is_continued" (defArgs Hd.s_is_continued) (defBody Hd.s_is_continued) (defScope Hd.s_is_continued) [] [] (He.ga C.K "is_continued") fd
  f_event_text : ∃ fd, FunD C.K "event_text" "event_text" (defArgs Hd.s_event_text) (defBody Hd.s_event_text) (defScope Hd.s_event_text) [] [] (He.ga C.K "event_text") fd
  f__law_state : ∃ fd, FunD C.K "_law_state" "_law_state" (defArgs Hd.s__law_state) (defBody Hd.s__law_state) (defScope Hd.s__law_state) [] [] (He.ga C.K "_law_state") fd
  f_digest_of : ∃ fd, FunD C.K "digest_of" "digest_of" (defArgs Hd.s_digest_of) (defBody Hd.s_digest_of) (defScope Hd.s_digest_of) [] [] (He.ga C.K "digest_of") fd
  f__law_refused : ∃ fd, FunD C.K "_law_refused" "_law_refused" (defArgs Hd.s__law_refused) (defBody Hd.s__law_refused) (defScope Hd.s__law_refused) [] [] (He.ga C.K "_law_refused") fd
  f_format_net : ∃ fd, FunD C.K "format_net" "format_net" (defArgs Hd.s_format_net) (defBody Hd.s_format_net) (defScope Hd.s_format_net) [] [] (He.ga C.K "format_net") fd
  f__law_truth : ∃ fd, FunD C.K "_law_truth" "_law_truth" (defArgs Hd.s__law_truth) (defBody Hd.s__law_truth) (defScope Hd.s__law_truth) [] [] (He.ga C.K "_law_truth") fd
  f__law_sum : ∃ fd, FunD C.K "_law_sum" "_law_sum" (defArgs Hd.s__law_sum) (defBody Hd.s__law_sum) (defScope Hd.s__law_sum) [] [] (He.ga C.K "_law_sum") fd
  f_law : ∃ fd, FunD C.K "law" "law" (defArgs Hd.s_law) (defBody Hd.s_law) (defScope Hd.s_law) [] [] (He.ga C.K "law") fd
  f_journal_line : ∃ fd, FunD C.K "journal_line" "journal_line" (defArgs Hd.s_journal_line) (defBody Hd.s_journal_line) (defScope Hd.s_journal_line) [] [] (He.ga C.K "journal_line") fd
  f__law_apart : ∃ fd, FunD C.K "_law_apart" "_law_apart" (defArgs Hd.s__law_apart) (defBody Hd.s__law_apart) (defScope Hd.s__law_apart) [] [] (He.ga C.K "_law_apart") fd
  f_format_change : ∃ fd, FunD C.K "format_change" "format_change" (defArgs Hd.s_format_change) (defBody Hd.s_format_change) (defScope Hd.s_format_change) [] [] (He.ga C.K "format_change") fd
  f__law_paper : ∃ fd, FunD C.K "_law_paper" "_law_paper" (defArgs Hd.s__law_paper) (defBody Hd.s__law_paper) (defScope Hd.s__law_paper) [] [] (He.ga C.K "_law_paper") fd
  f_line_paper : ∃ fd, FunD C.K "line_paper" "line_paper" (defArgs Hd.s_line_paper) (defBody Hd.s_line_paper) (defScope Hd.s_line_paper) [] [] (He.ga C.K "line_paper") fd
  f__law_join : ∃ fd, FunD C.K "_law_join" "_law_join" (defArgs Hd.s__law_join) (defBody Hd.s__law_join) (defScope Hd.s__law_join) [] [] (He.ga C.K "_law_join") fd
  f__law_line : ∃ fd, FunD C.K "_law_line" "_law_line" (defArgs Hd.s__law_line) (defBody Hd.s__law_line) (defScope Hd.s__law_line) [] [] (He.ga C.K "_law_line") fd
  f__law_digest : ∃ fd, FunD C.K "_law_digest" "_law_digest" (defArgs Hd.s__law_digest) (defBody Hd.s__law_digest) (defScope Hd.s__law_digest) [] [] (He.ga C.K "_law_digest") fd
  f_join_digests : ∃ fd, FunD C.K "join_digests" "join_digests" (defArgs Hd.s_join_digests) (defBody Hd.s_join_digests) (defScope Hd.s_join_digests) [] [] (He.ga C.K "join_digests") fd
  f_digest_rows : ∃ fd, FunD C.K "digest_rows" "digest_rows" (defArgs Hd.s_digest_rows) (defBody Hd.s_digest_rows) (defScope Hd.s_digest_rows) [] [] (He.ga C.K "digest_rows") fd
  f_judge_line : ∃ fd, FunD C.K "judge_line" "judge_line" (defArgs Hd.s_judge_line) (defBody Hd.s_judge_line) (defScope Hd.s_judge_line) [] [] (He.ga C.K "judge_line") fd
  f__law_rows : ∃ fd, FunD C.K "_law_rows" "_law_rows" (defArgs Hd.s__law_rows) (defBody Hd.s__law_rows) (defScope Hd.s__law_rows) [] [] (He.ga C.K "_law_rows") fd
  f__law_chain : ∃ fd, FunD C.K "_law_chain" "_law_chain" (defArgs Hd.s__law_chain) (defBody Hd.s__law_chain) (defScope Hd.s__law_chain) [] [] (He.ga C.K "_law_chain") fd
  g_sum_of_text : C.mg "sum_of_text" = some (.ref (He.ga C.K "sum_of_text"))
  g__law_event : C.mg "_law_event" = some (.ref (He.ga C.K "_law_event"))
  g_text_of_bound : C.mg "text_of_bound" = some (.ref (He.ga C.K "text_of_bound"))
  g__law_draw : C.mg "_law_draw" = some (.ref (He.ga C.K "_law_draw"))
  g_short_digest : C.mg "short_digest" = some (.ref (He.ga C.K "short_digest"))
  g_one_line_net : C.mg "one_line_net" = some (.ref (He.ga C.K "one_line_net"))
  g_first_apart : C.mg "first_apart" = some (.ref (He.ga C.K "first_apart"))
  g__law_leads : C.mg "_law_leads" = some (.ref (He.ga C.K "_law_leads"))
  g_digest_of_text : C.mg "digest_of_text" = some (.ref (He.ga C.K "digest_of_text"))
  g_chain_digests : C.mg "chain_digests" = some (.ref (He.ga C.K "chain_digests"))
  g_is_continued : C.mg "is_continued" = some (.ref (He.ga C.K "is_continued"))
  g_event_text : C.mg "event_text" = some (.ref (He.ga C.K "event_text"))
  g__law_state : C.mg "_law_state" = some (.ref (He.ga C.K "_law_state"))
  g_digest_of : C.mg "digest_of" = some (.ref (He.ga C.K "digest_of"))
  g__law_refused : C.mg "_law_refused" = some (.ref (He.ga C.K "_law_refused"))
  g_format_net : C.mg "format_net" = some (.ref (He.ga C.K "format_net"))
  g__law_truth : C.mg "_law_truth" = some (.ref (He.ga C.K "_law_truth"))
  g__law_sum : C.mg "_law_sum" = some (.ref (He.ga C.K "_law_sum"))
  g_law : C.mg "law" = some (.ref (He.ga C.K "law"))
  g_journal_line : C.mg "journal_line" = some (.ref (He.ga C.K "journal_line"))
  g__law_apart : C.mg "_law_apart" = some (.ref (He.ga C.K "_law_apart"))
  g_format_change : C.mg "format_change" = some (.ref (He.ga C.K "format_change"))
  g__law_paper : C.mg "_law_paper" = some (.ref (He.ga C.K "_law_paper"))
  g_line_paper : C.mg "line_paper" = some (.ref (He.ga C.K "line_paper"))
  g__law_join : C.mg "_law_join" = some (.ref (He.ga C.K "_law_join"))
  g__law_line : C.mg "_law_line" = some (.ref (He.ga C.K "_law_line"))
  g__law_digest : C.mg "_law_digest" = some (.ref (He.ga C.K "_law_digest"))
  g_join_digests : C.mg "join_digests" = some (.ref (He.ga C.K "join_digests"))
  g_digest_rows : C.mg "digest_rows" = some (.ref (He.ga C.K "digest_rows"))
  g_judge_line : C.mg "judge_line" = some (.ref (He.ga C.K "judge_line"))
  g__law_rows : C.mg "_law_rows" = some (.ref (He.ga C.K "_law_rows"))
  g__law_chain : C.mg "_law_chain" = some (.ref (He.ga C.K "_law_chain"))
  g_EbbError : C.mg "EbbError" = some (.ref (He.ga C.K "EbbError"))
  e_EbbError : ExcN C "EbbError"
  g_NotPossible : C.mg "NotPossible" = some (.ref (He.ga C.K "NotPossible"))
  e_NotPossible : ExcN C "NotPossible"
  n_ValueError : C.mg "ValueError" = none
  n_enumerate : C.mg "enumerate" = none
  n_int : C.mg "int" = none
  n_len : C.mg "len" = none
  n_list : C.mg "list" = none
  n_min : C.mg "min" = none
  n_range : C.mg "range" = none
  n_str : C.mg "str" = none
  n_tuple : C.mg "tuple" = none
  n_zip : C.mg "zip" = none
  i_MODULUS : ∃ t, C.mg "MODULUS" = some (.int (9973) t)
  i_PRIME : ∃ t, C.mg "PRIME" = some (.int (2305843009213693951) t)
  i_FACTOR : ∃ t, C.mg "FACTOR" = some (.int (1000003) t)
  s_SIGNS : ∃ t, C.mg "SIGNS" = some (.str " abcdefghijklmnopqrstuvwxyz0123456789.-;|" t)
  s_CODES : ∃ t, C.mg "CODES" = some (.str " abcdefghijklmnopqrstuvwxyz0123456789.-;|" t)
  t_KINDS : TabN C "KINDS" tb_KINDS
  t_WORDS : TabN C "WORDS" tb_WORDS
  h_NotPossible : ∀ y b, hit_NotPossible y = some b → ∀ a, C.mg y = some (.ref a) → PySem.W.exmOne C.K (.ref a) (.ref (He.ga C.K "NotPossible")) = some b
theorem bt_int : bootBuiltins ("int" : Str) = some (.type "int") := by kernel_rfl
theorem bt_len : bootBuiltins ("len" : Str) = some (.builtin "len") := by kernel_rfl
theorem bt_list : bootBuiltins ("list" : Str) = some (.type "list") := by kernel_rfl
theorem bt_min : bootBuiltins ("min" : Str) = some (.builtin "min") := by kernel_rfl
theorem bt_str : bootBuiltins ("str" : Str) = some (.type "str") := by kernel_rfl
theorem bt_tuple : bootBuiltins ("tuple" : Str) = some (.type "tuple") := by kernel_rfl
theorem sc_text_of_bound : FnScope ["bound"] ["bound"] (defScope Hd.s_text_of_bound) := C8.fnScope_by (by kernel_rfl)
theorem c_text_of_bound {C : Cst} (X : Ctx C) : Cal C 1 "text_of_bound" [.p (.vw 0)] (.vw 0) m_text_of_bound := by
  obtain ⟨fd, F⟩ := X.f_text_of_bound
  refine def_ok (k := 0) F sc_text_of_bound X.g_text_of_bound rfl (F.bindsN fun _ _ _ _ _ _ us hl => match us, hl with | [_], _ => rfl) fun W ds h => ?_
  match ds, h with
  | [bound'1], _ =>
    show BX _ W _ [.val (.vw 0) (bound'1)] _ _ (b_text_of_bound bound'1)
    unfold b_text_of_bound
    refine bx_retD ?_
    refine ed_ifexp ?_ ?_ ?_
    · refine td_cmp (ob_is (n := 0)) ?_ ?_
      · exact ed_name (i := 0) (k := .vw 0) ⟨rfl, .inl (by kernel_rfl), by decide, by decide⟩ rfl
      · exact ed_non
    · exact ed_str
    · refine ed_blty cd_str (by kernel_rfl) X.n_str bt_str (ad_cons (k := .vw 0) ?_ ad_nil)
      exact ed_name (i := 0) (k := .vw 0) ⟨rfl, .inl (by kernel_rfl), by decide, by decide⟩ rfl
theorem sc_sum_of_text : FnScope ["text", "found", "sign"] ["text"] (defScope Hd.s_sum_of_text) := C8.fnScope_by (by kernel_rfl)
theorem c_sum_of_text {C : Cst} (X : Ctx C) : Cal C 1 "sum_of_text" [.p (.vw 0)] (.vw 0) m_sum_of_text := by
  obtain ⟨fd, F⟩ := X.f_sum_of_text
  refine def_ok (k := 0) F sc_sum_of_text X.g_sum_of_text rfl (F.bindsN fun _ _ _ _ _ _ us hl => match us, hl with | [_], _ => rfl) fun W ds h => ?_
  match ds, h with
  | [text'1], _ =>
    show BX _ W _ [.val (.vw 0) (text'1), .any, .any] _ _ (b_sum_of_text text'1)
    unfold b_sum_of_text
    refine bx_seq (sx_set (i := 1) (k := .vw 0) ⟨rfl, .inl (by kernel_rfl), .inl rfl⟩ rfl ?_) fun found'2 => ?_
    · exact ed_int
    refine bx_seq (sx_for (J := fun (s'4 : D) => [.val (.vw 0) (text'1), .val (.vw 0) (s'4), .any]) ?_ (gd_name (i := 2) ⟨rfl, .inl (by kernel_rfl), .inl rfl⟩) (fun s'4 sign'5 => ?_) (.same (.same (.same .nil)))) fun s'21 => ?_
    · refine id_any ?_
      exact ed_name (i := 0) (k := .vw 0) ⟨rfl, .inl (by kernel_rfl), by decide, by decide⟩ rfl
    · refine bx_seq (sx_set (i := 1) (k := .vw 0) ⟨rfl, .inl (by kernel_rfl), .inl rfl⟩ rfl ?_) fun found'17 => ?_
      · refine ed_bin od_mod ?_ ?_
        · refine ed_bin od_addA ?_ ?_
          · refine ED.up ?_
            refine ed_bin od_addA ?_ ?_
            · refine ED.up ?_
              refine ed_bin od_mul ?_ ?_
              · exact ed_int
              · exact ed_name (i := 1) (k := .vw 0) ⟨rfl, .inl (by kernel_rfl), by decide, by decide⟩ rfl
            · refine ED.up ?_
              refine ed_m1 md_find PySem.F.slot_str_find PySem.F.type_str_find ?_ ?_
              · exact ed_gstr (by kernel_rfl) X.s_SIGNS
              · exact ed_name (i := 2) (k := .vw 0) ⟨rfl, .inl (by kernel_rfl), by decide, by decide⟩ rfl
          · refine ED.up ?_
            exact ed_int
        · exact ed_gint (by kernel_rfl) X.i_MODULUS
      exact bx_nil rfl (.same (.same (.any .nil)))
    · refine bx_retD ?_
      exact ed_name (i := 1) (k := .vw 0) ⟨rfl, .inl (by kernel_rfl), by decide, by decide⟩ rfl
theorem sc_digest_of_text : FnScope ["text", "found", "sign"] ["text"] (defScope Hd.s_digest_of_text) := C8.fnScope_by (by kernel_rfl)
theorem c_digest_of_text {C : Cst} (X : Ctx C) : Cal C 1 "digest_of_text" [.p (.vw 0)] (.vw 0) m_digest_of_text := by
  obtain ⟨fd, F⟩ := X.f_digest_of_text
  refine def_ok (k := 0) F sc_digest_of_text X.g_digest_of_text rfl (F.bindsN fun _ _ _ _ _ _ us hl => match us, hl with | [_], _ => rfl) fun W ds h => ?_
  match ds, h with
  | [text'1], _ =>
    show BX _ W _ [.val (.vw 0) (text'1), .any, .any] _ _ (b_digest_of_text text'1)
    unfold b_digest_of_text
    refine bx_seq (sx_set (i := 1) (k := .vw 0) ⟨rfl, .inl (by kernel_rfl), .inl rfl⟩ rfl ?_) fun found'2 => ?_
    · exact ed_int
    refine bx_seq (sx_for (J := fun (s'4 : D) => [.val (.vw 0) (text'1), .val (.vw 0) (s'4), .any]) ?_ (gd_name (i := 2) ⟨rfl, .inl (by kernel_rfl), .inl rfl⟩) (fun s'4 sign'5 => ?_) (.same (.same (.same .nil)))) fun s'21 => ?_
    · refine id_any ?_
      exact ed_name (i := 0) (k := .vw 0) ⟨rfl, .inl (by kernel_rfl), by decide, by decide⟩ rfl
    · refine bx_seq (sx_set (i := 1) (k := .vw 0) ⟨rfl, .inl (by kernel_rfl), .inl rfl⟩ rfl ?_) fun found'17 => ?_
      · refine ed_bin od_mod ?_ ?_
        · refine ed_bin od_addA ?_ ?_
          · refine ED.up ?_
            refine ed_bin od_addA ?_ ?_
            · refine ED.up ?_
              refine ed_bin od_mul ?_ ?_
              · exact ed_gint (by kernel_rfl) X.i_FACTOR
              · exact ed_name (i := 1) (k := .vw 0) ⟨rfl, .inl (by kernel_rfl), by decide, by decide⟩ rfl
            · refine ED.up ?_
              refine ed_m1 md_find PySem.F.slot_str_find PySem.F.type_str_find ?_ ?_
              · exact ed_gstr (by kernel_rfl) X.s_CODES
              · exact ed_name (i := 2) (k := .vw 0) ⟨rfl, .inl (by kernel_rfl), by decide, by decide⟩ rfl
          · refine ED.up ?_
            exact ed_int
        · exact ed_gint (by kernel_rfl) X.i_PRIME
      exact bx_nil rfl (.same (.same (.any .nil)))
    · refine bx_retD ?_
      exact ed_name (i := 1) (k := .vw 0) ⟨rfl, .inl (by kernel_rfl), by decide, by decide⟩ rfl
theorem sc_join_digests : FnScope ["one", "other"] ["one", "other"] (defScope Hd.s_join_digests) := C8.fnScope_by (by kernel_rfl)
theorem c_join_digests {C : Cst} (X : Ctx C) : Cal C 1 "join_digests" [.p (.vw 0), .p (.vw 0)] (.vw 0) m_join_digests := by
  obtain ⟨fd, F⟩ := X.f_join_digests
  refine def_ok (k := 0) F sc_join_digests X.g_join_digests rfl (F.bindsN fun _ _ _ _ _ _ us hl => match us, hl with | [_, _], _ => rfl) fun W ds h => ?_
  match ds, h with
  | [one'1, other'2], _ =>
    show BX _ W _ [.val (.vw 0) (one'1), .val (.vw 0) (other'2)] _ _ (b_join_digests one'1 other'2)
    unfold b_join_digests
    refine bx_retD ?_
    refine ed_bin od_mod ?_ ?_
    · refine ed_bin od_addA ?_ ?_
      · refine ED.up ?_
        refine ed_bin od_addA ?_ ?_
        · refine ED.up ?_
          refine ed_bin od_mul ?_ ?_
          · refine ed_bin od_addA ?_ ?_
            · refine ED.up ?_
              refine ed_bin od_mul ?_ ?_
              · exact ed_name (i := 0) (k := .vw 0) ⟨rfl, .inl (by kernel_rfl), by decide, by decide⟩ rfl
              · exact ed_gint (by kernel_rfl) X.i_FACTOR
            · refine ED.up ?_
              exact ed_int
          · refine ed_bin od_addA ?_ ?_
            · refine ED.up ?_
              refine ed_bin od_mul ?_ ?_
              · exact ed_name (i := 0) (k := .vw 0) ⟨rfl, .inl (by kernel_rfl), by decide, by decide⟩ rfl
              · exact ed_gint (by kernel_rfl) X.i_FACTOR
            · refine ED.up ?_
              exact ed_int
        · refine ED.up ?_
          refine ed_bin od_mul ?_ ?_
          · exact ed_name (i := 1) (k := .vw 0) ⟨rfl, .inl (by kernel_rfl), by decide, by decide⟩ rfl
          · exact ed_int
      · refine ED.up ?_
        exact ed_int
    · exact ed_gint (by kernel_rfl) X.i_PRIME
theorem sc_short_digest : FnScope ["digest", "signs", "found", "_"] ["digest"] (defScope Hd.s_short_digest) := C8.fnScope_by (by kernel_rfl)
theorem c_short_digest {C : Cst} (X : Ctx C) : Cal C 1 "short_digest" [.p (.vw 0)] (.vw 0) m_short_digest := by
  obtain ⟨fd, F⟩ := X.f_short_digest
  refine def_ok (k := 0) F sc_short_digest X.g_short_digest rfl (F.bindsN fun _ _ _ _ _ _ us hl => match us, hl with | [_], _ => rfl) fun W ds h => ?_
  match ds, h with
  | [digest'1], _ =>
    show BX _ W _ [.val (.vw 0) (digest'1), .any, .any, .any] _ _ (b_short_digest digest'1)
    unfold b_short_digest
    refine bx_seq (sx_set (i := 1) (k := .vw 0) ⟨rfl, .inl (by kernel_rfl), .inl rfl⟩ rfl ?_) fun signs'2 => ?_
    · exact ed_str
    refine bx_seq (sx_set (i := 2) (k := .vw 0) ⟨rfl, .inl (by kernel_rfl), .inl rfl⟩ rfl ?_) fun found'3 => ?_
    · exact ed_str
    refine bx_seq (sx_for (J := fun (s'5 : D × D) => [.val (.vw 0) (s'5.1), .val (.vw 0) (signs'2), .val (.vw 0) (s'5.2), .any]) ?_ (gd_name (i := 3) ⟨rfl, .inl (by kernel_rfl), .inl rfl⟩) (fun s'5 u'6 => ?_) (.same (.same (.same (.same .nil))))) fun s'19 => ?_
    · refine id_range1 (by kernel_rfl) X.n_range (ad_cons (k := .vw 0) ?_ ad_nil)
      exact ed_int
    · refine bx_seq (sx_set (i := 2) (k := .vw 0) ⟨rfl, .inl (by kernel_rfl), .inl rfl⟩ rfl ?_) fun found'13 => ?_
      · refine ed_bin od_addA ?_ ?_
        · refine ED.up ?_
          refine ed_ix (n := 0) ?_ ?_
          · exact ed_name (i := 1) (k := .vw 0) ⟨rfl, .inl (by kernel_rfl), by decide, by decide⟩ rfl
          · refine ed_bin od_mod ?_ ?_
            · exact ed_name (i := 0) (k := .vw 0) ⟨rfl, .inl (by kernel_rfl), by decide, by decide⟩ rfl
            · exact ed_int
        · refine ED.up ?_
          exact ed_name (i := 2) (k := .vw 0) ⟨rfl, .inl (by kernel_rfl), by decide, by decide⟩ rfl
      refine bx_seq (sx_aug (i := 0) ⟨rfl, .inl (by kernel_rfl), .inl rfl⟩ rfl ipd_fdiv ?_) fun digest'14 => ?_
      · exact ed_int
      exact bx_nil rfl (.same (.same (.same (.any .nil))))
    · refine bx_retD ?_
      exact ed_name (i := 2) (k := .vw 0) ⟨rfl, .inl (by kernel_rfl), by decide, by decide⟩ rfl
theorem sc__law_state : FnScope ["script"] ["script"] (defScope Hd.s__law_state) := C8.fnScope_by (by kernel_rfl)
theorem c__law_state {C : Cst} (X : Ctx C) : Cal C 1 "_law_state" [.p (.vw 0)] (.ow 1) m__law_state := by
  obtain ⟨fd, F⟩ := X.f__law_state
  refine def_ok (k := 0) F sc__law_state X.g__law_state rfl (F.bindsN fun _ _ _ _ _ _ us hl => match us, hl with | [_], _ => rfl) fun W ds h => ?_
  match ds, h with
  | [script'1], _ =>
    show BX _ W _ [.val (.vw 0) (script'1)] _ _ (b__law_state script'1)
    unfold b__law_state
    refine bx_retD ?_
    refine ed_lst (ad_cons (k := .vw 0) ?_ (ad_cons (k := .vw 0) ?_ (ad_cons (k := .vw 0) ?_ (ad_cons (k := .vw 0) ?_ (ad_cons (k := .vw 0) ?_ (ad_cons (k := .vw 0) ?_ ad_nil))))))
    · refine ED.fr (n := 1) ?_
      refine ed_blty cd_list (by kernel_rfl) X.n_list bt_list (ad_cons (k := .vw 1) ?_ ad_nil)
      refine ED.up ?_
      exact ed_name (i := 0) (k := .vw 0) ⟨rfl, .inl (by kernel_rfl), by decide, by decide⟩ rfl
    · exact ed_int
    · exact ed_int
    · exact ed_int
    · exact ed_bl
    · exact ed_int
theorem sc__law_draw : FnScope ["state", "limit", "cell", "digit", "mixed"] ["state", "limit"] (defScope Hd.s__law_draw) := C8.fnScope_by (by kernel_rfl)
theorem c__law_draw {C : Cst} (X : Ctx C) : Cal C 1 "_law_draw" [.am, .p (.vw 0)] (.vw 0) m__law_draw := by
  obtain ⟨fd, F⟩ := X.f__law_draw
  refine def_ok (k := 0) F sc__law_draw X.g__law_draw rfl (F.bindsN fun _ _ _ _ _ _ us hl => match us, hl with | [_, _], _ => rfl) fun W ds h => ?_
  match ds, h with
  | [state'1, limit'2], _ =>
    show BX _ W _ [.am, .val (.vw 0) (limit'2), .any, .any, .any] _ _ (b__law_draw limit'2)
    unfold b__law_draw
    refine bx_seqE (J := fun (j'60 : Unit) => [.am, .val (.vw 0) (limit'2), .any, .any, .any]) (g := fun d => d) (sx_if ?_ ?_ ?_) (fun _ => rfl) fun j'60 => ?_
    · refine td_cmp (ob_eq (n := 0) (m := 0)) ?_ ?_
      · refine ed_amix (i := 0) ⟨rfl, .inl (by kernel_rfl), by decide, by decide⟩ rfl ?_
        exact ed_int
      · exact ed_int
    · refine bx_ifT (i1 := Out.rt) (g := fun d => (.rt d : Er (Unit))) ?_ ?_ ?_ (by intro _ _ h; cases h) fun _ => rfl
      · refine td_cmp ob_ge ?_ ?_
        · refine ed_amix (i := 0) ⟨rfl, .inl (by kernel_rfl), by decide, by decide⟩ rfl ?_
          exact ed_int
        · refine ed_blt (cd_len (n := 0)) (by kernel_rfl) X.n_len bt_len (ad_cons (k := .vw 0) ?_ ad_nil)
          refine ed_amix (i := 0) ⟨rfl, .inl (by kernel_rfl), by decide, by decide⟩ rfl ?_
          exact ed_int
      · refine bx_retD ?_
        exact ed_int
      · refine bx_seq (sx_set (i := 2) (k := .vw 0) ⟨rfl, .inl (by kernel_rfl), .inl rfl⟩ rfl ?_) fun cell'20 => ?_
        · refine ed_ix (n := 0) ?_ ?_
          · refine ed_amix (i := 0) ⟨rfl, .inl (by kernel_rfl), by decide, by decide⟩ rfl ?_
            exact ed_int
          · refine ed_amix (i := 0) ⟨rfl, .inl (by kernel_rfl), by decide, by decide⟩ rfl ?_
            exact ed_int
        refine bx_seq (J := fun (j'27 : D) => [.am, .val (.vw 0) (limit'2), .val (.vw 0) (j'27), .any, .any]) (sx_if ?_ ?_ ?_) fun j'27 => ?_
        · refine td_cmp ob_lt ?_ ?_
          · exact ed_name (i := 2) (k := .vw 0) ⟨rfl, .inl (by kernel_rfl), by decide, by decide⟩ rfl
          · exact ed_int
        · refine bx_seq (sx_set (i := 2) (k := .vw 0) ⟨rfl, .inl (by kernel_rfl), .inl rfl⟩ rfl ?_) fun cell'26 => ?_
          · refine ed_bin od_sub ?_ ?_
            · refine ed_neg ?_
              exact ed_int
            · exact ed_name (i := 2) (k := .vw 0) ⟨rfl, .inl (by kernel_rfl), by decide, by decide⟩ rfl
          exact bx_nil rfl (.same (.same (.same (.same (.same .nil)))))
        · exact bx_nil rfl (.same (.same (.same (.same (.same .nil)))))
        · refine bx_seq (sx_amset (i := 0) ⟨rfl, .inl (by kernel_rfl), by decide, by decide⟩ rfl ?_ ?_) fun _ => ?_
          · refine ed_bin od_addA ?_ ?_
            · refine ED.up ?_
              refine ed_amix (i := 0) ⟨rfl, .inl (by kernel_rfl), by decide, by decide⟩ rfl ?_
              exact ed_int
            · refine ED.up ?_
              exact ed_int
          · exact ed_int
          refine bx_seq (sx_amset (i := 0) ⟨rfl, .inl (by kernel_rfl), by decide, by decide⟩ rfl ?_ ?_) fun _ => ?_
          · exact ed_name (i := 2) (k := .vw 0) ⟨rfl, .inl (by kernel_rfl), by decide, by decide⟩ rfl
          · exact ed_int
          refine bx_seq (sx_amset (i := 0) ⟨rfl, .inl (by kernel_rfl), by decide, by decide⟩ rfl ?_ ?_) fun _ => ?_
          · refine ed_cmp ob_ge ?_ ?_
            · exact ed_name (i := 2) (k := .vw 0) ⟨rfl, .inl (by kernel_rfl), by decide, by decide⟩ rfl
            · refine ed_bin od_pow ?_ ?_
              · exact ed_int
              · exact ed_int
          · exact ed_int
          refine bx_seq (sx_amset (i := 0) ⟨rfl, .inl (by kernel_rfl), by decide, by decide⟩ rfl ?_ ?_) fun _ => ?_
          · exact ed_int
          · exact ed_int
          refine bx_one (sx_if ?_ ?_ ?_)
          · refine td_val (n := 0) ?_
            refine ed_amix (i := 0) ⟨rfl, .inl (by kernel_rfl), by decide, by decide⟩ rfl ?_
            exact ed_int
          · refine bx_seq (sx_amset (i := 0) ⟨rfl, .inl (by kernel_rfl), by decide, by decide⟩ rfl ?_ ?_) fun _ => ?_
            · exact ed_int
            · exact ed_int
            exact bx_nil rfl (.same (.same (.any (.same (.same .nil)))))
          · exact bx_nil rfl (.same (.same (.any (.same (.same .nil)))))
    · exact bx_nil rfl (.same (.same (.same (.same (.same .nil)))))
    · refine bx_seq (sx_amset (i := 0) ⟨rfl, .inl (by kernel_rfl), by decide, by decide⟩ rfl ?_ ?_) fun _ => ?_
      · refine ed_bin od_sub ?_ ?_
        · refine ed_amix (i := 0) ⟨rfl, .inl (by kernel_rfl), by decide, by decide⟩ rfl ?_
          exact ed_int
        · exact ed_int
      · exact ed_int
      refine bx_ifD ?_ ?_ ?_
      · refine td_val (n := 0) ?_
        refine ed_amix (i := 0) ⟨rfl, .inl (by kernel_rfl), by decide, by decide⟩ rfl ?_
        exact ed_int
      · refine bx_seq (sx_set (i := 3) (k := .vw 0) ⟨rfl, .inl (by kernel_rfl), .inl rfl⟩ rfl ?_) fun digit'73 => ?_
        · refine ed_bin od_mod ?_ ?_
          · refine ed_blty cd_int (by kernel_rfl) X.n_int bt_int (ad_cons (k := .vw 0) ?_ ad_nil)
            refine ed_amix (i := 0) ⟨rfl, .inl (by kernel_rfl), by decide, by decide⟩ rfl ?_
            exact ed_int
          · exact ed_name (i := 1) (k := .vw 0) ⟨rfl, .inl (by kernel_rfl), by decide, by decide⟩ rfl
        refine bx_seq (sx_amset (i := 0) ⟨rfl, .inl (by kernel_rfl), by decide, by decide⟩ rfl ?_ ?_) fun _ => ?_
        · refine ed_bin od_fdiv ?_ ?_
          · refine ed_amix (i := 0) ⟨rfl, .inl (by kernel_rfl), by decide, by decide⟩ rfl ?_
            exact ed_int
          · exact ed_name (i := 1) (k := .vw 0) ⟨rfl, .inl (by kernel_rfl), by decide, by decide⟩ rfl
        · exact ed_int
        refine bx_seq (J := fun (j'86 : Unit) => [.am, .val (.vw 0) (limit'2), .any, .val (.vw 0) (digit'73), .any]) (sx_if ?_ ?_ ?_) fun j'86 => ?_
        · refine td_cmp (ob_eq (n := 0) (m := 0)) ?_ ?_
          · refine ed_amix (i := 0) ⟨rfl, .inl (by kernel_rfl), by decide, by decide⟩ rfl ?_
            exact ed_int
          · exact ed_int
        · refine bx_seq (sx_amset (i := 0) ⟨rfl, .inl (by kernel_rfl), by decide, by decide⟩ rfl ?_ ?_) fun _ => ?_
          · exact ed_int
          · exact ed_int
          exact bx_nil rfl (.same (.same (.same (.same (.same .nil)))))
        · exact bx_nil rfl (.same (.same (.same (.same (.same .nil)))))
        · refine bx_retD ?_
          exact ed_name (i := 3) (k := .vw 0) ⟨rfl, .inl (by kernel_rfl), by decide, by decide⟩ rfl
      · refine bx_seq (sx_set (i := 4) (k := .vw 0) ⟨rfl, .inl (by kernel_rfl), .inl rfl⟩ rfl ?_) fun mixed'106 => ?_
        · refine ed_bin od_mod ?_ ?_
          · refine ed_blty cd_int (by kernel_rfl) X.n_int bt_int (ad_cons (k := .vw 0) ?_ ad_nil)
            refine ed_bin od_addA ?_ ?_
            · refine ED.up ?_
              refine ed_bin od_addA ?_ ?_
              · refine ED.up ?_
                refine ed_bin od_mul ?_ ?_
                · refine ed_amix (i := 0) ⟨rfl, .inl (by kernel_rfl), by decide, by decide⟩ rfl ?_
                  exact ed_int
                · exact ed_int
              · refine ED.up ?_
                refine ed_bin od_mul ?_ ?_
                · refine ed_amix (i := 0) ⟨rfl, .inl (by kernel_rfl), by decide, by decide⟩ rfl ?_
                  exact ed_int
                · exact ed_int
            · refine ED.up ?_
              exact ed_int
          · exact ed_int
        refine bx_seq (sx_set (i := 4) (k := .vw 0) ⟨rfl, .inl (by kernel_rfl), .inl rfl⟩ rfl ?_) fun mixed'122 => ?_
        · refine ed_bin od_mod ?_ ?_
          · refine ed_blty cd_int (by kernel_rfl) X.n_int bt_int (ad_cons (k := .vw 0) ?_ ad_nil)
            refine ed_bin od_addA ?_ ?_
            · refine ED.up ?_
              refine ed_bin od_addA ?_ ?_
              · refine ED.up ?_
                refine ed_bin od_mul ?_ ?_
                · exact ed_name (i := 4) (k := .vw 0) ⟨rfl, .inl (by kernel_rfl), by decide, by decide⟩ rfl
                · exact ed_name (i := 4) (k := .vw 0) ⟨rfl, .inl (by kernel_rfl), by decide, by decide⟩ rfl
              · refine ED.up ?_
                refine ed_bin od_mul ?_ ?_
                · refine ed_amix (i := 0) ⟨rfl, .inl (by kernel_rfl), by decide, by decide⟩ rfl ?_
                  exact ed_int
                · exact ed_int
            · refine ED.up ?_
              refine ed_amix (i := 0) ⟨rfl, .inl (by kernel_rfl), by decide, by decide⟩ rfl ?_
              exact ed_int
          · exact ed_int
        refine bx_retD ?_
        refine ed_bin od_mod ?_ ?_
        · refine ed_blty cd_int (by kernel_rfl) X.n_int bt_int (ad_cons (k := .vw 0) ?_ ad_nil)
          exact ed_name (i := 4) (k := .vw 0) ⟨rfl, .inl (by kernel_rfl), by decide, by decide⟩ rfl
        · exact ed_name (i := 1) (k := .vw 0) ⟨rfl, .inl (by kernel_rfl), by decide, by decide⟩ rfl
theorem sc__law_truth : FnScope ["told", "due"] ["told", "due"] (defScope Hd.s__law_truth) := C8.fnScope_by (by kernel_rfl)
theorem c__law_truth {C : Cst} (X : Ctx C) : Cal C 1 "_law_truth" [.p (.vw 0), .p (.vw 0)] (.vw 0) m__law_truth := by
  obtain ⟨fd, F⟩ := X.f__law_truth
  refine def_ok (k := 0) F sc__law_truth X.g__law_truth rfl (F.bindsN fun _ _ _ _ _ _ us hl => match us, hl with | [_, _], _ => rfl) fun W ds h => ?_
  match ds, h with
  | [told'1, due'2], _ =>
    show BX _ W _ [.val (.vw 0) (told'1), .val (.vw 0) (due'2)] _ _ (b__law_truth told'1 due'2)
    unfold b__law_truth
    refine bx_ifD ?_ ?_ ?_
    · refine td_val (n := 0) ?_
      exact ed_name (i := 1) (k := .vw 0) ⟨rfl, .inl (by kernel_rfl), by decide, by decide⟩ rfl
    · refine bx_retD ?_
      refine ed_cmp (ob_is (n := 0)) ?_ ?_
      · exact ed_name (i := 0) (k := .vw 0) ⟨rfl, .inl (by kernel_rfl), by decide, by decide⟩ rfl
      · exact ed_bl
    · refine bx_retD ?_
      refine ed_cmp (ob_is (n := 0)) ?_ ?_
      · exact ed_name (i := 0) (k := .vw 0) ⟨rfl, .inl (by kernel_rfl), by decide, by decide⟩ rfl
      · exact ed_bl
theorem sc__law_sum : FnScope ["text", "first", "factor", "modulus", "signs", "found", "sign"] ["text", "first", "factor", "modulus"] (defScope Hd.s__law_sum) := C8.fnScope_by (by kernel_rfl)
theorem c__law_sum {C : Cst} (X : Ctx C) : Cal C 1 "_law_sum" [.p (.vw 0), .p (.vw 0), .p (.vw 0), .p (.vw 0)] (.vw 0) m__law_sum := by
  obtain ⟨fd, F⟩ := X.f__law_sum
  refine def_ok (k := 0) F sc__law_sum X.g__law_sum rfl (F.bindsN fun _ _ _ _ _ _ us hl => match us, hl with | [_, _, _, _], _ => rfl) fun W ds h => ?_
  match ds, h with
  | [text'1, first'2, factor'3, modulus'4], _ =>
    show BX _ W _ [.val (.vw 0) (text'1), .val (.vw 0) (first'2), .val (.vw 0) (factor'3), .val (.vw 0) (modulus'4), .any, .any, .any] _ _ (b__law_sum text'1 first'2 factor'3 modulus'4)
    unfold b__law_sum
    refine bx_seq (sx_set (i := 4) (k := .vw 0) ⟨rfl, .inl (by kernel_rfl), .inl rfl⟩ rfl ?_) fun signs'5 => ?_
    · exact ed_str
    refine bx_seq (sx_set (i := 5) (k := .vw 0) ⟨rfl, .inl (by kernel_rfl), .inl rfl⟩ rfl ?_) fun found'6 => ?_
    · exact ed_name (i := 1) (k := .vw 0) ⟨rfl, .inl (by kernel_rfl), by decide, by decide⟩ rfl
    refine bx_seq (sx_for (J := fun (s'8 : D) => [.val (.vw 0) (text'1), .val (.vw 0) (first'2), .val (.vw 0) (factor'3), .val (.vw 0) (modulus'4), .val (.vw 0) (signs'5), .val (.vw 0) (s'8), .any]) ?_ (gd_name (i := 6) ⟨rfl, .inl (by kernel_rfl), .inl rfl⟩) (fun s'8 sign'9 => ?_) (.same (.same (.same (.same (.same (.same (.same .nil)))))))) fun s'26 => ?_
    · refine id_any ?_
      exact ed_name (i := 0) (k := .vw 0) ⟨rfl, .inl (by kernel_rfl), by decide, by decide⟩ rfl
    · refine bx_seq (sx_set (i := 5) (k := .vw 0) ⟨rfl, .inl (by kernel_rfl), .inl rfl⟩ rfl ?_) fun found'22 => ?_
      · refine ed_bin od_mod ?_ ?_
        · refine ed_blty cd_int (by kernel_rfl) X.n_int bt_int (ad_cons (k := .vw 0) ?_ ad_nil)
          refine ed_bin od_addA ?_ ?_
          · refine ED.up ?_
            refine ed_bin od_addA ?_ ?_
            · refine ED.up ?_
              refine ed_bin od_mul ?_ ?_
              · exact ed_name (i := 5) (k := .vw 0) ⟨rfl, .inl (by kernel_rfl), by decide, by decide⟩ rfl
              · exact ed_name (i := 2) (k := .vw 0) ⟨rfl, .inl (by kernel_rfl), by decide, by decide⟩ rfl
            · refine ED.up ?_
              refine ed_m1 md_sindex PySem.F.slot_str_index PySem.F.type_str_index ?_ ?_
              · exact ed_name (i := 4) (k := .vw 0) ⟨rfl, .inl (by kernel_rfl), by decide, by decide⟩ rfl
              · exact ed_name (i := 6) (k := .vw 0) ⟨rfl, .inl (by kernel_rfl), by decide, by decide⟩ rfl
          · refine ED.up ?_
            exact ed_int
        · exact ed_name (i := 3) (k := .vw 0) ⟨rfl, .inl (by kernel_rfl), by decide, by decide⟩ rfl
      exact bx_nil rfl (.same (.same (.same (.same (.same (.same (.any .nil)))))))
    · refine bx_retD ?_
      exact ed_name (i := 5) (k := .vw 0) ⟨rfl, .inl (by kernel_rfl), by decide, by decide⟩ rfl
theorem sc__law_join : FnScope ["one", "other", "part"] ["one", "other"] (defScope Hd.s__law_join) := C8.fnScope_by (by kernel_rfl)
theorem c__law_join {C : Cst} (X : Ctx C) : Cal C 1 "_law_join" [.p (.vw 0), .p (.vw 0)] (.vw 0) m__law_join := by
  obtain ⟨fd, F⟩ := X.f__law_join
  refine def_ok (k := 0) F sc__law_join X.g__law_join rfl (F.bindsN fun _ _ _ _ _ _ us hl => match us, hl with | [_, _], _ => rfl) fun W ds h => ?_
  match ds, h with
  | [one'1, other'2], _ =>
    show BX _ W _ [.val (.vw 0) (one'1), .val (.vw 0) (other'2), .any] _ _ (b__law_join one'1 other'2)
    unfold b__law_join
    refine bx_seq (sx_set (i := 2) (k := .vw 0) ⟨rfl, .inl (by kernel_rfl), .inl rfl⟩ rfl ?_) fun part'7 => ?_
    · refine ed_bin od_addA ?_ ?_
      · refine ED.up ?_
        refine ed_bin od_mul ?_ ?_
        · exact ed_name (i := 0) (k := .vw 0) ⟨rfl, .inl (by kernel_rfl), by decide, by decide⟩ rfl
        · exact ed_int
      · refine ED.up ?_
        exact ed_int
    refine bx_retD ?_
    refine ed_bin od_mod ?_ ?_
    · refine ed_blty cd_int (by kernel_rfl) X.n_int bt_int (ad_cons (k := .vw 0) ?_ ad_nil)
      refine ed_bin od_addA ?_ ?_
      · refine ED.up ?_
        refine ed_bin od_addA ?_ ?_
        · refine ED.up ?_
          refine ed_bin od_mul ?_ ?_
          · exact ed_name (i := 2) (k := .vw 0) ⟨rfl, .inl (by kernel_rfl), by decide, by decide⟩ rfl
          · exact ed_name (i := 2) (k := .vw 0) ⟨rfl, .inl (by kernel_rfl), by decide, by decide⟩ rfl
        · refine ED.up ?_
          refine ed_bin od_mul ?_ ?_
          · exact ed_name (i := 1) (k := .vw 0) ⟨rfl, .inl (by kernel_rfl), by decide, by decide⟩ rfl
          · exact ed_int
      · refine ED.up ?_
        exact ed_int
    · exact ed_int
theorem sc__law_paper : FnScope ["rows", "place", "found", "at", "row"] ["rows", "place"] (defScope Hd.s__law_paper) := C8.fnScope_by (by kernel_rfl)
theorem c__law_paper {C : Cst} (X : Ctx C) : Cal C 1 "_law_paper" [.p (.vw 0), .p (.vw 0)] (.vw 0) m__law_paper := by
  obtain ⟨fd, F⟩ := X.f__law_paper
  refine def_ok (k := 0) F sc__law_paper X.g__law_paper rfl (F.bindsN fun _ _ _ _ _ _ us hl => match us, hl with | [_, _], _ => rfl) fun W ds h => ?_
  match ds, h with
  | [rows'1, place'2], _ =>
    show BX _ W _ [.val (.vw 0) (rows'1), .val (.vw 0) (place'2), .any, .any, .any] _ _ (b__law_paper rows'1 place'2)
    unfold b__law_paper
    refine bx_seq (sx_set (i := 2) (k := .ow 1) ⟨rfl, .inl (by kernel_rfl), .inl rfl⟩ rfl ?_) fun d'3 => ?_
    · exact ed_lst ad_nil
    refine bx_ow (i := 2) rfl fun found'4 => ?_
    refine bx_seq (sx_set (i := 3) (k := .vw 0) ⟨rfl, .inl (by kernel_rfl), .inl rfl⟩ rfl ?_) fun at'5 => ?_
    · exact ed_name (i := 1) (k := .vw 0) ⟨rfl, .inl (by kernel_rfl), by decide, by decide⟩ rfl
    refine bx_seq (sx_for (J := fun (s'12 : List D × D) => [.val (.vw 0) (rows'1), .val (.vw 0) (place'2), .val (.ow 1) (.list (s'12.1)), .val (.vw 0) (s'12.2), .any]) ?_ (gd_name (i := 4) ⟨rfl, .inl (by kernel_rfl), .inl rfl⟩) (fun s'12 row'13 => ?_) (.same (.same (.same (.same (.same .nil)))))) fun s'47 => ?_
    · refine id_any ?_
      refine ed_slice ?_ pd_none (pd_some ?_)
      · refine ED.up ?_
        exact ed_name (i := 0) (k := .vw 0) ⟨rfl, .inl (by kernel_rfl), by decide, by decide⟩ rfl
      · refine ed_neg ?_
        exact ed_int
    · refine bx_seq (J := fun (j'40 : List D) => [.val (.vw 0) (rows'1), .val (.vw 0) (place'2), .val (.ow 1) (.list (j'40)), .val (.vw 0) (s'12.2), .val (.vw 0) (row'13)]) (sx_if ?_ ?_ ?_) fun j'40 => ?_
      · refine td_cmp (ob_eq (n := 0) (m := 0)) ?_ ?_
        · refine ed_bin od_mod ?_ ?_
          · refine ed_blty cd_int (by kernel_rfl) X.n_int bt_int (ad_cons (k := .vw 0) ?_ ad_nil)
            exact ed_name (i := 3) (k := .vw 0) ⟨rfl, .inl (by kernel_rfl), by decide, by decide⟩ rfl
          · exact ed_int
        · exact ed_int
      · refine bx_seq (sx_app (i := 2) ⟨rfl, .inl (by kernel_rfl), by decide, by decide⟩ rfl ?_) fun found'25 => ?_
        · refine ed_tup (ad_cons (k := .vw 0) ?_ (ad_cons (k := .vw 0) ?_ ad_nil))
          · exact ed_str
          · refine ed_ix (n := 0) ?_ ?_
            · exact ed_name (i := 4) (k := .vw 0) ⟨rfl, .inl (by kernel_rfl), by decide, by decide⟩ rfl
            · refine ed_bin od_sub ?_ ?_
              · exact ed_name (i := 3) (k := .vw 0) ⟨rfl, .inl (by kernel_rfl), by decide, by decide⟩ rfl
              · exact ed_int
        exact bx_nil rfl (.same (.same (.same (.same (.same .nil)))))
      · refine bx_one (sx_if ?_ ?_ ?_)
        · refine td_cmp ob_lt ?_ ?_
          · refine ed_bin od_addA ?_ ?_
            · refine ED.up ?_
              exact ed_name (i := 3) (k := .vw 0) ⟨rfl, .inl (by kernel_rfl), by decide, by decide⟩ rfl
            · refine ED.up ?_
              exact ed_int
          · refine ed_blt (cd_len (n := 0)) (by kernel_rfl) X.n_len bt_len (ad_cons (k := .vw 0) ?_ ad_nil)
            exact ed_name (i := 4) (k := .vw 0) ⟨rfl, .inl (by kernel_rfl), by decide, by decide⟩ rfl
        · refine bx_seq (sx_app (i := 2) ⟨rfl, .inl (by kernel_rfl), by decide, by decide⟩ rfl ?_) fun found'38 => ?_
          · refine ed_tup (ad_cons (k := .vw 0) ?_ (ad_cons (k := .vw 0) ?_ ad_nil))
            · exact ed_str
            · refine ed_ix (n := 0) ?_ ?_
              · exact ed_name (i := 4) (k := .vw 0) ⟨rfl, .inl (by kernel_rfl), by decide, by decide⟩ rfl
              · refine ed_bin od_addA ?_ ?_
                · refine ED.up ?_
                  exact ed_name (i := 3) (k := .vw 0) ⟨rfl, .inl (by kernel_rfl), by decide, by decide⟩ rfl
                · refine ED.up ?_
                  exact ed_int
          exact bx_nil rfl (.same (.same (.same (.same (.same .nil)))))
        · exact bx_nil rfl (.same (.same (.same (.same (.same .nil)))))
      · refine bx_seq (sx_set (i := 3) (k := .vw 0) ⟨rfl, .inl (by kernel_rfl), .inl rfl⟩ rfl ?_) fun at'43 => ?_
        · refine ed_bin od_fdiv ?_ ?_
          · exact ed_name (i := 3) (k := .vw 0) ⟨rfl, .inl (by kernel_rfl), by decide, by decide⟩ rfl
          · exact ed_int
        exact bx_nil rfl (.same (.same (.same (.same (.any .nil)))))
    · refine bx_retD ?_
      refine ed_blty cd_tuple (by kernel_rfl) X.n_tuple bt_tuple (ad_cons (k := .vw 1) ?_ ad_nil)
      exact ed_name (i := 2) (k := .ow 1) ⟨rfl, .inl (by kernel_rfl), by decide, by decide⟩ rfl
theorem sc_format_net : FnScope ["net", "lines", "name", "supply", "tail", "head", "low", "high", "price"] ["net"] (defScope Hd.s_format_net) := C8.fnScope_by (by kernel_rfl)
theorem c_format_net {C : Cst} (X : Ctx C) : Cal C 2 "format_net" [.p (.vw 0)] (.vw 0) m_format_net := by
  obtain ⟨fd, F⟩ := X.f_format_net
  refine def_ok (k := 1) F sc_format_net X.g_format_net rfl (F.bindsN fun _ _ _ _ _ _ us hl => match us, hl with | [_], _ => rfl) fun W ds h => ?_
  match ds, h with
  | [net'], _ =>
    show BX _ W _ [.val (.vw 0) (net'), .any, .any, .any, .any, .any, .any, .any, .any] _ _ (b_format_net net')
    unfold b_format_net
    exact bx_bad
theorem sc_format_change : FnScope ["change", "words", "kind", "part"] ["change"] (defScope Hd.s_format_change) := C8.fnScope_by (by kernel_rfl)
theorem c_format_change {C : Cst} (X : Ctx C) : Cal C 2 "format_change" [.p (.vw 0)] (.vw 0) m_format_change := by
  obtain ⟨fd, F⟩ := X.f_format_change
  refine def_ok (k := 1) F sc_format_change X.g_format_change rfl (F.bindsN fun _ _ _ _ _ _ us hl => match us, hl with | [_], _ => rfl) fun W ds h => ?_
  match ds, h with
  | [change'1], _ =>
    show BX _ W _ [.val (.vw 0) (change'1), .any, .any, .any] _ _ (b_format_change change'1)
    unfold b_format_change
    refine bx_seq (sx_set (i := 1) (k := .ow 1) ⟨rfl, .inl (by kernel_rfl), .inl rfl⟩ rfl ?_) fun d'6 => ?_
    · refine ed_lst (ad_cons (k := .vw 0) ?_ ad_nil)
      refine ed_dget (by kernel_rfl) X.t_WORDS ?_
      refine ed_ix (n := 0) ?_ ?_
      · exact ed_name (i := 0) (k := .vw 0) ⟨rfl, .inl (by kernel_rfl), by decide, by decide⟩ rfl
      · exact ed_int
    refine bx_ow (i := 1) rfl fun words'7 => ?_
    refine bx_seq (sx_for (J := fun (s'17 : List D) => [.val (.vw 0) (change'1), .val (.ow 1) (.list (s'17)), .any, .any]) ?_ (gd_tup2 (i1 := 2) (i2 := 3) ⟨rfl, .inl (by kernel_rfl), .inl rfl⟩ ⟨rfl, .inl (by kernel_rfl), .inl rfl⟩) (fun s'17 t'18 => ?_) (.same (.same (.same (.same .nil))))) fun s'27 => ?_
    · refine id_zip2 (by kernel_rfl) X.n_zip (ad_cons (k := .vw 0) ?_ (ad_cons (k := .vw 0) ?_ ad_nil))
      · refine ed_dget (by kernel_rfl) X.t_KINDS ?_
        refine ed_ix (n := 0) ?_ ?_
        · exact ed_name (i := 0) (k := .vw 0) ⟨rfl, .inl (by kernel_rfl), by decide, by decide⟩ rfl
        · exact ed_int
      · refine ed_slice ?_ (pd_some ?_) pd_none
        · refine ED.up ?_
          exact ed_name (i := 0) (k := .vw 0) ⟨rfl, .inl (by kernel_rfl), by decide, by decide⟩ rfl
        · exact ed_int
    · refine bx_seq (sx_app (i := 1) ⟨rfl, .inl (by kernel_rfl), by decide, by decide⟩ rfl ?_) fun words'22 => ?_
      · refine ed_ifexp ?_ ?_ ?_
        · refine td_cmp (ob_eq (n := 0) (m := 0)) ?_ ?_
          · exact ed_name (i := 2) (k := .vw 0) ⟨rfl, .inl (by kernel_rfl), by decide, by decide⟩ rfl
          · exact ed_str
        · exact ed_name (i := 3) (k := .vw 0) ⟨rfl, .inl (by kernel_rfl), by decide, by decide⟩ rfl
        · refine ed_call (c_text_of_bound X) (Nat.le_of_ble_eq_true rfl) (by kernel_rfl) (ad_cons (k := .vw 0) ?_ ad_nil)
          exact ed_name (i := 3) (k := .vw 0) ⟨rfl, .inl (by kernel_rfl), by decide, by decide⟩ rfl
      exact bx_nil rfl (.same (.same (.any (.any .nil))))
    · refine bx_retD ?_
      refine ed_m1 md_join PySem.F.slot_str_join PySem.F.type_str_join ?_ ?_
      · exact ed_str
      · exact ed_name (i := 1) (k := .ow 1) ⟨rfl, .inl (by kernel_rfl), by decide, by decide⟩ rfl
theorem sc__law_event : FnScope ["state", "kind", "word", "number"] ["state"] (defScope Hd.s__law_event) := C8.fnScope_by (by kernel_rfl)
theorem c__law_event {C : Cst} (X : Ctx C) : Cal C 2 "_law_event" [.am] (.vw 0) m__law_event := by
  obtain ⟨fd, F⟩ := X.f__law_event
  refine def_ok (k := 1) F sc__law_event X.g__law_event rfl (F.bindsN fun _ _ _ _ _ _ us hl => match us, hl with | [_], _ => rfl) fun W ds h => ?_
  match ds, h with
  | [state'1], _ =>
    show BX _ W _ [.am, .any, .any, .any] _ _ (b__law_event )
    unfold b__law_event
    refine bx_seq (sx_set (i := 1) (k := .vw 0) ⟨rfl, .inl (by kernel_rfl), .inl rfl⟩ rfl ?_) fun kind'3 => ?_
    · refine ed_call (c__law_draw X) (Nat.le_of_ble_eq_true rfl) (by kernel_rfl) (ad_am (i := 0) ⟨rfl, .inl (by kernel_rfl), by decide, by decide⟩ rfl (ad_cons (k := .vw 0) ?_ ad_nil))
      exact ed_int
    refine bx_ifD ?_ ?_ ?_
    · refine td_cmp (ob_eq (n := 0) (m := 0)) ?_ ?_
      · exact ed_name (i := 1) (k := .vw 0) ⟨rfl, .inl (by kernel_rfl), by decide, by decide⟩ rfl
      · exact ed_int
    · refine bx_retD ?_
      refine ED.fr (n := 1) ?_
      refine ed_lst (ad_cons (k := .vw 0) ?_ (ad_cons (k := .vw 0) ?_ ad_nil))
      · refine ed_tup (ad_cons (k := .vw 0) ?_ ad_nil)
        exact ed_str
      · exact ed_str
    · refine bx_ifD ?_ ?_ ?_
      · refine td_cmp (ob_eq (n := 0) (m := 0)) ?_ ?_
        · exact ed_name (i := 1) (k := .vw 0) ⟨rfl, .inl (by kernel_rfl), by decide, by decide⟩ rfl
        · exact ed_int
      · refine bx_retD ?_
        refine ED.fr (n := 1) ?_
        refine ed_lst (ad_cons (k := .vw 0) ?_ (ad_cons (k := .vw 0) ?_ ad_nil))
        · refine ed_tup (ad_cons (k := .vw 0) ?_ ad_nil)
          exact ed_str
        · exact ed_str
      · refine bx_ifD ?_ ?_ ?_
        · refine td_cmp (ob_eq (n := 0) (m := 0)) ?_ ?_
          · exact ed_name (i := 1) (k := .vw 0) ⟨rfl, .inl (by kernel_rfl), by decide, by decide⟩ rfl
          · exact ed_int
        · refine bx_seq (sx_set (i := 2) (k := .vw 0) ⟨rfl, .inl (by kernel_rfl), .inl rfl⟩ rfl ?_) fun word'23 => ?_
          · refine ed_bin od_addA ?_ ?_
            · refine ED.up ?_
              refine ed_ix (n := 0) ?_ ?_
              · exact ed_str
              · refine ed_call (c__law_draw X) (Nat.le_of_ble_eq_true rfl) (by kernel_rfl) (ad_am (i := 0) ⟨rfl, .inl (by kernel_rfl), by decide, by decide⟩ rfl (ad_cons (k := .vw 0) ?_ ad_nil))
                exact ed_int
            · refine ED.up ?_
              refine ed_blty cd_str (by kernel_rfl) X.n_str bt_str (ad_cons (k := .vw 0) ?_ ad_nil)
              refine ed_call (c__law_draw X) (Nat.le_of_ble_eq_true rfl) (by kernel_rfl) (ad_am (i := 0) ⟨rfl, .inl (by kernel_rfl), by decide, by decide⟩ rfl (ad_cons (k := .vw 0) ?_ ad_nil))
              exact ed_int
          refine bx_retD ?_
          refine ED.fr (n := 1) ?_
          refine ed_lst (ad_cons (k := .vw 0) ?_ (ad_cons (k := .vw 0) ?_ ad_nil))
          · refine ed_tup (ad_cons (k := .vw 0) ?_ (ad_cons (k := .vw 0) ?_ ad_nil))
            · exact ed_str
            · exact ed_name (i := 2) (k := .vw 0) ⟨rfl, .inl (by kernel_rfl), by decide, by decide⟩ rfl
          · refine ed_bin od_addA ?_ ?_
            · refine ED.up ?_
              exact ed_str
            · refine ED.up ?_
              exact ed_name (i := 2) (k := .vw 0) ⟨rfl, .inl (by kernel_rfl), by decide, by decide⟩ rfl
        · refine bx_ifD ?_ ?_ ?_
          · refine td_cmp (ob_eq (n := 0) (m := 0)) ?_ ?_
            · exact ed_name (i := 1) (k := .vw 0) ⟨rfl, .inl (by kernel_rfl), by decide, by decide⟩ rfl
            · exact ed_int
          · refine bx_seq (sx_set (i := 3) (k := .vw 0) ⟨rfl, .inl (by kernel_rfl), .inl rfl⟩ rfl ?_) fun number'35 => ?_
            · refine ed_bin od_sub ?_ ?_
              · refine ed_call (c__law_draw X) (Nat.le_of_ble_eq_true rfl) (by kernel_rfl) (ad_am (i := 0) ⟨rfl, .inl (by kernel_rfl), by decide, by decide⟩ rfl (ad_cons (k := .vw 0) ?_ ad_nil))
                exact ed_int
              · exact ed_int
            refine bx_retD ?_
            refine ed_ix (n := 0) ?_ ?_
            · refine ED.fr (n := 1) ?_
              refine ed_lst (ad_cons (k := .vw 0) ?_ (ad_cons (k := .vw 0) ?_ ad_nil))
              · refine ED.fr (n := 1) ?_
                refine ed_lst (ad_cons (k := .vw 0) ?_ (ad_cons (k := .vw 0) ?_ ad_nil))
                · refine ed_tup (ad_cons (k := .vw 0) ?_ (ad_cons (k := .vw 0) ?_ ad_nil))
                  · exact ed_str
                  · exact ed_name (i := 3) (k := .vw 0) ⟨rfl, .inl (by kernel_rfl), by decide, by decide⟩ rfl
                · refine ed_bin od_addA ?_ ?_
                  · refine ED.up ?_
                    exact ed_str
                  · refine ED.up ?_
                    refine ed_blty cd_str (by kernel_rfl) X.n_str bt_str (ad_cons (k := .vw 0) ?_ ad_nil)
                    exact ed_name (i := 3) (k := .vw 0) ⟨rfl, .inl (by kernel_rfl), by decide, by decide⟩ rfl
              · refine ED.fr (n := 1) ?_
                refine ed_lst (ad_cons (k := .vw 0) ?_ (ad_cons (k := .vw 0) ?_ ad_nil))
                · refine ed_tup (ad_cons (k := .vw 0) ?_ (ad_cons (k := .vw 0) ?_ ad_nil))
                  · exact ed_str
                  · exact ed_non
                · exact ed_str
            · refine ed_call (c__law_draw X) (Nat.le_of_ble_eq_true rfl) (by kernel_rfl) (ad_am (i := 0) ⟨rfl, .inl (by kernel_rfl), by decide, by decide⟩ rfl (ad_cons (k := .vw 0) ?_ ad_nil))
              exact ed_int
          · refine bx_ifD ?_ ?_ ?_
            · refine td_cmp (ob_eq (n := 0) (m := 0)) ?_ ?_
              · exact ed_name (i := 1) (k := .vw 0) ⟨rfl, .inl (by kernel_rfl), by decide, by decide⟩ rfl
              · exact ed_int
            · refine bx_seq (sx_set (i := 3) (k := .vw 0) ⟨rfl, .inl (by kernel_rfl), .inl rfl⟩ rfl ?_) fun number'57 => ?_
              · refine ed_bin od_sub ?_ ?_
                · refine ed_call (c__law_draw X) (Nat.le_of_ble_eq_true rfl) (by kernel_rfl) (ad_am (i := 0) ⟨rfl, .inl (by kernel_rfl), by decide, by decide⟩ rfl (ad_cons (k := .vw 0) ?_ ad_nil))
                  exact ed_int
                · exact ed_int
              refine bx_retD ?_
              refine ED.fr (n := 1) ?_
              refine ed_lst (ad_cons (k := .vw 0) ?_ (ad_cons (k := .vw 0) ?_ ad_nil))
              · refine ed_tup (ad_cons (k := .vw 0) ?_ (ad_cons (k := .vw 0) ?_ ad_nil))
                · exact ed_str
                · refine ed_tup (ad_cons (k := .vw 0) ?_ (ad_cons (k := .vw 0) ?_ (ad_cons (k := .vw 0) ?_ ad_nil)))
                  · exact ed_str
                  · exact ed_str
                  · exact ed_name (i := 3) (k := .vw 0) ⟨rfl, .inl (by kernel_rfl), by decide, by decide⟩ rfl
              · refine ed_bin od_addA ?_ ?_
                · refine ED.up ?_
                  exact ed_str
                · refine ED.up ?_
                  refine ed_blty cd_str (by kernel_rfl) X.n_str bt_str (ad_cons (k := .vw 0) ?_ ad_nil)
                  exact ed_name (i := 3) (k := .vw 0) ⟨rfl, .inl (by kernel_rfl), by decide, by decide⟩ rfl
            · refine bx_retD ?_
              refine ED.fr (n := 1) ?_
              refine ed_lst (ad_cons (k := .vw 0) ?_ (ad_cons (k := .vw 0) ?_ ad_nil))
              · refine ed_tup (ad_cons (k := .vw 0) ?_ (ad_cons (k := .vw 0) ?_ ad_nil))
                · exact ed_str
                · refine ed_tup (ad_cons (k := .vw 0) ?_ (ad_cons (k := .vw 0) ?_ (ad_cons (k := .vw 0) ?_ (ad_cons (k := .vw 0) ?_ ad_nil))))
                  · exact ed_str
                  · exact ed_str
                  · exact ed_int
                  · exact ed_non
              · exact ed_str
theorem sc__law_line : FnScope ["number", "text", "whole"] ["number", "text"] (defScope Hd.s__law_line) := C8.fnScope_by (by kernel_rfl)
theorem c__law_line {C : Cst} (X : Ctx C) : Cal C 2 "_law_line" [.p (.vw 0), .p (.vw 0)] (.vw 0) m__law_line := by
  obtain ⟨fd, F⟩ := X.f__law_line
  refine def_ok (k := 1) F sc__law_line X.g__law_line rfl (F.bindsN fun _ _ _ _ _ _ us hl => match us, hl with | [_, _], _ => rfl) fun W ds h => ?_
  match ds, h with
  | [number'1, text'2], _ =>
    show BX _ W _ [.val (.vw 0) (number'1), .val (.vw 0) (text'2), .any] _ _ (b__law_line number'1 text'2)
    unfold b__law_line
    refine bx_seq (sx_set (i := 2) (k := .vw 0) ⟨rfl, .inl (by kernel_rfl), .inl rfl⟩ rfl ?_) fun whole'8 => ?_
    · refine ed_bin od_addA ?_ ?_
      · refine ED.up ?_
        refine ed_bin od_addA ?_ ?_
        · refine ED.up ?_
          refine ed_blty cd_str (by kernel_rfl) X.n_str bt_str (ad_cons (k := .vw 0) ?_ ad_nil)
          exact ed_name (i := 0) (k := .vw 0) ⟨rfl, .inl (by kernel_rfl), by decide, by decide⟩ rfl
        · refine ED.up ?_
          exact ed_str
      · refine ED.up ?_
        exact ed_name (i := 1) (k := .vw 0) ⟨rfl, .inl (by kernel_rfl), by decide, by decide⟩ rfl
    refine bx_retD ?_
    refine ed_bin od_addA ?_ ?_
    · refine ED.up ?_
      refine ed_bin od_addA ?_ ?_
      · refine ED.up ?_
        refine ed_bin od_addA ?_ ?_
        · refine ED.up ?_
          refine ed_bin od_addA ?_ ?_
          · refine ED.up ?_
            refine ed_blty cd_str (by kernel_rfl) X.n_str bt_str (ad_cons (k := .vw 0) ?_ ad_nil)
            exact ed_name (i := 0) (k := .vw 0) ⟨rfl, .inl (by kernel_rfl), by decide, by decide⟩ rfl
          · refine ED.up ?_
            exact ed_str
        · refine ED.up ?_
          refine ed_blty cd_str (by kernel_rfl) X.n_str bt_str (ad_cons (k := .vw 0) ?_ ad_nil)
          refine ed_call (c__law_sum X) (Nat.le_of_ble_eq_true rfl) (by kernel_rfl) (ad_cons (k := .vw 0) ?_ (ad_cons (k := .vw 0) ?_ (ad_cons (k := .vw 0) ?_ (ad_cons (k := .vw 0) ?_ ad_nil))))
          · exact ed_name (i := 2) (k := .vw 0) ⟨rfl, .inl (by kernel_rfl), by decide, by decide⟩ rfl
          · exact ed_int
          · exact ed_int
          · exact ed_int
      · refine ED.up ?_
        exact ed_str
    · refine ED.up ?_
      exact ed_name (i := 1) (k := .vw 0) ⟨rfl, .inl (by kernel_rfl), by decide, by decide⟩ rfl
theorem sc__law_digest : FnScope ["text"] ["text"] (defScope Hd.s__law_digest) := C8.fnScope_by (by kernel_rfl)
theorem c__law_digest {C : Cst} (X : Ctx C) : Cal C 2 "_law_digest" [.p (.vw 0)] (.vw 0) m__law_digest := by
  obtain ⟨fd, F⟩ := X.f__law_digest
  refine def_ok (k := 1) F sc__law_digest X.g__law_digest rfl (F.bindsN fun _ _ _ _ _ _ us hl => match us, hl with | [_], _ => rfl) fun W ds h => ?_
  match ds, h with
  | [text'1], _ =>
    show BX _ W _ [.val (.vw 0) (text'1)] _ _ (b__law_digest text'1)
    unfold b__law_digest
    refine bx_retD ?_
    refine ed_call (c__law_sum X) (Nat.le_of_ble_eq_true rfl) (by kernel_rfl) (ad_cons (k := .vw 0) ?_ (ad_cons (k := .vw 0) ?_ (ad_cons (k := .vw 0) ?_ (ad_cons (k := .vw 0) ?_ ad_nil))))
    · exact ed_name (i := 0) (k := .vw 0) ⟨rfl, .inl (by kernel_rfl), by decide, by decide⟩ rfl
    · exact ed_int
    · exact ed_int
    · exact ed_int
theorem sc_one_line_net : FnScope ["net"] ["net"] (defScope Hd.s_one_line_net) := C8.fnScope_by (by kernel_rfl)
theorem c_one_line_net {C : Cst} (X : Ctx C) : Cal C 3 "one_line_net" [.p (.vw 0)] (.vw 0) m_one_line_net := by
  obtain ⟨fd, F⟩ := X.f_one_line_net
  refine def_ok (k := 2) F sc_one_line_net X.g_one_line_net rfl (F.bindsN fun _ _ _ _ _ _ us hl => match us, hl with | [_], _ => rfl) fun W ds h => ?_
  match ds, h with
  | [net'], _ =>
    show BX _ W _ [.val (.vw 0) (net')] _ _ (b_one_line_net net')
    unfold b_one_line_net
    exact bx_bad
theorem sc__law_rows : FnScope ["texts", "rows", "turn", "last", "made", "k"] ["texts"] (defScope Hd.s__law_rows) := C8.fnScope_by (by kernel_rfl)
theorem c__law_rows {C : Cst} (X : Ctx C) : Cal C 3 "_law_rows" [.p (.vw 0)] (.vw 0) m__law_rows := by
  obtain ⟨fd, F⟩ := X.f__law_rows
  refine def_ok (k := 2) F sc__law_rows X.g__law_rows rfl (F.bindsN fun _ _ _ _ _ _ us hl => match us, hl with | [_], _ => rfl) fun W ds h => ?_
  match ds, h with
  | [texts'1], _ =>
    show BX _ W _ [.val (.vw 0) (texts'1), .any, .any, .any, .any, .any] _ _ (b__law_rows texts'1)
    unfold b__law_rows
    refine bx_seq (sx_set (i := 1) (k := .ow 1) ⟨rfl, .inl (by kernel_rfl), .inl rfl⟩ rfl ?_) fun d'14 => ?_
    · refine ed_lst (ad_cons (k := .vw 0) ?_ ad_nil)
      refine ED.fr (n := 1) ?_
      refine ed_map (own := [("k", 5)]) ?_ (gd_name (i := 5) ⟨rfl, .inl (by kernel_rfl), .inr (by kernel_rfl)⟩) (fun k'4 => ?_) (by kernel_rfl) (by simp)
      · refine id_range1 (by kernel_rfl) X.n_range (ad_cons (k := .vw 0) ?_ ad_nil)
        refine ed_blt (cd_len (n := 0)) (by kernel_rfl) X.n_len bt_len (ad_cons (k := .vw 0) ?_ ad_nil)
        exact ed_name (i := 0) (k := .vw 0) ⟨rfl, .inr (.inl (by kernel_rfl)), by decide, by decide⟩ rfl
      · refine ed_call (c__law_digest X) (Nat.le_of_ble_eq_true rfl) (by kernel_rfl) (ad_cons (k := .vw 0) ?_ ad_nil)
        refine ed_call (c__law_line X) (Nat.le_of_ble_eq_true rfl) (by kernel_rfl) (ad_cons (k := .vw 0) ?_ (ad_cons (k := .vw 0) ?_ ad_nil))
        · exact ed_name (i := 5) (k := .vw 0) ⟨rfl, .inl (by kernel_rfl), by decide, by decide⟩ rfl
        · refine ed_ix (n := 0) ?_ ?_
          · exact ed_name (i := 0) (k := .vw 0) ⟨rfl, .inr (.inl (by kernel_rfl)), by decide, by decide⟩ rfl
          · exact ed_name (i := 5) (k := .vw 0) ⟨rfl, .inl (by kernel_rfl), by decide, by decide⟩ rfl
    refine bx_ow (i := 1) rfl fun rows'15 => ?_
    refine bx_seqE (g := fun d => d) (sx_forF (J := fun (s'17 : List D) => [.val (.vw 0) (texts'1), .val (.ow 1) (.list (s'17)), .any, .any, .any, .any]) ?_ (gd_name (i := 2) ⟨rfl, .inl (by kernel_rfl), .inl rfl⟩) (fun s'17 turn'18 => ?_) (.same (.same (.same (.same (.same (.same .nil))))))) (fun _ => rfl) fun s'72 => ?_
    · refine id_range1 (by kernel_rfl) X.n_range (ad_cons (k := .vw 0) ?_ ad_nil)
      exact ed_int
    · refine bx_seq (sx_set (i := 3) (k := .vw 0) ⟨rfl, .inr (by kernel_rfl), .inl rfl⟩ rfl ?_) fun last'24 => ?_
      · refine ed_ix (n := 1) ?_ ?_
        · exact ed_name (i := 1) (k := .ow 1) ⟨rfl, .inl (by kernel_rfl), by decide, by decide⟩ rfl
        · refine ed_bin od_sub ?_ ?_
          · refine ed_blt (cd_len (n := 1)) (by kernel_rfl) X.n_len bt_len (ad_cons (k := .vw 1) ?_ ad_nil)
            exact ed_name (i := 1) (k := .ow 1) ⟨rfl, .inl (by kernel_rfl), by decide, by decide⟩ rfl
          · exact ed_int
      refine bx_ifT (i1 := fun (b'67 : List D) => Out.bk [.val (.vw 0) (texts'1), .val (.ow 1) (.list (b'67)), .any, .any, .any, .any]) (g := fun d => (.bk d : Fl (List D))) ?_ ?_ ?_ (by intro _ _ h; cases h) fun _ => rfl
      · refine td_cmp ob_lt ?_ ?_
        · refine ed_blt (cd_len (n := 0)) (by kernel_rfl) X.n_len bt_len (ad_cons (k := .vw 0) ?_ ad_nil)
          exact ed_name (i := 3) (k := .vw 0) ⟨rfl, .inr (.inl (by kernel_rfl)), by decide, by decide⟩ rfl
        · exact ed_int
      · exact bx_brk rfl (.same (.same (.any (.any (.same (.same .nil))))))
      · refine bx_seq (sx_setA (i := 4) (k := .vw 0) ⟨rfl, .inl (by kernel_rfl), .inl rfl⟩ rfl ?_ (by kernel_rfl)) fun made'48 => ?_
        · refine EA.fr (n := 1) ?_
          refine ea_map (own := [("k", 5)]) ?_ (gd_name (i := 5) ⟨rfl, .inl (by kernel_rfl), .inr (by kernel_rfl)⟩) (fun k'32 => ?_) (by kernel_rfl) (by simp)
          · refine id_range1 (by kernel_rfl) X.n_range (ad_cons (k := .vw 0) ?_ ad_nil)
            refine ed_bin od_fdiv ?_ ?_
            · refine ed_blt (cd_len (n := 0)) (by kernel_rfl) X.n_len bt_len (ad_cons (k := .vw 0) ?_ ad_nil)
              exact ed_name (i := 3) (k := .vw 0) ⟨rfl, .inr (.inl (by kernel_rfl)), by decide, by decide⟩ rfl
            · exact ed_int
          · refine ed_call (c__law_join X) (Nat.le_of_ble_eq_true rfl) (by kernel_rfl) (ad_cons (k := .vw 0) ?_ (ad_cons (k := .vw 0) ?_ ad_nil))
            · refine ed_ix (n := 0) ?_ ?_
              · exact ed_name (i := 3) (k := .vw 0) ⟨rfl, .inr (.inl (by kernel_rfl)), by decide, by decide⟩ rfl
              · refine ed_bin od_mul ?_ ?_
                · exact ed_int
                · exact ed_name (i := 5) (k := .vw 0) ⟨rfl, .inl (by kernel_rfl), by decide, by decide⟩ rfl
            · refine ed_ix (n := 0) ?_ ?_
              · exact ed_name (i := 3) (k := .vw 0) ⟨rfl, .inr (.inl (by kernel_rfl)), by decide, by decide⟩ rfl
              · refine ed_bin od_addA ?_ ?_
                · refine ED.up ?_
                  refine ed_bin od_mul ?_ ?_
                  · exact ed_int
                  · exact ed_name (i := 5) (k := .vw 0) ⟨rfl, .inl (by kernel_rfl), by decide, by decide⟩ rfl
                · refine ED.up ?_
                  exact ed_int
        refine bx_seq (J := fun (j'64 : D) => [.val (.vw 0) (texts'1), .val (.ow 1) (.list (s'17)), .val (.vw 0) (turn'18), .val (.vw 0) (last'24), .val (.vw 0) (j'64), .any]) (sx_if ?_ ?_ ?_) fun j'64 => ?_
        · refine td_cmp (ob_eq (n := 0) (m := 0)) ?_ ?_
          · refine ed_bin od_mod ?_ ?_
            · refine ed_blty cd_int (by kernel_rfl) X.n_int bt_int (ad_cons (k := .vw 0) ?_ ad_nil)
              refine ed_blt (cd_len (n := 0)) (by kernel_rfl) X.n_len bt_len (ad_cons (k := .vw 0) ?_ ad_nil)
              exact ed_name (i := 3) (k := .vw 0) ⟨rfl, .inr (.inl (by kernel_rfl)), by decide, by decide⟩ rfl
            · exact ed_int
          · exact ed_int
        · refine bx_seq (sx_set (i := 4) (k := .vw 0) ⟨rfl, .inl (by kernel_rfl), .inl rfl⟩ rfl ?_) fun made'63 => ?_
          · refine ed_bin od_addA ?_ ?_
            · refine ED.up ?_
              exact ed_name (i := 4) (k := .vw 0) ⟨rfl, .inl (by kernel_rfl), by decide, by decide⟩ rfl
            · refine ED.see (k := .ow 1) ?_
              refine ed_lst (ad_cons (k := .vw 0) ?_ ad_nil)
              refine ed_ix (n := 0) ?_ ?_
              · exact ed_name (i := 3) (k := .vw 0) ⟨rfl, .inr (.inl (by kernel_rfl)), by decide, by decide⟩ rfl
              · refine ed_bin od_sub ?_ ?_
                · refine ed_blt (cd_len (n := 0)) (by kernel_rfl) X.n_len bt_len (ad_cons (k := .vw 0) ?_ ad_nil)
                  exact ed_name (i := 3) (k := .vw 0) ⟨rfl, .inr (.inl (by kernel_rfl)), by decide, by decide⟩ rfl
                · exact ed_int
          exact bx_nil rfl (.same (.same (.same (.same (.same (.same .nil))))))
        · exact bx_nil rfl (.same (.same (.same (.same (.same (.same .nil))))))
        · refine bx_seq (sx_app (i := 1) ⟨rfl, .inl (by kernel_rfl), by decide, by decide⟩ rfl ?_) fun rows'65 => ?_
          · exact ed_name (i := 4) (k := .vw 0) ⟨rfl, .inl (by kernel_rfl), by decide, by decide⟩ rfl
          exact bx_nil rfl (.same (.same (.any (.any (.any (.same .nil))))))
    · refine bx_fr (i := 1) rfl ?_
      refine bx_retD ?_
      exact ed_name (i := 1) (k := .vw 0) ⟨rfl, .inl (by kernel_rfl), by decide, by decide⟩ rfl
theorem sc__law_leads : FnScope ["digest", "place", "text", "paper", "found", "side", "other"] ["digest", "place", "text", "paper"] (defScope Hd.s__law_leads) := C8.fnScope_by (by kernel_rfl)
theorem c__law_leads {C : Cst} (X : Ctx C) : Cal C 3 "_law_leads" [.p (.vw 0), .p (.vw 0), .p (.vw 0), .p (.vw 0)] (.vw 0) m__law_leads := by
  obtain ⟨fd, F⟩ := X.f__law_leads
  refine def_ok (k := 2) F sc__law_leads X.g__law_leads rfl (F.bindsN fun _ _ _ _ _ _ us hl => match us, hl with | [_, _, _, _], _ => rfl) fun W ds h => ?_
  match ds, h with
  | [digest'1, place'2, text'3, paper'4], _ =>
    show BX _ W _ [.val (.vw 0) (digest'1), .val (.vw 0) (place'2), .val (.vw 0) (text'3), .val (.vw 0) (paper'4), .any, .any, .any] _ _ (b__law_leads digest'1 place'2 text'3 paper'4)
    unfold b__law_leads
    refine bx_seq (sx_set (i := 4) (k := .vw 0) ⟨rfl, .inl (by kernel_rfl), .inl rfl⟩ rfl ?_) fun found'8 => ?_
    · refine ed_call (c__law_digest X) (Nat.le_of_ble_eq_true rfl) (by kernel_rfl) (ad_cons (k := .vw 0) ?_ ad_nil)
      refine ed_call (c__law_line X) (Nat.le_of_ble_eq_true rfl) (by kernel_rfl) (ad_cons (k := .vw 0) ?_ (ad_cons (k := .vw 0) ?_ ad_nil))
      · exact ed_name (i := 1) (k := .vw 0) ⟨rfl, .inl (by kernel_rfl), by decide, by decide⟩ rfl
      · exact ed_name (i := 2) (k := .vw 0) ⟨rfl, .inl (by kernel_rfl), by decide, by decide⟩ rfl
    refine bx_seq (sx_for (J := fun (s'10 : D) => [.val (.vw 0) (digest'1), .val (.vw 0) (place'2), .val (.vw 0) (text'3), .val (.vw 0) (paper'4), .val (.vw 0) (s'10), .any, .any]) ?_ (gd_tup2 (i1 := 5) (i2 := 6) ⟨rfl, .inl (by kernel_rfl), .inl rfl⟩ ⟨rfl, .inl (by kernel_rfl), .inl rfl⟩) (fun s'10 t'11 => ?_) (.same (.same (.same (.same (.same (.same (.same .nil)))))))) fun s'23 => ?_
    · refine id_any ?_
      exact ed_name (i := 3) (k := .vw 0) ⟨rfl, .inl (by kernel_rfl), by decide, by decide⟩ rfl
    · refine bx_one (sx_if ?_ ?_ ?_)
      · refine td_cmp (ob_eq (n := 0) (m := 0)) ?_ ?_
        · exact ed_name (i := 5) (k := .vw 0) ⟨rfl, .inl (by kernel_rfl), by decide, by decide⟩ rfl
        · exact ed_str
      · refine bx_seq (sx_set (i := 4) (k := .vw 0) ⟨rfl, .inl (by kernel_rfl), .inl rfl⟩ rfl ?_) fun found'16 => ?_
        · refine ed_call (c__law_join X) (Nat.le_of_ble_eq_true rfl) (by kernel_rfl) (ad_cons (k := .vw 0) ?_ (ad_cons (k := .vw 0) ?_ ad_nil))
          · exact ed_name (i := 6) (k := .vw 0) ⟨rfl, .inl (by kernel_rfl), by decide, by decide⟩ rfl
          · exact ed_name (i := 4) (k := .vw 0) ⟨rfl, .inl (by kernel_rfl), by decide, by decide⟩ rfl
        exact bx_nil rfl (.same (.same (.same (.same (.same (.any (.any .nil)))))))
      · refine bx_seq (sx_set (i := 4) (k := .vw 0) ⟨rfl, .inl (by kernel_rfl), .inl rfl⟩ rfl ?_) fun found'19 => ?_
        · refine ed_call (c__law_join X) (Nat.le_of_ble_eq_true rfl) (by kernel_rfl) (ad_cons (k := .vw 0) ?_ (ad_cons (k := .vw 0) ?_ ad_nil))
          · exact ed_name (i := 4) (k := .vw 0) ⟨rfl, .inl (by kernel_rfl), by decide, by decide⟩ rfl
          · exact ed_name (i := 6) (k := .vw 0) ⟨rfl, .inl (by kernel_rfl), by decide, by decide⟩ rfl
        exact bx_nil rfl (.same (.same (.same (.same (.same (.any (.any .nil)))))))
    · refine bx_retD ?_
      refine ed_cmp (ob_eq (n := 0) (m := 0)) ?_ ?_
      · exact ed_name (i := 4) (k := .vw 0) ⟨rfl, .inl (by kernel_rfl), by decide, by decide⟩ rfl
      · exact ed_name (i := 0) (k := .vw 0) ⟨rfl, .inl (by kernel_rfl), by decide, by decide⟩ rfl
theorem sc__law_chain : FnScope ["texts", "found", "k"] ["texts"] (defScope Hd.s__law_chain) := C8.fnScope_by (by kernel_rfl)
theorem c__law_chain {C : Cst} (X : Ctx C) : Cal C 3 "_law_chain" [.p (.vw 0)] (.vw 0) m__law_chain := by
  obtain ⟨fd, F⟩ := X.f__law_chain
  refine def_ok (k := 2) F sc__law_chain X.g__law_chain rfl (F.bindsN fun _ _ _ _ _ _ us hl => match us, hl with | [_], _ => rfl) fun W ds h => ?_
  match ds, h with
  | [texts'1], _ =>
    show BX _ W _ [.val (.vw 0) (texts'1), .any, .any] _ _ (b__law_chain texts'1)
    unfold b__law_chain
    refine bx_seq (sx_set (i := 1) (k := .ow 1) ⟨rfl, .inl (by kernel_rfl), .inl rfl⟩ rfl ?_) fun d'3 => ?_
    · refine ed_lst (ad_cons (k := .vw 0) ?_ ad_nil)
      exact ed_int
    refine bx_ow (i := 1) rfl fun found'4 => ?_
    refine bx_seq (sx_for (J := fun (s'7 : List D) => [.val (.vw 0) (texts'1), .val (.ow 1) (.list (s'7)), .any]) ?_ (gd_name (i := 2) ⟨rfl, .inl (by kernel_rfl), .inl rfl⟩) (fun s'7 k'8 => ?_) (.same (.same (.same .nil)))) fun s'23 => ?_
    · refine id_range1 (by kernel_rfl) X.n_range (ad_cons (k := .vw 0) ?_ ad_nil)
      refine ed_blt (cd_len (n := 0)) (by kernel_rfl) X.n_len bt_len (ad_cons (k := .vw 0) ?_ ad_nil)
      exact ed_name (i := 0) (k := .vw 0) ⟨rfl, .inl (by kernel_rfl), by decide, by decide⟩ rfl
    · refine bx_seq (sx_app (i := 1) ⟨rfl, .inl (by kernel_rfl), by decide, by decide⟩ rfl ?_) fun found'18 => ?_
      · refine ed_call (c__law_join X) (Nat.le_of_ble_eq_true rfl) (by kernel_rfl) (ad_cons (k := .vw 0) ?_ (ad_cons (k := .vw 0) ?_ ad_nil))
        · refine ed_ix (n := 1) ?_ ?_
          · exact ed_name (i := 1) (k := .ow 1) ⟨rfl, .inl (by kernel_rfl), by decide, by decide⟩ rfl
          · exact ed_name (i := 2) (k := .vw 0) ⟨rfl, .inl (by kernel_rfl), by decide, by decide⟩ rfl
        · refine ed_call (c__law_digest X) (Nat.le_of_ble_eq_true rfl) (by kernel_rfl) (ad_cons (k := .vw 0) ?_ ad_nil)
          refine ed_call (c__law_line X) (Nat.le_of_ble_eq_true rfl) (by kernel_rfl) (ad_cons (k := .vw 0) ?_ (ad_cons (k := .vw 0) ?_ ad_nil))
          · exact ed_name (i := 2) (k := .vw 0) ⟨rfl, .inl (by kernel_rfl), by decide, by decide⟩ rfl
          · refine ed_ix (n := 0) ?_ ?_
            · exact ed_name (i := 0) (k := .vw 0) ⟨rfl, .inl (by kernel_rfl), by decide, by decide⟩ rfl
            · exact ed_name (i := 2) (k := .vw 0) ⟨rfl, .inl (by kernel_rfl), by decide, by decide⟩ rfl
      exact bx_nil rfl (.same (.same (.any .nil)))
    · refine bx_fr (i := 1) rfl ?_
      refine bx_retD ?_
      exact ed_name (i := 1) (k := .vw 0) ⟨rfl, .inl (by kernel_rfl), by decide, by decide⟩ rfl
theorem sc_event_text : FnScope ["event"] ["event"] (defScope Hd.s_event_text) := C8.fnScope_by (by kernel_rfl)
theorem c_event_text {C : Cst} (X : Ctx C) : Cal C 4 "event_text" [.p (.vw 0)] (.vw 0) m_event_text := by
  obtain ⟨fd, F⟩ := X.f_event_text
  refine def_ok (k := 3) F sc_event_text X.g_event_text rfl (F.bindsN fun _ _ _ _ _ _ us hl => match us, hl with | [_], _ => rfl) fun W ds h => ?_
  match ds, h with
  | [event'1], _ =>
    show BX _ W _ [.val (.vw 0) (event'1)] _ _ (b_event_text event'1)
    unfold b_event_text
    refine bx_ifD ?_ ?_ ?_
    · refine td_cmp (ob_eq (n := 0) (m := 0)) ?_ ?_
      · refine ed_ix (n := 0) ?_ ?_
        · exact ed_name (i := 0) (k := .vw 0) ⟨rfl, .inl (by kernel_rfl), by decide, by decide⟩ rfl
        · exact ed_int
      · exact ed_str
    · refine bx_retD ?_
      refine ed_bin od_addA ?_ ?_
      · refine ED.up ?_
        exact ed_str
      · refine ED.up ?_
        refine ed_call (c_one_line_net X) (Nat.le_of_ble_eq_true rfl) (by kernel_rfl) (ad_cons (k := .vw 0) ?_ ad_nil)
        refine ed_ix (n := 0) ?_ ?_
        · exact ed_name (i := 0) (k := .vw 0) ⟨rfl, .inl (by kernel_rfl), by decide, by decide⟩ rfl
        · exact ed_int
    · refine bx_ifD ?_ ?_ ?_
      · refine td_cmp (ob_eq (n := 0) (m := 0)) ?_ ?_
        · refine ed_ix (n := 0) ?_ ?_
          · exact ed_name (i := 0) (k := .vw 0) ⟨rfl, .inl (by kernel_rfl), by decide, by decide⟩ rfl
          · exact ed_int
        · exact ed_str
      · refine bx_retD ?_
        refine ed_bin od_addA ?_ ?_
        · refine ED.up ?_
          exact ed_str
        · refine ED.up ?_
          refine ed_call (c_format_change X) (Nat.le_of_ble_eq_true rfl) (by kernel_rfl) (ad_cons (k := .vw 0) ?_ ad_nil)
          refine ed_ix (n := 0) ?_ ?_
          · exact ed_name (i := 0) (k := .vw 0) ⟨rfl, .inl (by kernel_rfl), by decide, by decide⟩ rfl
          · exact ed_int
      · refine bx_ifD ?_ ?_ ?_
        · refine td_cmp (ob_eq (n := 0) (m := 0)) ?_ ?_
          · refine ed_ix (n := 0) ?_ ?_
            · exact ed_name (i := 0) (k := .vw 0) ⟨rfl, .inl (by kernel_rfl), by decide, by decide⟩ rfl
            · exact ed_int
          · exact ed_str
        · refine bx_retD ?_
          refine ed_bin od_addA ?_ ?_
          · refine ED.up ?_
            exact ed_str
          · refine ED.up ?_
            refine ed_ix (n := 0) ?_ ?_
            · exact ed_name (i := 0) (k := .vw 0) ⟨rfl, .inl (by kernel_rfl), by decide, by decide⟩ rfl
            · exact ed_int
        · refine bx_ifD ?_ ?_ ?_
          · refine td_cmp (ob_eq (n := 0) (m := 0)) ?_ ?_
            · refine ed_ix (n := 0) ?_ ?_
              · exact ed_name (i := 0) (k := .vw 0) ⟨rfl, .inl (by kernel_rfl), by decide, by decide⟩ rfl
              · exact ed_int
            · exact ed_str
          · refine bx_retD ?_
            refine ed_bin od_addA ?_ ?_
            · refine ED.up ?_
              exact ed_str
            · refine ED.up ?_
              refine ed_ifexp ?_ ?_ ?_
              · refine td_cmp (ob_is (n := 0)) ?_ ?_
                · refine ed_ix (n := 0) ?_ ?_
                  · exact ed_name (i := 0) (k := .vw 0) ⟨rfl, .inl (by kernel_rfl), by decide, by decide⟩ rfl
                  · exact ed_int
                · exact ed_non
              · exact ed_str
              · refine ed_blty cd_str (by kernel_rfl) X.n_str bt_str (ad_cons (k := .vw 0) ?_ ad_nil)
                refine ed_ix (n := 0) ?_ ?_
                · exact ed_name (i := 0) (k := .vw 0) ⟨rfl, .inl (by kernel_rfl), by decide, by decide⟩ rfl
                · exact ed_int
          · refine bx_retD ?_
            refine ed_ix (n := 0) ?_ ?_
            · exact ed_name (i := 0) (k := .vw 0) ⟨rfl, .inl (by kernel_rfl), by decide, by decide⟩ rfl
            · exact ed_int
theorem sc__law_apart : FnScope ["one", "other", "first", "second", "low", "high", "turn", "middle"] ["one", "other"] (defScope Hd.s__law_apart) := C8.fnScope_by (by kernel_rfl)
theorem c__law_apart {C : Cst} (X : Ctx C) : Cal C 4 "_law_apart" [.p (.vw 0), .p (.vw 0)] (.vw 0) m__law_apart := by
  obtain ⟨fd, F⟩ := X.f__law_apart
  refine def_ok (k := 3) F sc__law_apart X.g__law_apart rfl (F.bindsN fun _ _ _ _ _ _ us hl => match us, hl with | [_, _], _ => rfl) fun W ds h => ?_
  match ds, h with
  | [one'1, other'2], _ =>
    show BX _ W _ [.val (.vw 0) (one'1), .val (.vw 0) (other'2), .any, .any, .any, .any, .any, .any] _ _ (b__law_apart one'1 other'2)
    unfold b__law_apart
    refine bx_seq (sx_set (i := 2) (k := .vw 0) ⟨rfl, .inl (by kernel_rfl), .inl rfl⟩ rfl ?_) fun first'4 => ?_
    · refine ed_call (c__law_chain X) (Nat.le_of_ble_eq_true rfl) (by kernel_rfl) (ad_cons (k := .vw 0) ?_ ad_nil)
      exact ed_name (i := 0) (k := .vw 0) ⟨rfl, .inl (by kernel_rfl), by decide, by decide⟩ rfl
    refine bx_seq (sx_set (i := 3) (k := .vw 0) ⟨rfl, .inl (by kernel_rfl), .inl rfl⟩ rfl ?_) fun second'6 => ?_
    · refine ed_call (c__law_chain X) (Nat.le_of_ble_eq_true rfl) (by kernel_rfl) (ad_cons (k := .vw 0) ?_ ad_nil)
      exact ed_name (i := 1) (k := .vw 0) ⟨rfl, .inl (by kernel_rfl), by decide, by decide⟩ rfl
    refine bx_seq (sx_set (i := 4) (k := .vw 0) ⟨rfl, .inl (by kernel_rfl), .inl rfl⟩ rfl ?_) fun low'7 => ?_
    · exact ed_int
    refine bx_seq (sx_set (i := 5) (k := .vw 0) ⟨rfl, .inl (by kernel_rfl), .inl rfl⟩ rfl ?_) fun high'12 => ?_
    · refine ed_blt cd_min2 (by kernel_rfl) X.n_min bt_min (ad_cons (k := .vw 0) ?_ (ad_cons (k := .vw 0) ?_ ad_nil))
      · refine ed_blt (cd_len (n := 0)) (by kernel_rfl) X.n_len bt_len (ad_cons (k := .vw 0) ?_ ad_nil)
        exact ed_name (i := 0) (k := .vw 0) ⟨rfl, .inl (by kernel_rfl), by decide, by decide⟩ rfl
      · refine ed_blt (cd_len (n := 0)) (by kernel_rfl) X.n_len bt_len (ad_cons (k := .vw 0) ?_ ad_nil)
        exact ed_name (i := 1) (k := .vw 0) ⟨rfl, .inl (by kernel_rfl), by decide, by decide⟩ rfl
    refine bx_ifD ?_ ?_ ?_
    · refine td_cmp (ob_eq (n := 0) (m := 0)) ?_ ?_
      · refine ed_ix (n := 0) ?_ ?_
        · exact ed_name (i := 2) (k := .vw 0) ⟨rfl, .inl (by kernel_rfl), by decide, by decide⟩ rfl
        · exact ed_name (i := 5) (k := .vw 0) ⟨rfl, .inl (by kernel_rfl), by decide, by decide⟩ rfl
      · refine ed_ix (n := 0) ?_ ?_
        · exact ed_name (i := 3) (k := .vw 0) ⟨rfl, .inl (by kernel_rfl), by decide, by decide⟩ rfl
        · exact ed_name (i := 5) (k := .vw 0) ⟨rfl, .inl (by kernel_rfl), by decide, by decide⟩ rfl
    · refine bx_retD ?_
      refine ed_ix (n := 0) ?_ ?_
      · refine ED.fr (n := 1) ?_
        refine ed_lst (ad_cons (k := .vw 0) ?_ (ad_cons (k := .vw 0) ?_ ad_nil))
        · exact ed_name (i := 5) (k := .vw 0) ⟨rfl, .inl (by kernel_rfl), by decide, by decide⟩ rfl
        · exact ed_non
      · refine ed_blty cd_int (by kernel_rfl) X.n_int bt_int (ad_cons (k := .vw 0) ?_ ad_nil)
        refine ed_cmp (ob_eq (n := 0) (m := 0)) ?_ ?_
        · refine ed_blt (cd_len (n := 0)) (by kernel_rfl) X.n_len bt_len (ad_cons (k := .vw 0) ?_ ad_nil)
          exact ed_name (i := 0) (k := .vw 0) ⟨rfl, .inl (by kernel_rfl), by decide, by decide⟩ rfl
        · refine ed_blt (cd_len (n := 0)) (by kernel_rfl) X.n_len bt_len (ad_cons (k := .vw 0) ?_ ad_nil)
          exact ed_name (i := 1) (k := .vw 0) ⟨rfl, .inl (by kernel_rfl), by decide, by decide⟩ rfl
    · refine bx_seq (sx_for (J := fun (s'29 : D × D) => [.val (.vw 0) (one'1), .val (.vw 0) (other'2), .val (.vw 0) (first'4), .val (.vw 0) (second'6), .val (.vw 0) (s'29.1), .val (.vw 0) (s'29.2), .any, .any]) ?_ (gd_name (i := 6) ⟨rfl, .inl (by kernel_rfl), .inl rfl⟩) (fun s'29 turn'30 => ?_) (.same (.same (.same (.same (.same (.same (.same (.same .nil))))))))) fun s'55 => ?_
      · refine id_range1 (by kernel_rfl) X.n_range (ad_cons (k := .vw 0) ?_ ad_nil)
        exact ed_int
      · refine bx_one (sx_if ?_ ?_ ?_)
        · refine td_cmp ob_lt ?_ ?_
          · exact ed_name (i := 4) (k := .vw 0) ⟨rfl, .inl (by kernel_rfl), by decide, by decide⟩ rfl
          · exact ed_name (i := 5) (k := .vw 0) ⟨rfl, .inl (by kernel_rfl), by decide, by decide⟩ rfl
        · refine bx_seq (sx_set (i := 7) (k := .vw 0) ⟨rfl, .inl (by kernel_rfl), .inl rfl⟩ rfl ?_) fun middle'37 => ?_
          · refine ed_bin od_fdiv ?_ ?_
            · refine ed_bin od_addA ?_ ?_
              · refine ED.up ?_
                exact ed_name (i := 4) (k := .vw 0) ⟨rfl, .inl (by kernel_rfl), by decide, by decide⟩ rfl
              · refine ED.up ?_
                exact ed_name (i := 5) (k := .vw 0) ⟨rfl, .inl (by kernel_rfl), by decide, by decide⟩ rfl
            · exact ed_int
          refine bx_one (sx_if ?_ ?_ ?_)
          · refine td_cmp (ob_eq (n := 0) (m := 0)) ?_ ?_
            · refine ed_ix (n := 0) ?_ ?_
              · exact ed_name (i := 2) (k := .vw 0) ⟨rfl, .inl (by kernel_rfl), by decide, by decide⟩ rfl
              · refine ed_bin od_addA ?_ ?_
                · refine ED.up ?_
                  exact ed_name (i := 7) (k := .vw 0) ⟨rfl, .inl (by kernel_rfl), by decide, by decide⟩ rfl
                · refine ED.up ?_
                  exact ed_int
            · refine ed_ix (n := 0) ?_ ?_
              · exact ed_name (i := 3) (k := .vw 0) ⟨rfl, .inl (by kernel_rfl), by decide, by decide⟩ rfl
              · refine ed_bin od_addA ?_ ?_
                · refine ED.up ?_
                  exact ed_name (i := 7) (k := .vw 0) ⟨rfl, .inl (by kernel_rfl), by decide, by decide⟩ rfl
                · refine ED.up ?_
                  exact ed_int
          · refine bx_seq (sx_set (i := 4) (k := .vw 0) ⟨rfl, .inl (by kernel_rfl), .inl rfl⟩ rfl ?_) fun low'50 => ?_
            · refine ed_bin od_addA ?_ ?_
              · refine ED.up ?_
                exact ed_name (i := 7) (k := .vw 0) ⟨rfl, .inl (by kernel_rfl), by decide, by decide⟩ rfl
              · refine ED.up ?_
                exact ed_int
            exact bx_nil rfl (.same (.same (.same (.same (.same (.same (.any (.any .nil))))))))
          · refine bx_seq (sx_set (i := 5) (k := .vw 0) ⟨rfl, .inl (by kernel_rfl), .inl rfl⟩ rfl ?_) fun high'51 => ?_
            · exact ed_name (i := 7) (k := .vw 0) ⟨rfl, .inl (by kernel_rfl), by decide, by decide⟩ rfl
            exact bx_nil rfl (.same (.same (.same (.same (.same (.same (.any (.any .nil))))))))
        · exact bx_nil rfl (.same (.same (.same (.same (.same (.same (.any (.same .nil))))))))
      · refine bx_retD ?_
        exact ed_name (i := 4) (k := .vw 0) ⟨rfl, .inl (by kernel_rfl), by decide, by decide⟩ rfl
theorem sc_journal_line : FnScope ["number", "event", "text"] ["number", "event"] (defScope Hd.s_journal_line) := C8.fnScope_by (by kernel_rfl)
theorem c_journal_line {C : Cst} (X : Ctx C) : Cal C 5 "journal_line" [.p (.vw 0), .p (.vw 0)] (.vw 0) m_journal_line := by
  obtain ⟨fd, F⟩ := X.f_journal_line
  refine def_ok (k := 4) F sc_journal_line X.g_journal_line rfl (F.bindsN fun _ _ _ _ _ _ us hl => match us, hl with | [_, _], _ => rfl) fun W ds h => ?_
  match ds, h with
  | [number'1, event'2], _ =>
    show BX _ W _ [.val (.vw 0) (number'1), .val (.vw 0) (event'2), .any] _ _ (b_journal_line number'1 event'2)
    unfold b_journal_line
    refine bx_seq (sx_set (i := 2) (k := .vw 0) ⟨rfl, .inl (by kernel_rfl), .inl rfl⟩ rfl ?_) fun text'4 => ?_
    · refine ed_call (c_event_text X) (Nat.le_of_ble_eq_true rfl) (by kernel_rfl) (ad_cons (k := .vw 0) ?_ ad_nil)
      exact ed_name (i := 1) (k := .vw 0) ⟨rfl, .inl (by kernel_rfl), by decide, by decide⟩ rfl
    refine bx_retD ?_
    refine ed_bin od_addA ?_ ?_
    · refine ED.up ?_
      refine ed_bin od_addA ?_ ?_
      · refine ED.up ?_
        refine ed_bin od_addA ?_ ?_
        · refine ED.up ?_
          refine ed_bin od_addA ?_ ?_
          · refine ED.up ?_
            refine ed_blty cd_str (by kernel_rfl) X.n_str bt_str (ad_cons (k := .vw 0) ?_ ad_nil)
            exact ed_name (i := 0) (k := .vw 0) ⟨rfl, .inl (by kernel_rfl), by decide, by decide⟩ rfl
          · refine ED.up ?_
            exact ed_str
        · refine ED.up ?_
          refine ed_blty cd_str (by kernel_rfl) X.n_str bt_str (ad_cons (k := .vw 0) ?_ ad_nil)
          refine ed_call (c_sum_of_text X) (Nat.le_of_ble_eq_true rfl) (by kernel_rfl) (ad_cons (k := .vw 0) ?_ ad_nil)
          refine ed_bin od_addA ?_ ?_
          · refine ED.up ?_
            refine ed_bin od_addA ?_ ?_
            · refine ED.up ?_
              refine ed_blty cd_str (by kernel_rfl) X.n_str bt_str (ad_cons (k := .vw 0) ?_ ad_nil)
              exact ed_name (i := 0) (k := .vw 0) ⟨rfl, .inl (by kernel_rfl), by decide, by decide⟩ rfl
            · refine ED.up ?_
              exact ed_str
          · refine ED.up ?_
            exact ed_name (i := 2) (k := .vw 0) ⟨rfl, .inl (by kernel_rfl), by decide, by decide⟩ rfl
      · refine ED.up ?_
        exact ed_str
    · refine ED.up ?_
      exact ed_name (i := 2) (k := .vw 0) ⟨rfl, .inl (by kernel_rfl), by decide, by decide⟩ rfl
theorem sc_digest_rows : FnScope ["events", "rows", "row", "made", "at", "event"] ["events"] (defScope Hd.s_digest_rows) := C8.fnScope_by (by kernel_rfl)
theorem c_digest_rows {C : Cst} (X : Ctx C) : Cal C 6 "digest_rows" [.p (.vw 0)] (.vw 0) m_digest_rows := by
  obtain ⟨fd, F⟩ := X.f_digest_rows
  refine def_ok (k := 5) F sc_digest_rows X.g_digest_rows rfl (F.bindsN fun _ _ _ _ _ _ us hl => match us, hl with | [_], _ => rfl) fun W ds h => ?_
  match ds, h with
  | [events'1], _ =>
    show BX _ W _ [.val (.vw 0) (events'1), .any, .any, .any, .any, .any] _ _ (b_digest_rows events'1)
    unfold b_digest_rows
    refine bx_ifD ?_ ?_ ?_
    · refine td_cmp (ob_eq (n := 0) (m := 0)) ?_ ?_
      · exact ed_name (i := 0) (k := .vw 0) ⟨rfl, .inl (by kernel_rfl), by decide, by decide⟩ rfl
      · refine ED.fr (n := 1) ?_
        exact ed_lst ad_nil
    · refine bx_retD ?_
      refine ED.fr (n := 1) ?_
      exact ed_lst ad_nil
    · refine bx_seq (sx_set (i := 1) (k := .ow 1) ⟨rfl, .inl (by kernel_rfl), .inl rfl⟩ rfl ?_) fun d'13 => ?_
      · refine ed_lst (ad_cons (k := .vw 0) ?_ ad_nil)
        refine ED.fr (n := 1) ?_
        refine ed_map (own := [("at", 4), ("event", 5)]) ?_ (gd_tup2 (i1 := 4) (i2 := 5) ⟨rfl, .inl (by kernel_rfl), .inr (by kernel_rfl)⟩ ⟨rfl, .inl (by kernel_rfl), .inr (by kernel_rfl)⟩) (fun t'5 => ?_) (by kernel_rfl) (by simp)
        · refine id_enum (by kernel_rfl) X.n_enumerate (ad_cons (k := .vw 0) ?_ ad_nil)
          exact ed_name (i := 0) (k := .vw 0) ⟨rfl, .inl (by kernel_rfl), by decide, by decide⟩ rfl
        · refine ed_call (c_digest_of_text X) (Nat.le_of_ble_eq_true rfl) (by kernel_rfl) (ad_cons (k := .vw 0) ?_ ad_nil)
          refine ed_call (c_journal_line X) (Nat.le_of_ble_eq_true rfl) (by kernel_rfl) (ad_cons (k := .vw 0) ?_ (ad_cons (k := .vw 0) ?_ ad_nil))
          · exact ed_name (i := 4) (k := .vw 0) ⟨rfl, .inl (by kernel_rfl), by decide, by decide⟩ rfl
          · exact ed_name (i := 5) (k := .vw 0) ⟨rfl, .inl (by kernel_rfl), by decide, by decide⟩ rfl
      refine bx_ow (i := 1) rfl fun rows'14 => ?_
      refine bx_seq (sx_while (J := fun (s'15 : List D) => [.val (.vw 0) (events'1), .val (.ow 1) (.list (s'15)), .any, .any, .any, .any]) FUEL (fun s'15 => ?_) (fun s'15 => ?_) (.same (.same (.same (.same (.same (.same .nil))))))) fun s'59 => ?_
      · refine td_cmp ob_gt ?_ ?_
        · refine ed_blt (cd_len (n := 0)) (by kernel_rfl) X.n_len bt_len (ad_cons (k := .vw 0) ?_ ad_nil)
          refine ed_ix (n := 1) ?_ ?_
          · exact ed_name (i := 1) (k := .ow 1) ⟨rfl, .inl (by kernel_rfl), by decide, by decide⟩ rfl
          · refine ed_neg ?_
            exact ed_int
        · exact ed_int
      · refine bx_seq (sx_set (i := 2) (k := .vw 0) ⟨rfl, .inr (by kernel_rfl), .inl rfl⟩ rfl ?_) fun row'25 => ?_
        · refine ed_ix (n := 1) ?_ ?_
          · exact ed_name (i := 1) (k := .ow 1) ⟨rfl, .inl (by kernel_rfl), by decide, by decide⟩ rfl
          · refine ed_neg ?_
            exact ed_int
        refine bx_seq (sx_setA (i := 3) (k := .vw 0) ⟨rfl, .inl (by kernel_rfl), .inl rfl⟩ rfl ?_ (by kernel_rfl)) fun made'44 => ?_
        · refine EA.fr (n := 1) ?_
          refine ea_map (own := [("at", 4)]) ?_ (gd_name (i := 4) ⟨rfl, .inl (by kernel_rfl), .inr (by kernel_rfl)⟩) (fun at'32 => ?_) (by kernel_rfl) (by simp)
          · refine id_range3 (by kernel_rfl) X.n_range (ad_cons (k := .vw 0) ?_ (ad_cons (k := .vw 0) ?_ (ad_cons (k := .vw 0) ?_ ad_nil)))
            · exact ed_int
            · refine ed_bin od_sub ?_ ?_
              · refine ed_blt (cd_len (n := 0)) (by kernel_rfl) X.n_len bt_len (ad_cons (k := .vw 0) ?_ ad_nil)
                exact ed_name (i := 2) (k := .vw 0) ⟨rfl, .inr (.inl (by kernel_rfl)), by decide, by decide⟩ rfl
              · exact ed_int
            · exact ed_int
          · refine ed_call (c_join_digests X) (Nat.le_of_ble_eq_true rfl) (by kernel_rfl) (ad_cons (k := .vw 0) ?_ (ad_cons (k := .vw 0) ?_ ad_nil))
            · refine ed_ix (n := 0) ?_ ?_
              · exact ed_name (i := 2) (k := .vw 0) ⟨rfl, .inr (.inl (by kernel_rfl)), by decide, by decide⟩ rfl
              · exact ed_name (i := 4) (k := .vw 0) ⟨rfl, .inl (by kernel_rfl), by decide, by decide⟩ rfl
            · refine ed_ix (n := 0) ?_ ?_
              · exact ed_name (i := 2) (k := .vw 0) ⟨rfl, .inr (.inl (by kernel_rfl)), by decide, by decide⟩ rfl
              · refine ed_bin od_addA ?_ ?_
                · refine ED.up ?_
                  exact ed_name (i := 4) (k := .vw 0) ⟨rfl, .inl (by kernel_rfl), by decide, by decide⟩ rfl
                · refine ED.up ?_
                  exact ed_int
        refine bx_seq (sx_app (i := 1) ⟨rfl, .inl (by kernel_rfl), by decide, by decide⟩ rfl ?_) fun rows'57 => ?_
        · refine ed_bin od_addA ?_ ?_
          · refine ED.up ?_
            exact ed_name (i := 3) (k := .vw 0) ⟨rfl, .inl (by kernel_rfl), by decide, by decide⟩ rfl
          · refine ED.up ?_
            refine ed_slice ?_ (pd_some ?_) pd_none
            · refine ED.up ?_
              exact ed_name (i := 2) (k := .vw 0) ⟨rfl, .inr (.inl (by kernel_rfl)), by decide, by decide⟩ rfl
            · refine ed_bin od_sub ?_ ?_
              · refine ed_blt (cd_len (n := 0)) (by kernel_rfl) X.n_len bt_len (ad_cons (k := .vw 0) ?_ ad_nil)
                exact ed_name (i := 2) (k := .vw 0) ⟨rfl, .inr (.inl (by kernel_rfl)), by decide, by decide⟩ rfl
              · refine ed_bin od_mod ?_ ?_
                · refine ed_blt (cd_len (n := 0)) (by kernel_rfl) X.n_len bt_len (ad_cons (k := .vw 0) ?_ ad_nil)
                  exact ed_name (i := 2) (k := .vw 0) ⟨rfl, .inr (.inl (by kernel_rfl)), by decide, by decide⟩ rfl
                · exact ed_int
        exact bx_nil rfl (.same (.same (.any (.any (.same (.same .nil))))))
      · refine bx_fr (i := 1) rfl ?_
        refine bx_retD ?_
        exact ed_name (i := 1) (k := .vw 0) ⟨rfl, .inl (by kernel_rfl), by decide, by decide⟩ rfl
theorem sc_judge_line : FnScope ["digest", "place", "event", "paper", "found", "side", "other"] ["digest", "place", "event", "paper"] (defScope Hd.s_judge_line) := C8.fnScope_by (by kernel_rfl)
theorem c_judge_line {C : Cst} (X : Ctx C) : Cal C 6 "judge_line" [.p (.vw 0), .p (.vw 0), .p (.vw 0), .p (.vw 0)] (.vw 0) m_judge_line := by
  obtain ⟨fd, F⟩ := X.f_judge_line
  refine def_ok (k := 5) F sc_judge_line X.g_judge_line rfl (F.bindsN fun _ _ _ _ _ _ us hl => match us, hl with | [_, _, _, _], _ => rfl) fun W ds h => ?_
  match ds, h with
  | [digest'1, place'2, event'3, paper'4], _ =>
    show BX _ W _ [.val (.vw 0) (digest'1), .val (.vw 0) (place'2), .val (.vw 0) (event'3), .val (.vw 0) (paper'4), .any, .any, .any] _ _ (b_judge_line digest'1 place'2 event'3 paper'4)
    unfold b_judge_line
    refine bx_seq (sx_set (i := 4) (k := .vw 0) ⟨rfl, .inl (by kernel_rfl), .inl rfl⟩ rfl ?_) fun found'8 => ?_
    · refine ed_call (c_digest_of_text X) (Nat.le_of_ble_eq_true rfl) (by kernel_rfl) (ad_cons (k := .vw 0) ?_ ad_nil)
      refine ed_call (c_journal_line X) (Nat.le_of_ble_eq_true rfl) (by kernel_rfl) (ad_cons (k := .vw 0) ?_ (ad_cons (k := .vw 0) ?_ ad_nil))
      · exact ed_name (i := 1) (k := .vw 0) ⟨rfl, .inl (by kernel_rfl), by decide, by decide⟩ rfl
      · exact ed_name (i := 2) (k := .vw 0) ⟨rfl, .inl (by kernel_rfl), by decide, by decide⟩ rfl
    refine bx_seq (sx_for (J := fun (s'10 : D) => [.val (.vw 0) (digest'1), .val (.vw 0) (place'2), .val (.vw 0) (event'3), .val (.vw 0) (paper'4), .val (.vw 0) (s'10), .any, .any]) ?_ (gd_tup2 (i1 := 5) (i2 := 6) ⟨rfl, .inl (by kernel_rfl), .inl rfl⟩ ⟨rfl, .inl (by kernel_rfl), .inl rfl⟩) (fun s'10 t'11 => ?_) (.same (.same (.same (.same (.same (.same (.same .nil)))))))) fun s'22 => ?_
    · refine id_any ?_
      exact ed_name (i := 3) (k := .vw 0) ⟨rfl, .inl (by kernel_rfl), by decide, by decide⟩ rfl
    · refine bx_seq (sx_set (i := 4) (k := .vw 0) ⟨rfl, .inl (by kernel_rfl), .inl rfl⟩ rfl ?_) fun found'18 => ?_
      · refine ed_ifexp ?_ ?_ ?_
        · refine td_cmp (ob_eq (n := 0) (m := 0)) ?_ ?_
          · exact ed_name (i := 5) (k := .vw 0) ⟨rfl, .inl (by kernel_rfl), by decide, by decide⟩ rfl
          · exact ed_str
        · refine ed_call (c_join_digests X) (Nat.le_of_ble_eq_true rfl) (by kernel_rfl) (ad_cons (k := .vw 0) ?_ (ad_cons (k := .vw 0) ?_ ad_nil))
          · exact ed_name (i := 6) (k := .vw 0) ⟨rfl, .inl (by kernel_rfl), by decide, by decide⟩ rfl
          · exact ed_name (i := 4) (k := .vw 0) ⟨rfl, .inl (by kernel_rfl), by decide, by decide⟩ rfl
        · refine ed_call (c_join_digests X) (Nat.le_of_ble_eq_true rfl) (by kernel_rfl) (ad_cons (k := .vw 0) ?_ (ad_cons (k := .vw 0) ?_ ad_nil))
          · exact ed_name (i := 4) (k := .vw 0) ⟨rfl, .inl (by kernel_rfl), by decide, by decide⟩ rfl
          · exact ed_name (i := 6) (k := .vw 0) ⟨rfl, .inl (by kernel_rfl), by decide, by decide⟩ rfl
      exact bx_nil rfl (.same (.same (.same (.same (.same (.any (.any .nil)))))))
    · refine bx_retD ?_
      refine ed_cmp (ob_eq (n := 0) (m := 0)) ?_ ?_
      · exact ed_name (i := 4) (k := .vw 0) ⟨rfl, .inl (by kernel_rfl), by decide, by decide⟩ rfl
      · exact ed_name (i := 0) (k := .vw 0) ⟨rfl, .inl (by kernel_rfl), by decide, by decide⟩ rfl
theorem sc_chain_digests : FnScope ["events", "found", "at", "event"] ["events"] (defScope Hd.s_chain_digests) := C8.fnScope_by (by kernel_rfl)
theorem c_chain_digests {C : Cst} (X : Ctx C) : Cal C 6 "chain_digests" [.p (.vw 0)] (.vw 0) m_chain_digests := by
  obtain ⟨fd, F⟩ := X.f_chain_digests
  refine def_ok (k := 5) F sc_chain_digests X.g_chain_digests rfl (F.bindsN fun _ _ _ _ _ _ us hl => match us, hl with | [_], _ => rfl) fun W ds h => ?_
  match ds, h with
  | [events'1], _ =>
    show BX _ W _ [.val (.vw 0) (events'1), .any, .any, .any] _ _ (b_chain_digests events'1)
    unfold b_chain_digests
    refine bx_seq (sx_set (i := 1) (k := .ow 1) ⟨rfl, .inl (by kernel_rfl), .inl rfl⟩ rfl ?_) fun d'3 => ?_
    · refine ed_lst (ad_cons (k := .vw 0) ?_ ad_nil)
      exact ed_int
    refine bx_ow (i := 1) rfl fun found'4 => ?_
    refine bx_seq (sx_for (J := fun (s'6 : List D) => [.val (.vw 0) (events'1), .val (.ow 1) (.list (s'6)), .any, .any]) ?_ (gd_tup2 (i1 := 2) (i2 := 3) ⟨rfl, .inl (by kernel_rfl), .inl rfl⟩ ⟨rfl, .inl (by kernel_rfl), .inl rfl⟩) (fun s'6 t'7 => ?_) (.same (.same (.same (.same .nil))))) fun s'21 => ?_
    · refine id_enum (by kernel_rfl) X.n_enumerate (ad_cons (k := .vw 0) ?_ ad_nil)
      exact ed_name (i := 0) (k := .vw 0) ⟨rfl, .inl (by kernel_rfl), by decide, by decide⟩ rfl
    · refine bx_seq (sx_app (i := 1) ⟨rfl, .inl (by kernel_rfl), by decide, by decide⟩ rfl ?_) fun found'16 => ?_
      · refine ed_call (c_join_digests X) (Nat.le_of_ble_eq_true rfl) (by kernel_rfl) (ad_cons (k := .vw 0) ?_ (ad_cons (k := .vw 0) ?_ ad_nil))
        · refine ed_ix (n := 1) ?_ ?_
          · exact ed_name (i := 1) (k := .ow 1) ⟨rfl, .inl (by kernel_rfl), by decide, by decide⟩ rfl
          · refine ed_neg ?_
            exact ed_int
        · refine ed_call (c_digest_of_text X) (Nat.le_of_ble_eq_true rfl) (by kernel_rfl) (ad_cons (k := .vw 0) ?_ ad_nil)
          refine ed_call (c_journal_line X) (Nat.le_of_ble_eq_true rfl) (by kernel_rfl) (ad_cons (k := .vw 0) ?_ (ad_cons (k := .vw 0) ?_ ad_nil))
          · exact ed_name (i := 2) (k := .vw 0) ⟨rfl, .inl (by kernel_rfl), by decide, by decide⟩ rfl
          · exact ed_name (i := 3) (k := .vw 0) ⟨rfl, .inl (by kernel_rfl), by decide, by decide⟩ rfl
      exact bx_nil rfl (.same (.same (.any (.any .nil))))
    · refine bx_fr (i := 1) rfl ?_
      refine bx_retD ?_
      exact ed_name (i := 1) (k := .vw 0) ⟨rfl, .inl (by kernel_rfl), by decide, by decide⟩ rfl
theorem sc_digest_of : FnScope ["events", "rows"] ["events"] (defScope Hd.s_digest_of) := C8.fnScope_by (by kernel_rfl)
theorem c_digest_of {C : Cst} (X : Ctx C) : Cal C 7 "digest_of" [.p (.vw 0)] (.vw 0) m_digest_of := by
  obtain ⟨fd, F⟩ := X.f_digest_of
  refine def_ok (k := 6) F sc_digest_of X.g_digest_of rfl (F.bindsN fun _ _ _ _ _ _ us hl => match us, hl with | [_], _ => rfl) fun W ds h => ?_
  match ds, h with
  | [events'1], _ =>
    show BX _ W _ [.val (.vw 0) (events'1), .any] _ _ (b_digest_of events'1)
    unfold b_digest_of
    refine bx_seq (sx_set (i := 1) (k := .vw 0) ⟨rfl, .inl (by kernel_rfl), .inl rfl⟩ rfl ?_) fun rows'3 => ?_
    · refine ed_call (c_digest_rows X) (Nat.le_of_ble_eq_true rfl) (by kernel_rfl) (ad_cons (k := .vw 0) ?_ ad_nil)
      exact ed_name (i := 0) (k := .vw 0) ⟨rfl, .inl (by kernel_rfl), by decide, by decide⟩ rfl
    refine bx_retD ?_
    refine ed_ifexp ?_ ?_ ?_
    · refine td_val (n := 0) ?_
      exact ed_name (i := 1) (k := .vw 0) ⟨rfl, .inl (by kernel_rfl), by decide, by decide⟩ rfl
    · refine ed_ix (n := 0) ?_ ?_
      · refine ed_ix (n := 0) ?_ ?_
        · exact ed_name (i := 1) (k := .vw 0) ⟨rfl, .inl (by kernel_rfl), by decide, by decide⟩ rfl
        · refine ed_neg ?_
          exact ed_int
      · exact ed_int
    · exact ed_int
theorem sc_line_paper : FnScope ["events", "place", "found", "row"] ["events", "place"] (defScope Hd.s_line_paper) := C8.fnScope_by (by kernel_rfl)
theorem c_line_paper {C : Cst} (X : Ctx C) : Cal C 7 "line_paper" [.p (.vw 0), .p (.vw 0)] (.vw 0) m_line_paper := by
  obtain ⟨fd, F⟩ := X.f_line_paper
  refine def_ok (k := 6) F sc_line_paper X.g_line_paper rfl (F.bindsN fun _ _ _ _ _ _ us hl => match us, hl with | [_, _], _ => rfl) fun W ds h => ?_
  match ds, h with
  | [events'1, place'2], _ =>
    show BX _ W _ [.val (.vw 0) (events'1), .val (.vw 0) (place'2), .any, .any] _ _ (b_line_paper events'1 place'2)
    unfold b_line_paper
    refine bx_ifD ?_ ?_ ?_
    · refine td_not ?_
      refine td_chain ob_le ob_lt ?_ ?_ ?_
      · exact ed_int
      · exact ed_name (i := 1) (k := .vw 0) ⟨rfl, .inl (by kernel_rfl), by decide, by decide⟩ rfl
      · refine ed_blt (cd_len (n := 0)) (by kernel_rfl) X.n_len bt_len (ad_cons (k := .vw 0) ?_ ad_nil)
        exact ed_name (i := 0) (k := .vw 0) ⟨rfl, .inl (by kernel_rfl), by decide, by decide⟩ rfl
    · exact bx_raise (by kernel_rfl) X.e_NotPossible
    · refine bx_seq (sx_set (i := 2) (k := .ow 1) ⟨rfl, .inl (by kernel_rfl), .inl rfl⟩ rfl ?_) fun d'7 => ?_
      · exact ed_lst ad_nil
      refine bx_ow (i := 2) rfl fun found'8 => ?_
      refine bx_seq (sx_for (J := fun (s'16 : D × List D) => [.val (.vw 0) (events'1), .val (.vw 0) (s'16.1), .val (.ow 1) (.list (s'16.2)), .any]) ?_ (gd_name (i := 3) ⟨rfl, .inl (by kernel_rfl), .inl rfl⟩) (fun s'16 row'17 => ?_) (.same (.same (.same (.same .nil))))) fun s'49 => ?_
      · refine id_any ?_
        refine ed_slice ?_ pd_none (pd_some ?_)
        · refine ED.up ?_
          refine ed_call (c_digest_rows X) (Nat.le_of_ble_eq_true rfl) (by kernel_rfl) (ad_cons (k := .vw 0) ?_ ad_nil)
          exact ed_name (i := 0) (k := .vw 0) ⟨rfl, .inl (by kernel_rfl), by decide, by decide⟩ rfl
        · refine ed_neg ?_
          exact ed_int
      · refine bx_seq (J := fun (j'43 : List D) => [.val (.vw 0) (events'1), .val (.vw 0) (s'16.1), .val (.ow 1) (.list (j'43)), .val (.vw 0) (row'17)]) (sx_if ?_ ?_ ?_) fun j'43 => ?_
        · refine td_cmp (ob_eq (n := 0) (m := 0)) ?_ ?_
          · refine ed_bin od_mod ?_ ?_
            · exact ed_name (i := 1) (k := .vw 0) ⟨rfl, .inl (by kernel_rfl), by decide, by decide⟩ rfl
            · exact ed_int
          · exact ed_int
        · refine bx_seq (sx_app (i := 2) ⟨rfl, .inl (by kernel_rfl), by decide, by decide⟩ rfl ?_) fun found'28 => ?_
          · refine ed_tup (ad_cons (k := .vw 0) ?_ (ad_cons (k := .vw 0) ?_ ad_nil))
            · exact ed_str
            · refine ed_ix (n := 0) ?_ ?_
              · exact ed_name (i := 3) (k := .vw 0) ⟨rfl, .inl (by kernel_rfl), by decide, by decide⟩ rfl
              · refine ed_bin od_sub ?_ ?_
                · exact ed_name (i := 1) (k := .vw 0) ⟨rfl, .inl (by kernel_rfl), by decide, by decide⟩ rfl
                · exact ed_int
          exact bx_nil rfl (.same (.same (.same (.same .nil))))
        · refine bx_one (sx_if ?_ ?_ ?_)
          · refine td_cmp ob_lt ?_ ?_
            · refine ed_bin od_addA ?_ ?_
              · refine ED.up ?_
                exact ed_name (i := 1) (k := .vw 0) ⟨rfl, .inl (by kernel_rfl), by decide, by decide⟩ rfl
              · refine ED.up ?_
                exact ed_int
            · refine ed_blt (cd_len (n := 0)) (by kernel_rfl) X.n_len bt_len (ad_cons (k := .vw 0) ?_ ad_nil)
              exact ed_name (i := 3) (k := .vw 0) ⟨rfl, .inl (by kernel_rfl), by decide, by decide⟩ rfl
          · refine bx_seq (sx_app (i := 2) ⟨rfl, .inl (by kernel_rfl), by decide, by decide⟩ rfl ?_) fun found'41 => ?_
            · refine ed_tup (ad_cons (k := .vw 0) ?_ (ad_cons (k := .vw 0) ?_ ad_nil))
              · exact ed_str
              · refine ed_ix (n := 0) ?_ ?_
                · exact ed_name (i := 3) (k := .vw 0) ⟨rfl, .inl (by kernel_rfl), by decide, by decide⟩ rfl
                · refine ed_bin od_addA ?_ ?_
                  · refine ED.up ?_
                    exact ed_name (i := 1) (k := .vw 0) ⟨rfl, .inl (by kernel_rfl), by decide, by decide⟩ rfl
                  · refine ED.up ?_
                    exact ed_int
            exact bx_nil rfl (.same (.same (.same (.same .nil))))
          · exact bx_nil rfl (.same (.same (.same (.same .nil))))
        · refine bx_seq (sx_aug (i := 1) ⟨rfl, .inl (by kernel_rfl), .inl rfl⟩ rfl ipd_fdiv ?_) fun place'44 => ?_
          · exact ed_int
          exact bx_nil rfl (.same (.same (.same (.any .nil))))
      · refine bx_retD ?_
        refine ed_blty cd_tuple (by kernel_rfl) X.n_tuple bt_tuple (ad_cons (k := .vw 1) ?_ ad_nil)
        exact ed_name (i := 2) (k := .ow 1) ⟨rfl, .inl (by kernel_rfl), by decide, by decide⟩ rfl
theorem sc_first_apart : FnScope ["one", "other", "first", "second", "low", "high", "middle"] ["one", "other"] (defScope Hd.s_first_apart) := C8.fnScope_by (by kernel_rfl)
theorem c_first_apart {C : Cst} (X : Ctx C) : Cal C 7 "first_apart" [.p (.vw 0), .p (.vw 0)] (.vw 0) m_first_apart := by
  obtain ⟨fd, F⟩ := X.f_first_apart
  refine def_ok (k := 6) F sc_first_apart X.g_first_apart rfl (F.bindsN fun _ _ _ _ _ _ us hl => match us, hl with | [_, _], _ => rfl) fun W ds h => ?_
  match ds, h with
  | [one'1, other'2], _ =>
    show BX _ W _ [.val (.vw 0) (one'1), .val (.vw 0) (other'2), .any, .any, .any, .any, .any] _ _ (b_first_apart one'1 other'2)
    unfold b_first_apart
    refine bx_seq (sx_par (i := 2) (j := 3) ⟨rfl, .inl (by kernel_rfl), .inl rfl⟩ ⟨rfl, .inl (by kernel_rfl), .inl rfl⟩ (by decide) (by kernel_rfl) (by kernel_rfl) ?_ ?_ (by intro env h; cases env; cases h; kernel_rfl)) fun q'7 => ?_
    · refine ed_call (c_chain_digests X) (Nat.le_of_ble_eq_true rfl) (by kernel_rfl) (ad_cons (k := .vw 0) ?_ ad_nil)
      exact ed_name (i := 0) (k := .vw 0) ⟨rfl, .inl (by kernel_rfl), by decide, by decide⟩ rfl
    · refine ed_call (c_chain_digests X) (Nat.le_of_ble_eq_true rfl) (by kernel_rfl) (ad_cons (k := .vw 0) ?_ ad_nil)
      exact ed_name (i := 1) (k := .vw 0) ⟨rfl, .inl (by kernel_rfl), by decide, by decide⟩ rfl
    refine bx_seq (sx_par (i := 4) (j := 5) ⟨rfl, .inl (by kernel_rfl), .inl rfl⟩ ⟨rfl, .inl (by kernel_rfl), .inl rfl⟩ (by decide) (by kernel_rfl) (by kernel_rfl) ?_ ?_ (by intro env h; cases env; cases h; kernel_rfl)) fun q'14 => ?_
    · exact ed_int
    · refine ed_blt cd_min2 (by kernel_rfl) X.n_min bt_min (ad_cons (k := .vw 0) ?_ (ad_cons (k := .vw 0) ?_ ad_nil))
      · refine ed_blt (cd_len (n := 0)) (by kernel_rfl) X.n_len bt_len (ad_cons (k := .vw 0) ?_ ad_nil)
        exact ed_name (i := 0) (k := .vw 0) ⟨rfl, .inl (by kernel_rfl), by decide, by decide⟩ rfl
      · refine ed_blt (cd_len (n := 0)) (by kernel_rfl) X.n_len bt_len (ad_cons (k := .vw 0) ?_ ad_nil)
        exact ed_name (i := 1) (k := .vw 0) ⟨rfl, .inl (by kernel_rfl), by decide, by decide⟩ rfl
    refine bx_ifD ?_ ?_ ?_
    · refine td_cmp (ob_eq (n := 0) (m := 0)) ?_ ?_
      · refine ed_ix (n := 0) ?_ ?_
        · exact ed_name (i := 2) (k := .vw 0) ⟨rfl, .inl (by kernel_rfl), by decide, by decide⟩ rfl
        · exact ed_name (i := 5) (k := .vw 0) ⟨rfl, .inl (by kernel_rfl), by decide, by decide⟩ rfl
      · refine ed_ix (n := 0) ?_ ?_
        · exact ed_name (i := 3) (k := .vw 0) ⟨rfl, .inl (by kernel_rfl), by decide, by decide⟩ rfl
        · exact ed_name (i := 5) (k := .vw 0) ⟨rfl, .inl (by kernel_rfl), by decide, by decide⟩ rfl
    · refine bx_retD ?_
      refine ed_ifexp ?_ ?_ ?_
      · refine td_cmp (ob_eq (n := 0) (m := 0)) ?_ ?_
        · refine ed_blt (cd_len (n := 0)) (by kernel_rfl) X.n_len bt_len (ad_cons (k := .vw 0) ?_ ad_nil)
          exact ed_name (i := 0) (k := .vw 0) ⟨rfl, .inl (by kernel_rfl), by decide, by decide⟩ rfl
        · refine ed_blt (cd_len (n := 0)) (by kernel_rfl) X.n_len bt_len (ad_cons (k := .vw 0) ?_ ad_nil)
          exact ed_name (i := 1) (k := .vw 0) ⟨rfl, .inl (by kernel_rfl), by decide, by decide⟩ rfl
      · exact ed_non
      · exact ed_name (i := 5) (k := .vw 0) ⟨rfl, .inl (by kernel_rfl), by decide, by decide⟩ rfl
    · refine bx_seq (sx_while (J := fun (s'25 : D × D) => [.val (.vw 0) (one'1), .val (.vw 0) (other'2), .val (.vw 0) (q'7.1), .val (.vw 0) (q'7.2), .val (.vw 0) (s'25.1), .val (.vw 0) (s'25.2), .any]) FUEL (fun s'25 => ?_) (fun s'25 => ?_) (.same (.same (.same (.same (.same (.same (.same .nil)))))))) fun s'47 => ?_
      · refine td_cmp ob_lt ?_ ?_
        · exact ed_name (i := 4) (k := .vw 0) ⟨rfl, .inl (by kernel_rfl), by decide, by decide⟩ rfl
        · exact ed_name (i := 5) (k := .vw 0) ⟨rfl, .inl (by kernel_rfl), by decide, by decide⟩ rfl
      · refine bx_seq (sx_set (i := 6) (k := .vw 0) ⟨rfl, .inl (by kernel_rfl), .inl rfl⟩ rfl ?_) fun middle'32 => ?_
        · refine ed_bin od_fdiv ?_ ?_
          · refine ed_bin od_addA ?_ ?_
            · refine ED.up ?_
              exact ed_name (i := 4) (k := .vw 0) ⟨rfl, .inl (by kernel_rfl), by decide, by decide⟩ rfl
            · refine ED.up ?_
              exact ed_name (i := 5) (k := .vw 0) ⟨rfl, .inl (by kernel_rfl), by decide, by decide⟩ rfl
          · exact ed_int
        refine bx_one (sx_if ?_ ?_ ?_)
        · refine td_cmp (ob_eq (n := 0) (m := 0)) ?_ ?_
          · refine ed_ix (n := 0) ?_ ?_
            · exact ed_name (i := 2) (k := .vw 0) ⟨rfl, .inl (by kernel_rfl), by decide, by decide⟩ rfl
            · refine ed_bin od_addA ?_ ?_
              · refine ED.up ?_
                exact ed_name (i := 6) (k := .vw 0) ⟨rfl, .inl (by kernel_rfl), by decide, by decide⟩ rfl
              · refine ED.up ?_
                exact ed_int
          · refine ed_ix (n := 0) ?_ ?_
            · exact ed_name (i := 3) (k := .vw 0) ⟨rfl, .inl (by kernel_rfl), by decide, by decide⟩ rfl
            · refine ed_bin od_addA ?_ ?_
              · refine ED.up ?_
                exact ed_name (i := 6) (k := .vw 0) ⟨rfl, .inl (by kernel_rfl), by decide, by decide⟩ rfl
              · refine ED.up ?_
                exact ed_int
        · refine bx_seq (sx_set (i := 4) (k := .vw 0) ⟨rfl, .inl (by kernel_rfl), .inl rfl⟩ rfl ?_) fun low'45 => ?_
          · refine ed_bin od_addA ?_ ?_
            · refine ED.up ?_
              exact ed_name (i := 6) (k := .vw 0) ⟨rfl, .inl (by kernel_rfl), by decide, by decide⟩ rfl
            · refine ED.up ?_
              exact ed_int
          exact bx_nil rfl (.same (.same (.same (.same (.same (.same (.any .nil)))))))
        · refine bx_seq (sx_set (i := 5) (k := .vw 0) ⟨rfl, .inl (by kernel_rfl), .inl rfl⟩ rfl ?_) fun high'46 => ?_
          · exact ed_name (i := 6) (k := .vw 0) ⟨rfl, .inl (by kernel_rfl), by decide, by decide⟩ rfl
          exact bx_nil rfl (.same (.same (.same (.same (.same (.same (.any .nil)))))))
      · refine bx_retD ?_
        exact ed_name (i := 4) (k := .vw 0) ⟨rfl, .inl (by kernel_rfl), by decide, by decide⟩ rfl
theorem sc_is_continued : FnScope ["digest", "count", "events"] ["digest", "count", "events"] (defScope Hd.s_is_continued) := C8.fnScope_by (by kernel_rfl)
theorem c_is_continued {C : Cst} (X : Ctx C) : Cal C 7 "is_continued" [.p (.vw 0), .p (.vw 0), .p (.vw 0)] (.vw 0) m_is_continued := by
  obtain ⟨fd, F⟩ := X.f_is_continued
  refine def_ok (k := 6) F sc_is_continued X.g_is_continued rfl (F.bindsN fun _ _ _ _ _ _ us hl => match us, hl with | [_, _, _], _ => rfl) fun W ds h => ?_
  match ds, h with
  | [digest'1, count'2, events'3], _ =>
    show BX _ W _ [.val (.vw 0) (digest'1), .val (.vw 0) (count'2), .val (.vw 0) (events'3)] _ _ (b_is_continued digest'1 count'2 events'3)
    unfold b_is_continued
    refine bx_ifD ?_ ?_ ?_
    · refine td_cmp ob_gt ?_ ?_
      · exact ed_name (i := 1) (k := .vw 0) ⟨rfl, .inl (by kernel_rfl), by decide, by decide⟩ rfl
      · refine ed_blt (cd_len (n := 0)) (by kernel_rfl) X.n_len bt_len (ad_cons (k := .vw 0) ?_ ad_nil)
        exact ed_name (i := 2) (k := .vw 0) ⟨rfl, .inl (by kernel_rfl), by decide, by decide⟩ rfl
    · exact bx_raise (by kernel_rfl) X.e_NotPossible
    · refine bx_retD ?_
      refine ed_cmp (ob_eq (n := 0) (m := 0)) ?_ ?_
      · refine ed_ix (n := 0) ?_ ?_
        · refine ed_call (c_chain_digests X) (Nat.le_of_ble_eq_true rfl) (by kernel_rfl) (ad_cons (k := .vw 0) ?_ ad_nil)
          exact ed_name (i := 2) (k := .vw 0) ⟨rfl, .inl (by kernel_rfl), by decide, by decide⟩ rfl
        · exact ed_name (i := 1) (k := .vw 0) ⟨rfl, .inl (by kernel_rfl), by decide, by decide⟩ rfl
      · exact ed_name (i := 0) (k := .vw 0) ⟨rfl, .inl (by kernel_rfl), by decide, by decide⟩ rfl
theorem sc__law_refused : FnScope ["events", "kind"] ["events", "kind"] (defScope Hd.s__law_refused) := C8.fnScope_by (by kernel_rfl)
theorem c__law_refused {C : Cst} (X : Ctx C) : Cal C 8 "_law_refused" [.p (.vw 0), .p (.vw 0)] (.vw 0) m__law_refused := by
  obtain ⟨fd, F⟩ := X.f__law_refused
  refine def_ok (k := 7) F sc__law_refused X.g__law_refused rfl (F.bindsN fun _ _ _ _ _ _ us hl => match us, hl with | [_, _], _ => rfl) fun W ds h => ?_
  match ds, h with
  | [events'1, kind'2], _ =>
    show BX _ W _ [.val (.vw 0) (events'1), .val (.vw 0) (kind'2)] _ _ (b__law_refused events'1 kind'2)
    unfold b__law_refused
    refine bx_one (sx_try (hit := hit_NotPossible) (a := (.bool true : D)) (fun W => ?_) (bh_ret (.bl true) (fun _ => pe_bl) (fun _ => .bl true)) rfl (by kernel_rfl) X.g_NotPossible X.h_NotPossible)
    · refine bx_seq (J := fun (j'19 : Unit) => [.val (.vw 0) (events'1), .val (.vw 0) (kind'2)]) (sx_if ?_ ?_ ?_) fun j'19 => ?_
      · refine td_cmp (ob_eq (n := 0) (m := 0)) ?_ ?_
        · exact ed_name (i := 1) (k := .vw 0) ⟨rfl, .inl (by kernel_rfl), by decide, by decide⟩ rfl
        · exact ed_int
      · refine bx_seq (sx_expr (k := .vw 0) ?_) fun _ => ?_
        · refine ed_call (c_line_paper X) (Nat.le_of_ble_eq_true rfl) (by kernel_rfl) (ad_cons (k := .vw 0) ?_ (ad_cons (k := .vw 0) ?_ ad_nil))
          · exact ed_name (i := 0) (k := .vw 0) ⟨rfl, .inl (by kernel_rfl), by decide, by decide⟩ rfl
          · refine ed_blt (cd_len (n := 0)) (by kernel_rfl) X.n_len bt_len (ad_cons (k := .vw 0) ?_ ad_nil)
            exact ed_name (i := 0) (k := .vw 0) ⟨rfl, .inl (by kernel_rfl), by decide, by decide⟩ rfl
        exact bx_nil rfl (.same (.same .nil))
      · refine bx_one (sx_if ?_ ?_ ?_)
        · refine td_cmp (ob_eq (n := 0) (m := 0)) ?_ ?_
          · exact ed_name (i := 1) (k := .vw 0) ⟨rfl, .inl (by kernel_rfl), by decide, by decide⟩ rfl
          · exact ed_int
        · refine bx_seq (sx_expr (k := .vw 0) ?_) fun _ => ?_
          · refine ed_call (c_line_paper X) (Nat.le_of_ble_eq_true rfl) (by kernel_rfl) (ad_cons (k := .vw 0) ?_ (ad_cons (k := .vw 0) ?_ ad_nil))
            · exact ed_name (i := 0) (k := .vw 0) ⟨rfl, .inl (by kernel_rfl), by decide, by decide⟩ rfl
            · refine ed_neg ?_
              exact ed_int
          exact bx_nil rfl (.same (.same .nil))
        · refine bx_seq (sx_expr (k := .vw 0) ?_) fun _ => ?_
          · refine ed_call (c_is_continued X) (Nat.le_of_ble_eq_true rfl) (by kernel_rfl) (ad_cons (k := .vw 0) ?_ (ad_cons (k := .vw 0) ?_ (ad_cons (k := .vw 0) ?_ ad_nil)))
            · exact ed_int
            · refine ed_bin od_addA ?_ ?_
              · refine ED.up ?_
                refine ed_blt (cd_len (n := 0)) (by kernel_rfl) X.n_len bt_len (ad_cons (k := .vw 0) ?_ ad_nil)
                exact ed_name (i := 0) (k := .vw 0) ⟨rfl, .inl (by kernel_rfl), by decide, by decide⟩ rfl
              · refine ED.up ?_
                exact ed_int
            · exact ed_name (i := 0) (k := .vw 0) ⟨rfl, .inl (by kernel_rfl), by decide, by decide⟩ rfl
          exact bx_nil rfl (.same (.same .nil))
      · refine bx_retD ?_
        exact ed_bl
theorem sc_law : FnScope ["script", "state", "pairs", "events", "texts", "chain", "rows", "digest", "word", "turn", "place", "paper", "at", "event", "text", "k", "side", "turned", "others", "due", "count", "pair", "kind"] ["script"] (defScope Hd.s_law) := C8.fnScope_by (by kernel_rfl)
theorem x_law {C : Cst} (X : Ctx C) {fd : FuncData} (F : FunD C.K "law" "law" (defArgs Hd.s_law) (defBody Hd.s_law) (defScope Hd.s_law) [] [] (He.ga C.K "law") fd) : FnOk C.P C.w C.K C.mg C.base (L2.CX C.P C.w) 9 (He.ga C.K "law") fd ["script"] (spD C [.p (.vw 0)] (.vw 0) m_law) := by
  refine def_fn (k := 8) F sc_law rfl fun W ds h => ?_
  match ds, h with
  | [script'1], _ =>
    show BX _ W _ [.val (.vw 0) (script'1), .any, .any, .any, .any, .any, .any, .any, .any, .any, .any, .any, .any, .any, .any, .any, .any, .any, .any, .any, .any, .any, .any] _ _ (b_law script'1)
    unfold b_law
    refine bx_seq (sx_set (i := 1) (k := .ow 1) ⟨rfl, .inr (by kernel_rfl), .inl rfl⟩ rfl ?_) fun d'3 => ?_
    · refine ed_call (c__law_state X) (Nat.le_of_ble_eq_true rfl) (by kernel_rfl) (ad_cons (k := .vw 0) ?_ ad_nil)
      exact ed_name (i := 0) (k := .vw 0) ⟨rfl, .inl (by kernel_rfl), by decide, by decide⟩ rfl
    refine bx_ow (i := 1) rfl fun ds'4 => ?_
    refine bx_amb (i := 1) rfl ?_
    show BX _ W _ [.any, .am, .any, .any, .any, .any, .any, .any, .any, .any, .any, .any, .any, .any, .any, .any, .any, .any, .any, .any, .any, .any, .any] _ _ _
    refine bx_seq (sx_setA (i := 2) (k := .vw 0) ⟨rfl, .inl (by kernel_rfl), .inl rfl⟩ rfl ?_ (by kernel_rfl)) fun pairs'11 => ?_
    · refine EA.fr (n := 1) ?_
      refine ea_map (own := [("k", 15)]) ?_ (gd_name (i := 15) ⟨rfl, .inl (by kernel_rfl), .inr (by kernel_rfl)⟩) (fun k'7 => ?_) (by kernel_rfl) (by simp)
      · refine id_range1 (by kernel_rfl) X.n_range (ad_cons (k := .vw 0) ?_ ad_nil)
        refine ed_call (c__law_draw X) (Nat.le_of_ble_eq_true rfl) (by kernel_rfl) (ad_am (i := 1) ⟨rfl, .inr (.inl (by kernel_rfl)), by decide, by decide⟩ rfl (ad_cons (k := .vw 0) ?_ ad_nil))
        exact ed_int
      · exact ed_call (κ := fun f => f [.none]) (c__law_event X) (Nat.le_of_ble_eq_true rfl) (by kernel_rfl) (ad_am (i := 1) ⟨rfl, .inr (.inl (by kernel_rfl)), by decide, by decide⟩ rfl ad_nil)
    refine bx_seq (sx_setC (i := 3) (k := .vw 0) ⟨rfl, .inr (by kernel_rfl), .inl rfl⟩ rfl ?_ (by kernel_rfl)) fun events'19 => ?_
    · refine EA.fr (n := 1) ?_
      refine ea_map (own := [("pair", 21)]) ?_ (gd_name (i := 21) ⟨rfl, .inl (by kernel_rfl), .inr (by kernel_rfl)⟩) (fun pair'13 => ?_) (by kernel_rfl) (by simp)
      · refine id_any ?_
        exact ed_name (i := 2) (k := .vw 0) ⟨rfl, .inl (by kernel_rfl), by decide, by decide⟩ rfl
      · refine ed_ix (n := 0) ?_ ?_
        · exact ed_name (i := 21) (k := .vw 0) ⟨rfl, .inl (by kernel_rfl), by decide, by decide⟩ rfl
        · exact ed_int
    refine bx_seq (sx_setC (i := 4) (k := .vw 0) ⟨rfl, .inr (by kernel_rfl), .inl rfl⟩ rfl ?_ (by kernel_rfl)) fun texts'27 => ?_
    · refine EA.fr (n := 1) ?_
      refine ea_map (own := [("pair", 21)]) ?_ (gd_name (i := 21) ⟨rfl, .inl (by kernel_rfl), .inr (by kernel_rfl)⟩) (fun pair'21 => ?_) (by kernel_rfl) (by simp)
      · refine id_any ?_
        exact ed_name (i := 2) (k := .vw 0) ⟨rfl, .inl (by kernel_rfl), by decide, by decide⟩ rfl
      · refine ed_ix (n := 0) ?_ ?_
        · exact ed_name (i := 21) (k := .vw 0) ⟨rfl, .inl (by kernel_rfl), by decide, by decide⟩ rfl
        · exact ed_int
    refine bx_seq (sx_set (i := 5) (k := .vw 0) ⟨rfl, .inl (by kernel_rfl), .inl rfl⟩ rfl ?_) fun chain'29 => ?_
    · refine ed_callR (c__law_chain X) (Nat.le_of_ble_eq_true rfl) (by kernel_rfl) (ad_cons (k := .vw 0) ?_ ad_nil)
      exact ed_name (i := 4) (k := .vw 0) ⟨rfl, .inr (.inl (by kernel_rfl)), by decide, by decide⟩ rfl
    refine bx_ifD ?_ ?_ ?_
    · refine WD.td ?_
      refine wd_or ?_ ?_
      · refine td_cmp (ob_ne (n := 0) (m := 0)) ?_ ?_
        · refine ed_callR (c_chain_digests X) (Nat.le_of_ble_eq_true rfl) (by kernel_rfl) (ad_cons (k := .vw 0) ?_ ad_nil)
          refine ED.fr (n := 1) ?_
          refine ed_blty cd_list (by kernel_rfl) X.n_list bt_list (ad_cons (k := .vw 1) ?_ ad_nil)
          refine ED.up ?_
          exact ed_name (i := 3) (k := .vw 0) ⟨rfl, .inr (.inl (by kernel_rfl)), by decide, by decide⟩ rfl
        · exact ed_name (i := 5) (k := .vw 0) ⟨rfl, .inl (by kernel_rfl), by decide, by decide⟩ rfl
      · refine wd_or1 ?_
        refine td_cmp ob_gt ?_ ?_
        · refine ed_blt (cd_len (n := 0)) (by kernel_rfl) X.n_len bt_len (ad_cons (k := .vw 0) ?_ ad_nil)
          refine ED.fr (n := 1) ?_
          refine ed_flt (own := [("kind", 22)]) ?_ (gd_name (i := 22) ⟨rfl, .inl (by kernel_rfl), .inr (by kernel_rfl)⟩) (fun kind'35 => tsd_one ?_) (fun kind'35 => ?_) (by kernel_rfl) (by simp)
          · refine id_range1 (by kernel_rfl) X.n_range (ad_cons (k := .vw 0) ?_ ad_nil)
            exact ed_int
          · refine td_not ?_
            refine td_val (n := 0) ?_
            refine ed_callR (c__law_refused X) (Nat.le_of_ble_eq_true rfl) (by kernel_rfl) (ad_cons (k := .vw 0) ?_ (ad_cons (k := .vw 0) ?_ ad_nil))
            · refine ED.fr (n := 1) ?_
              refine ed_blty cd_list (by kernel_rfl) X.n_list bt_list (ad_cons (k := .vw 1) ?_ ad_nil)
              refine ED.up ?_
              exact ed_name (i := 3) (k := .vw 0) ⟨rfl, .inr (.inl (by kernel_rfl)), by decide, by decide⟩ rfl
            · exact ed_name (i := 22) (k := .vw 0) ⟨rfl, .inl (by kernel_rfl), by decide, by decide⟩ rfl
          · exact ed_name (i := 22) (k := .vw 0) ⟨rfl, .inl (by kernel_rfl), by decide, by decide⟩ rfl
        · exact ed_int
    · refine bx_retD ?_
      exact ed_bl
    · refine bx_ifD ?_ ?_ ?_
      · refine td_cmp (ob_ne (n := 0) (m := 0)) ?_ ?_
        · refine ED.fr (n := 1) ?_
          refine ed_map (own := [("k", 15)]) ?_ (gd_name (i := 15) ⟨rfl, .inl (by kernel_rfl), .inr (by kernel_rfl)⟩) (fun k'49 => ?_) (by kernel_rfl) (by simp)
          · refine id_range1 (by kernel_rfl) X.n_range (ad_cons (k := .vw 0) ?_ ad_nil)
            refine ed_blt (cd_len (n := 0)) (by kernel_rfl) X.n_len bt_len (ad_cons (k := .vw 0) ?_ ad_nil)
            exact ed_name (i := 3) (k := .vw 0) ⟨rfl, .inr (.inl (by kernel_rfl)), by decide, by decide⟩ rfl
          · refine ed_callR (c_journal_line X) (Nat.le_of_ble_eq_true rfl) (by kernel_rfl) (ad_cons (k := .vw 0) ?_ (ad_cons (k := .vw 0) ?_ ad_nil))
            · exact ed_name (i := 15) (k := .vw 0) ⟨rfl, .inl (by kernel_rfl), by decide, by decide⟩ rfl
            · refine ed_ix (n := 0) ?_ ?_
              · exact ed_name (i := 3) (k := .vw 0) ⟨rfl, .inr (.inl (by kernel_rfl)), by decide, by decide⟩ rfl
              · exact ed_name (i := 15) (k := .vw 0) ⟨rfl, .inl (by kernel_rfl), by decide, by decide⟩ rfl
        · refine ED.fr (n := 1) ?_
          refine ed_map (own := [("k", 15)]) ?_ (gd_name (i := 15) ⟨rfl, .inl (by kernel_rfl), .inr (by kernel_rfl)⟩) (fun k'59 => ?_) (by kernel_rfl) (by simp)
          · refine id_range1 (by kernel_rfl) X.n_range (ad_cons (k := .vw 0) ?_ ad_nil)
            refine ed_blt (cd_len (n := 0)) (by kernel_rfl) X.n_len bt_len (ad_cons (k := .vw 0) ?_ ad_nil)
            exact ed_name (i := 4) (k := .vw 0) ⟨rfl, .inr (.inl (by kernel_rfl)), by decide, by decide⟩ rfl
          · refine ed_callR (c__law_line X) (Nat.le_of_ble_eq_true rfl) (by kernel_rfl) (ad_cons (k := .vw 0) ?_ (ad_cons (k := .vw 0) ?_ ad_nil))
            · exact ed_name (i := 15) (k := .vw 0) ⟨rfl, .inl (by kernel_rfl), by decide, by decide⟩ rfl
            · refine ed_ix (n := 0) ?_ ?_
              · exact ed_name (i := 4) (k := .vw 0) ⟨rfl, .inr (.inl (by kernel_rfl)), by decide, by decide⟩ rfl
              · exact ed_name (i := 15) (k := .vw 0) ⟨rfl, .inl (by kernel_rfl), by decide, by decide⟩ rfl
      · refine bx_retD ?_
        exact ed_bl
      · refine bx_seqE (J := fun (j'256 : Unit) => [.any, .am, .val (.vw 0) (pairs'11), .val (.vw 0) (events'19), .val (.vw 0) (texts'27), .val (.vw 0) (chain'29), .any, .any, .any, .any, .any, .any, .any, .any, .any, .any, .any, .any, .any, .any, .any, .any, .any]) (g := fun d => d) (sx_if ?_ ?_ ?_) (fun _ => rfl) fun j'256 => ?_
        · refine td_cmp (ob_eq (n := 0) (m := 0)) ?_ ?_
          · refine ed_blt (cd_len (n := 0)) (by kernel_rfl) X.n_len bt_len (ad_cons (k := .vw 0) ?_ ad_nil)
            exact ed_name (i := 3) (k := .vw 0) ⟨rfl, .inr (.inl (by kernel_rfl)), by decide, by decide⟩ rfl
          · exact ed_int
        · refine bx_one (sx_if ?_ ?_ ?_)
          · refine WD.td ?_
            refine wd_or ?_ ?_
            · refine td_cmp (ob_ne (n := 0) (m := 0)) ?_ ?_
              · refine ed_callR (c_digest_rows X) (Nat.le_of_ble_eq_true rfl) (by kernel_rfl) (ad_cons (k := .vw 0) ?_ ad_nil)
                refine ED.fr (n := 1) ?_
                exact ed_lst ad_nil
              · refine ED.fr (n := 1) ?_
                exact ed_lst ad_nil
            · refine wd_or1 ?_
              refine td_cmp (ob_ne (n := 0) (m := 0)) ?_ ?_
              · refine ed_callR (c_digest_of X) (Nat.le_of_ble_eq_true rfl) (by kernel_rfl) (ad_cons (k := .vw 0) ?_ ad_nil)
                refine ED.fr (n := 1) ?_
                exact ed_lst ad_nil
              · exact ed_int
          · refine bx_ret ?_ fun _ => rfl
            exact ed_bl
          · exact bx_nil rfl (.same (.same (.same (.same (.same (.same (.same (.same (.same (.same (.same (.same (.same (.same (.same (.same (.same (.same (.same (.same (.same (.same (.same .nil)))))))))))))))))))))))
        · refine bx_seq (sx_set (i := 6) (k := .vw 0) ⟨rfl, .inl (by kernel_rfl), .inl rfl⟩ rfl ?_) fun rows'80 => ?_
          · refine ed_callR (c__law_rows X) (Nat.le_of_ble_eq_true rfl) (by kernel_rfl) (ad_cons (k := .vw 0) ?_ ad_nil)
            exact ed_name (i := 4) (k := .vw 0) ⟨rfl, .inr (.inl (by kernel_rfl)), by decide, by decide⟩ rfl
          refine bx_seq (sx_set (i := 7) (k := .vw 0) ⟨rfl, .inl (by kernel_rfl), .inl rfl⟩ rfl ?_) fun digest'88 => ?_
          · refine ed_ix (n := 0) ?_ ?_
            · refine ed_ix (n := 0) ?_ ?_
              · exact ed_name (i := 6) (k := .vw 0) ⟨rfl, .inl (by kernel_rfl), by decide, by decide⟩ rfl
              · refine ed_bin od_sub ?_ ?_
                · refine ed_blt (cd_len (n := 0)) (by kernel_rfl) X.n_len bt_len (ad_cons (k := .vw 0) ?_ ad_nil)
                  exact ed_name (i := 6) (k := .vw 0) ⟨rfl, .inl (by kernel_rfl), by decide, by decide⟩ rfl
                · exact ed_int
            · exact ed_int
          refine bx_ifT (i1 := Out.rt) (g := fun d => (.rt d : Er (Unit))) ?_ ?_ ?_ (by intro _ _ h; cases h) fun _ => rfl
          · refine WD.td ?_
            refine wd_or ?_ ?_
            · refine td_cmp (ob_ne (n := 0) (m := 0)) ?_ ?_
              · refine ed_callR (c_digest_rows X) (Nat.le_of_ble_eq_true rfl) (by kernel_rfl) (ad_cons (k := .vw 0) ?_ ad_nil)
                refine ED.fr (n := 1) ?_
                refine ed_blty cd_list (by kernel_rfl) X.n_list bt_list (ad_cons (k := .vw 1) ?_ ad_nil)
                refine ED.up ?_
                exact ed_name (i := 3) (k := .vw 0) ⟨rfl, .inr (.inl (by kernel_rfl)), by decide, by decide⟩ rfl
              · exact ed_name (i := 6) (k := .vw 0) ⟨rfl, .inl (by kernel_rfl), by decide, by decide⟩ rfl
            · refine wd_or ?_ ?_
              · refine td_cmp (ob_ne (n := 0) (m := 0)) ?_ ?_
                · refine ed_callR (c_digest_of X) (Nat.le_of_ble_eq_true rfl) (by kernel_rfl) (ad_cons (k := .vw 0) ?_ ad_nil)
                  refine ED.fr (n := 1) ?_
                  refine ed_blty cd_list (by kernel_rfl) X.n_list bt_list (ad_cons (k := .vw 1) ?_ ad_nil)
                  refine ED.up ?_
                  exact ed_name (i := 3) (k := .vw 0) ⟨rfl, .inr (.inl (by kernel_rfl)), by decide, by decide⟩ rfl
                · exact ed_name (i := 7) (k := .vw 0) ⟨rfl, .inl (by kernel_rfl), by decide, by decide⟩ rfl
              · refine wd_or1 ?_
                refine td_cmp (ob_ne (n := 0) (m := 0)) ?_ ?_
                · refine ed_callR (c_join_digests X) (Nat.le_of_ble_eq_true rfl) (by kernel_rfl) (ad_cons (k := .vw 0) ?_ (ad_cons (k := .vw 0) ?_ ad_nil))
                  · exact ed_name (i := 7) (k := .vw 0) ⟨rfl, .inl (by kernel_rfl), by decide, by decide⟩ rfl
                  · exact ed_int
                · refine ed_callR (c__law_join X) (Nat.le_of_ble_eq_true rfl) (by kernel_rfl) (ad_cons (k := .vw 0) ?_ (ad_cons (k := .vw 0) ?_ ad_nil))
                  · exact ed_name (i := 7) (k := .vw 0) ⟨rfl, .inl (by kernel_rfl), by decide, by decide⟩ rfl
                  · exact ed_int
          · refine bx_retD ?_
            exact ed_bl
          · refine bx_seq (sx_set (i := 8) (k := .vw 0) ⟨rfl, .inl (by kernel_rfl), .inl rfl⟩ rfl ?_) fun word'108 => ?_
            · refine ed_ix (n := 0) ?_ ?_
              · exact ed_str
              · refine ed_bin od_mod ?_ ?_
                · refine ed_blty cd_int (by kernel_rfl) X.n_int bt_int (ad_cons (k := .vw 0) ?_ ad_nil)
                  exact ed_name (i := 7) (k := .vw 0) ⟨rfl, .inl (by kernel_rfl), by decide, by decide⟩ rfl
                · exact ed_int
            refine bx_ifT (i1 := Out.rt) (g := fun d => (.rt d : Er (Unit))) ?_ ?_ ?_ (by intro _ _ h; cases h) fun _ => rfl
            · refine WD.td ?_
              refine wd_or ?_ ?_
              · refine td_cmp (ob_ne (n := 0) (m := 0)) ?_ ?_
                · refine ed_ix (n := 0) ?_ ?_
                  · refine ed_callR (c_short_digest X) (Nat.le_of_ble_eq_true rfl) (by kernel_rfl) (ad_cons (k := .vw 0) ?_ ad_nil)
                    exact ed_name (i := 7) (k := .vw 0) ⟨rfl, .inl (by kernel_rfl), by decide, by decide⟩ rfl
                  · exact ed_int
                · exact ed_name (i := 8) (k := .vw 0) ⟨rfl, .inl (by kernel_rfl), by decide, by decide⟩ rfl
              · refine wd_or ?_ ?_
                · refine td_cmp (ob_ne (n := 0) (m := 0)) ?_ ?_
                  · refine ed_blt (cd_len (n := 0)) (by kernel_rfl) X.n_len bt_len (ad_cons (k := .vw 0) ?_ ad_nil)
                    refine ed_callR (c_short_digest X) (Nat.le_of_ble_eq_true rfl) (by kernel_rfl) (ad_cons (k := .vw 0) ?_ ad_nil)
                    exact ed_name (i := 7) (k := .vw 0) ⟨rfl, .inl (by kernel_rfl), by decide, by decide⟩ rfl
                  · exact ed_int
                · refine wd_or1 ?_
                  refine td_cmp (ob_ne (n := 0) (m := 0)) ?_ ?_
                  · refine ed_callR (c_short_digest X) (Nat.le_of_ble_eq_true rfl) (by kernel_rfl) (ad_cons (k := .vw 0) ?_ ad_nil)
                    exact ed_int
                  · exact ed_str
            · refine bx_retD ?_
              exact ed_bl
            · refine bx_seqE (g := fun d => (.rt d : Er (Unit))) (sx_forF (J := fun (s'122 : Unit) => [.any, .am, .val (.vw 0) (pairs'11), .val (.vw 0) (events'19), .val (.vw 0) (texts'27), .val (.vw 0) (chain'29), .val (.vw 0) (rows'80), .val (.vw 0) (digest'88), .val (.vw 0) (word'108), .any, .any, .any, .any, .any, .any, .any, .any, .any, .any, .any, .any, .any, .any]) ?_ (gd_name (i := 9) ⟨rfl, .inl (by kernel_rfl), .inl rfl⟩) (fun s'122 turn'123 => ?_) (.same (.same (.same (.same (.same (.same (.same (.same (.same (.same (.same (.same (.same (.same (.same (.same (.same (.same (.same (.same (.same (.same (.same .nil)))))))))))))))))))))))) (fun _ => rfl) fun s'253 => ?_
              · refine id_range1 (by kernel_rfl) X.n_range (ad_cons (k := .vw 0) ?_ ad_nil)
                exact ed_int
              · refine bx_seq (sx_set (i := 10) (k := .vw 0) ⟨rfl, .inl (by kernel_rfl), .inl rfl⟩ rfl ?_) fun place'126 => ?_
                · refine ed_call (c__law_draw X) (Nat.le_of_ble_eq_true rfl) (by kernel_rfl) (ad_am (i := 1) ⟨rfl, .inr (.inl (by kernel_rfl)), by decide, by decide⟩ rfl (ad_cons (k := .vw 0) ?_ ad_nil))
                  refine ed_blt (cd_len (n := 0)) (by kernel_rfl) X.n_len bt_len (ad_cons (k := .vw 0) ?_ ad_nil)
                  exact ed_name (i := 3) (k := .vw 0) ⟨rfl, .inr (.inl (by kernel_rfl)), by decide, by decide⟩ rfl
                refine bx_seq (sx_set (i := 11) (k := .vw 0) ⟨rfl, .inl (by kernel_rfl), .inl rfl⟩ rfl ?_) fun paper'129 => ?_
                · refine ed_callR (c__law_paper X) (Nat.le_of_ble_eq_true rfl) (by kernel_rfl) (ad_cons (k := .vw 0) ?_ (ad_cons (k := .vw 0) ?_ ad_nil))
                  · exact ed_name (i := 6) (k := .vw 0) ⟨rfl, .inl (by kernel_rfl), by decide, by decide⟩ rfl
                  · exact ed_name (i := 10) (k := .vw 0) ⟨rfl, .inl (by kernel_rfl), by decide, by decide⟩ rfl
                refine bx_ifT (i1 := Out.rt) (g := fun d => (.rt d : Fl (Unit))) ?_ ?_ ?_ (by intro _ _ h; cases h) fun _ => rfl
                · refine WD.td ?_
                  refine wd_or ?_ ?_
                  · refine td_cmp (ob_ne (n := 0) (m := 0)) ?_ ?_
                    · refine ed_callR (c_line_paper X) (Nat.le_of_ble_eq_true rfl) (by kernel_rfl) (ad_cons (k := .vw 0) ?_ (ad_cons (k := .vw 0) ?_ ad_nil))
                      · refine ED.fr (n := 1) ?_
                        refine ed_blty cd_list (by kernel_rfl) X.n_list bt_list (ad_cons (k := .vw 1) ?_ ad_nil)
                        refine ED.up ?_
                        exact ed_name (i := 3) (k := .vw 0) ⟨rfl, .inr (.inl (by kernel_rfl)), by decide, by decide⟩ rfl
                      · exact ed_name (i := 10) (k := .vw 0) ⟨rfl, .inl (by kernel_rfl), by decide, by decide⟩ rfl
                    · exact ed_name (i := 11) (k := .vw 0) ⟨rfl, .inl (by kernel_rfl), by decide, by decide⟩ rfl
                  · refine wd_or1 ?_
                    refine td_cmp (ob_isnt (n := 0)) ?_ ?_
                    · refine ed_callR (c_judge_line X) (Nat.le_of_ble_eq_true rfl) (by kernel_rfl) (ad_cons (k := .vw 0) ?_ (ad_cons (k := .vw 0) ?_ (ad_cons (k := .vw 0) ?_ (ad_cons (k := .vw 0) ?_ ad_nil))))
                      · exact ed_name (i := 7) (k := .vw 0) ⟨rfl, .inl (by kernel_rfl), by decide, by decide⟩ rfl
                      · exact ed_name (i := 10) (k := .vw 0) ⟨rfl, .inl (by kernel_rfl), by decide, by decide⟩ rfl
                      · refine ed_ix (n := 0) ?_ ?_
                        · exact ed_name (i := 3) (k := .vw 0) ⟨rfl, .inr (.inl (by kernel_rfl)), by decide, by decide⟩ rfl
                        · exact ed_name (i := 10) (k := .vw 0) ⟨rfl, .inl (by kernel_rfl), by decide, by decide⟩ rfl
                      · exact ed_name (i := 11) (k := .vw 0) ⟨rfl, .inl (by kernel_rfl), by decide, by decide⟩ rfl
                    · exact ed_bl
                · refine bx_retD ?_
                  exact ed_bl
                · refine bx_seq (sx_set (i := 12) (k := .vw 0) ⟨rfl, .inl (by kernel_rfl), .inl rfl⟩ rfl ?_) fun at'145 => ?_
                  · refine ed_call (c__law_draw X) (Nat.le_of_ble_eq_true rfl) (by kernel_rfl) (ad_am (i := 1) ⟨rfl, .inr (.inl (by kernel_rfl)), by decide, by decide⟩ rfl (ad_cons (k := .vw 0) ?_ ad_nil))
                    refine ed_blt (cd_len (n := 0)) (by kernel_rfl) X.n_len bt_len (ad_cons (k := .vw 0) ?_ ad_nil)
                    exact ed_name (i := 3) (k := .vw 0) ⟨rfl, .inr (.inl (by kernel_rfl)), by decide, by decide⟩ rfl
                  refine bx_ifT (i1 := Out.rt) (g := fun d => (.rt d : Fl (Unit))) ?_ ?_ ?_ (by intro _ _ h; cases h) fun _ => rfl
                  · refine td_not ?_
                    refine td_val (n := 0) ?_
                    refine ed_callR (c__law_truth X) (Nat.le_of_ble_eq_true rfl) (by kernel_rfl) (ad_cons (k := .vw 0) ?_ (ad_cons (k := .vw 0) ?_ ad_nil))
                    · refine ed_callR (c_judge_line X) (Nat.le_of_ble_eq_true rfl) (by kernel_rfl) (ad_cons (k := .vw 0) ?_ (ad_cons (k := .vw 0) ?_ (ad_cons (k := .vw 0) ?_ (ad_cons (k := .vw 0) ?_ ad_nil))))
                      · exact ed_name (i := 7) (k := .vw 0) ⟨rfl, .inl (by kernel_rfl), by decide, by decide⟩ rfl
                      · exact ed_name (i := 12) (k := .vw 0) ⟨rfl, .inl (by kernel_rfl), by decide, by decide⟩ rfl
                      · refine ed_ix (n := 0) ?_ ?_
                        · exact ed_name (i := 3) (k := .vw 0) ⟨rfl, .inr (.inl (by kernel_rfl)), by decide, by decide⟩ rfl
                        · exact ed_name (i := 10) (k := .vw 0) ⟨rfl, .inl (by kernel_rfl), by decide, by decide⟩ rfl
                      · exact ed_name (i := 11) (k := .vw 0) ⟨rfl, .inl (by kernel_rfl), by decide, by decide⟩ rfl
                    · refine ed_callR (c__law_leads X) (Nat.le_of_ble_eq_true rfl) (by kernel_rfl) (ad_cons (k := .vw 0) ?_ (ad_cons (k := .vw 0) ?_ (ad_cons (k := .vw 0) ?_ (ad_cons (k := .vw 0) ?_ ad_nil))))
                      · exact ed_name (i := 7) (k := .vw 0) ⟨rfl, .inl (by kernel_rfl), by decide, by decide⟩ rfl
                      · exact ed_name (i := 12) (k := .vw 0) ⟨rfl, .inl (by kernel_rfl), by decide, by decide⟩ rfl
                      · refine ed_ix (n := 0) ?_ ?_
                        · exact ed_name (i := 4) (k := .vw 0) ⟨rfl, .inr (.inl (by kernel_rfl)), by decide, by decide⟩ rfl
                        · exact ed_name (i := 10) (k := .vw 0) ⟨rfl, .inl (by kernel_rfl), by decide, by decide⟩ rfl
                      · exact ed_name (i := 11) (k := .vw 0) ⟨rfl, .inl (by kernel_rfl), by decide, by decide⟩ rfl
                  · refine bx_retD ?_
                    exact ed_bl
                  · refine bx_seq (sx_asg (gd_lst2 (i1 := 13) (i2 := 14) ⟨rfl, .inl (by kernel_rfl), .inl rfl⟩ ⟨rfl, .inl (by kernel_rfl), .inl rfl⟩) ?_) fun t'161 => ?_
                    · exact ed_call (κ := fun f => f [.none]) (c__law_event X) (Nat.le_of_ble_eq_true rfl) (by kernel_rfl) (ad_am (i := 1) ⟨rfl, .inr (.inl (by kernel_rfl)), by decide, by decide⟩ rfl ad_nil)
                    refine bx_ifT (i1 := Out.rt) (g := fun d => (.rt d : Fl (Unit))) ?_ ?_ ?_ (by intro _ _ h; cases h) fun _ => rfl
                    · refine td_not ?_
                      refine td_val (n := 0) ?_
                      refine ed_callR (c__law_truth X) (Nat.le_of_ble_eq_true rfl) (by kernel_rfl) (ad_cons (k := .vw 0) ?_ (ad_cons (k := .vw 0) ?_ ad_nil))
                      · refine ed_callR (c_judge_line X) (Nat.le_of_ble_eq_true rfl) (by kernel_rfl) (ad_cons (k := .vw 0) ?_ (ad_cons (k := .vw 0) ?_ (ad_cons (k := .vw 0) ?_ (ad_cons (k := .vw 0) ?_ ad_nil))))
                        · exact ed_name (i := 7) (k := .vw 0) ⟨rfl, .inl (by kernel_rfl), by decide, by decide⟩ rfl
                        · exact ed_name (i := 10) (k := .vw 0) ⟨rfl, .inl (by kernel_rfl), by decide, by decide⟩ rfl
                        · exact ed_name (i := 13) (k := .vw 0) ⟨rfl, .inl (by kernel_rfl), by decide, by decide⟩ rfl
                        · exact ed_name (i := 11) (k := .vw 0) ⟨rfl, .inl (by kernel_rfl), by decide, by decide⟩ rfl
                      · refine ed_callR (c__law_leads X) (Nat.le_of_ble_eq_true rfl) (by kernel_rfl) (ad_cons (k := .vw 0) ?_ (ad_cons (k := .vw 0) ?_ (ad_cons (k := .vw 0) ?_ (ad_cons (k := .vw 0) ?_ ad_nil))))
                        · exact ed_name (i := 7) (k := .vw 0) ⟨rfl, .inl (by kernel_rfl), by decide, by decide⟩ rfl
                        · exact ed_name (i := 10) (k := .vw 0) ⟨rfl, .inl (by kernel_rfl), by decide, by decide⟩ rfl
                        · exact ed_name (i := 14) (k := .vw 0) ⟨rfl, .inl (by kernel_rfl), by decide, by decide⟩ rfl
                        · exact ed_name (i := 11) (k := .vw 0) ⟨rfl, .inl (by kernel_rfl), by decide, by decide⟩ rfl
                    · refine bx_retD ?_
                      exact ed_bl
                    · refine bx_one (sx_if ?_ ?_ ?_)
                      · refine td_cmp ob_gt ?_ ?_
                        · refine ed_blt (cd_len (n := 0)) (by kernel_rfl) X.n_len bt_len (ad_cons (k := .vw 0) ?_ ad_nil)
                          exact ed_name (i := 11) (k := .vw 0) ⟨rfl, .inl (by kernel_rfl), by decide, by decide⟩ rfl
                        · exact ed_int
                      · refine bx_seq (sx_set (i := 15) (k := .vw 0) ⟨rfl, .inl (by kernel_rfl), .inl rfl⟩ rfl ?_) fun k'179 => ?_
                        · refine ed_call (c__law_draw X) (Nat.le_of_ble_eq_true rfl) (by kernel_rfl) (ad_am (i := 1) ⟨rfl, .inr (.inl (by kernel_rfl)), by decide, by decide⟩ rfl (ad_cons (k := .vw 0) ?_ ad_nil))
                          refine ed_blt (cd_len (n := 0)) (by kernel_rfl) X.n_len bt_len (ad_cons (k := .vw 0) ?_ ad_nil)
                          exact ed_name (i := 11) (k := .vw 0) ⟨rfl, .inl (by kernel_rfl), by decide, by decide⟩ rfl
                        refine bx_seq (sx_set (i := 16) (k := .vw 0) ⟨rfl, .inl (by kernel_rfl), .inl rfl⟩ rfl ?_) fun side'191 => ?_
                        · refine ed_ix (n := 0) ?_ ?_
                          · refine ED.fr (n := 1) ?_
                            refine ed_lst (ad_cons (k := .vw 0) ?_ (ad_cons (k := .vw 0) ?_ ad_nil))
                            · exact ed_str
                            · exact ed_str
                          · refine ed_blty cd_int (by kernel_rfl) X.n_int bt_int (ad_cons (k := .vw 0) ?_ ad_nil)
                            refine ed_cmp (ob_eq (n := 0) (m := 0)) ?_ ?_
                            · refine ed_ix (n := 0) ?_ ?_
                              · refine ed_ix (n := 0) ?_ ?_
                                · exact ed_name (i := 11) (k := .vw 0) ⟨rfl, .inl (by kernel_rfl), by decide, by decide⟩ rfl
                                · exact ed_name (i := 15) (k := .vw 0) ⟨rfl, .inl (by kernel_rfl), by decide, by decide⟩ rfl
                              · exact ed_int
                            · exact ed_str
                        refine bx_seq (sx_set (i := 17) (k := .vw 0) ⟨rfl, .inl (by kernel_rfl), .inl rfl⟩ rfl ?_) fun turned'230 => ?_
                        · refine ed_bin od_addA ?_ ?_
                          · refine ED.up ?_
                            refine ed_bin od_addA ?_ ?_
                            · refine ED.up ?_
                              refine ed_slice ?_ pd_none (pd_some ?_)
                              · refine ED.up ?_
                                exact ed_name (i := 11) (k := .vw 0) ⟨rfl, .inl (by kernel_rfl), by decide, by decide⟩ rfl
                              · exact ed_name (i := 15) (k := .vw 0) ⟨rfl, .inl (by kernel_rfl), by decide, by decide⟩ rfl
                            · refine ED.up ?_
                              refine ed_tup (ad_cons (k := .vw 0) ?_ ad_nil)
                              refine ed_ix (n := 0) ?_ ?_
                              · refine ED.fr (n := 1) ?_
                                refine ed_lst (ad_cons (k := .vw 0) ?_ (ad_cons (k := .vw 0) ?_ ad_nil))
                                · refine ed_tup (ad_cons (k := .vw 0) ?_ (ad_cons (k := .vw 0) ?_ ad_nil))
                                  · exact ed_name (i := 16) (k := .vw 0) ⟨rfl, .inl (by kernel_rfl), by decide, by decide⟩ rfl
                                  · refine ed_ix (n := 0) ?_ ?_
                                    · refine ed_ix (n := 0) ?_ ?_
                                      · exact ed_name (i := 11) (k := .vw 0) ⟨rfl, .inl (by kernel_rfl), by decide, by decide⟩ rfl
                                      · exact ed_name (i := 15) (k := .vw 0) ⟨rfl, .inl (by kernel_rfl), by decide, by decide⟩ rfl
                                    · exact ed_int
                                · refine ed_tup (ad_cons (k := .vw 0) ?_ (ad_cons (k := .vw 0) ?_ ad_nil))
                                  · refine ed_ix (n := 0) ?_ ?_
                                    · refine ed_ix (n := 0) ?_ ?_
                                      · exact ed_name (i := 11) (k := .vw 0) ⟨rfl, .inl (by kernel_rfl), by decide, by decide⟩ rfl
                                      · exact ed_name (i := 15) (k := .vw 0) ⟨rfl, .inl (by kernel_rfl), by decide, by decide⟩ rfl
                                    · exact ed_int
                                  · refine ed_bin od_addA ?_ ?_
                                    · refine ED.up ?_
                                      refine ed_ix (n := 0) ?_ ?_
                                      · refine ed_ix (n := 0) ?_ ?_
                                        · exact ed_name (i := 11) (k := .vw 0) ⟨rfl, .inl (by kernel_rfl), by decide, by decide⟩ rfl
                                        · exact ed_name (i := 15) (k := .vw 0) ⟨rfl, .inl (by kernel_rfl), by decide, by decide⟩ rfl
                                      · exact ed_int
                                    · refine ED.up ?_
                                      exact ed_int
                              · refine ed_call (c__law_draw X) (Nat.le_of_ble_eq_true rfl) (by kernel_rfl) (ad_am (i := 1) ⟨rfl, .inr (.inl (by kernel_rfl)), by decide, by decide⟩ rfl (ad_cons (k := .vw 0) ?_ ad_nil))
                                exact ed_int
                          · refine ED.up ?_
                            refine ed_slice ?_ (pd_some ?_) pd_none
                            · refine ED.up ?_
                              exact ed_name (i := 11) (k := .vw 0) ⟨rfl, .inl (by kernel_rfl), by decide, by decide⟩ rfl
                            · refine ed_bin od_addA ?_ ?_
                              · refine ED.up ?_
                                exact ed_name (i := 15) (k := .vw 0) ⟨rfl, .inl (by kernel_rfl), by decide, by decide⟩ rfl
                              · refine ED.up ?_
                                exact ed_int
                        refine bx_one (sx_if ?_ ?_ ?_)
                        · refine td_not ?_
                          refine td_val (n := 0) ?_
                          refine ed_callR (c__law_truth X) (Nat.le_of_ble_eq_true rfl) (by kernel_rfl) (ad_cons (k := .vw 0) ?_ (ad_cons (k := .vw 0) ?_ ad_nil))
                          · refine ed_callR (c_judge_line X) (Nat.le_of_ble_eq_true rfl) (by kernel_rfl) (ad_cons (k := .vw 0) ?_ (ad_cons (k := .vw 0) ?_ (ad_cons (k := .vw 0) ?_ (ad_cons (k := .vw 0) ?_ ad_nil))))
                            · exact ed_name (i := 7) (k := .vw 0) ⟨rfl, .inl (by kernel_rfl), by decide, by decide⟩ rfl
                            · exact ed_name (i := 10) (k := .vw 0) ⟨rfl, .inl (by kernel_rfl), by decide, by decide⟩ rfl
                            · refine ed_ix (n := 0) ?_ ?_
                              · exact ed_name (i := 3) (k := .vw 0) ⟨rfl, .inr (.inl (by kernel_rfl)), by decide, by decide⟩ rfl
                              · exact ed_name (i := 10) (k := .vw 0) ⟨rfl, .inl (by kernel_rfl), by decide, by decide⟩ rfl
                            · exact ed_name (i := 17) (k := .vw 0) ⟨rfl, .inl (by kernel_rfl), by decide, by decide⟩ rfl
                          · refine ed_callR (c__law_leads X) (Nat.le_of_ble_eq_true rfl) (by kernel_rfl) (ad_cons (k := .vw 0) ?_ (ad_cons (k := .vw 0) ?_ (ad_cons (k := .vw 0) ?_ (ad_cons (k := .vw 0) ?_ ad_nil))))
                            · exact ed_name (i := 7) (k := .vw 0) ⟨rfl, .inl (by kernel_rfl), by decide, by decide⟩ rfl
                            · exact ed_name (i := 10) (k := .vw 0) ⟨rfl, .inl (by kernel_rfl), by decide, by decide⟩ rfl
                            · refine ed_ix (n := 0) ?_ ?_
                              · exact ed_name (i := 4) (k := .vw 0) ⟨rfl, .inr (.inl (by kernel_rfl)), by decide, by decide⟩ rfl
                              · exact ed_name (i := 10) (k := .vw 0) ⟨rfl, .inl (by kernel_rfl), by decide, by decide⟩ rfl
                            · exact ed_name (i := 17) (k := .vw 0) ⟨rfl, .inl (by kernel_rfl), by decide, by decide⟩ rfl
                        · refine bx_ret ?_ fun _ => rfl
                          exact ed_bl
                        · exact bx_nil rfl (.same (.same (.same (.same (.same (.same (.same (.same (.same (.any (.any (.any (.any (.any (.any (.any (.any (.any (.same (.same (.same (.same (.same .nil)))))))))))))))))))))))
                      · exact bx_nil rfl (.same (.same (.same (.same (.same (.same (.same (.same (.same (.any (.any (.any (.any (.any (.any (.same (.same (.same (.same (.same (.same (.same (.same .nil)))))))))))))))))))))))
              · exact bx_nil rfl (.same (.same (.same (.same (.same (.same (.any (.any (.any (.same (.same (.same (.same (.same (.same (.same (.same (.same (.same (.same (.same (.same (.same .nil)))))))))))))))))))))))
        · refine bx_seq (sx_set (i := 18) (k := .ow 1) ⟨rfl, .inl (by kernel_rfl), .inl rfl⟩ rfl ?_) fun d'258 => ?_
          · refine ed_blty cd_list (by kernel_rfl) X.n_list bt_list (ad_cons (k := .vw 1) ?_ ad_nil)
            refine ED.up ?_
            exact ed_name (i := 2) (k := .vw 0) ⟨rfl, .inl (by kernel_rfl), by decide, by decide⟩ rfl
          refine bx_ow (i := 18) rfl fun others'259 => ?_
          refine bx_seq (J := fun (j'271 : List D) => [.any, .am, .val (.vw 0) (pairs'11), .val (.vw 0) (events'19), .val (.vw 0) (texts'27), .val (.vw 0) (chain'29), .any, .any, .any, .any, .any, .any, .any, .any, .any, .any, .any, .any, .val (.ow 1) (.list (j'271)), .any, .any, .any, .any]) (sx_if ?_ ?_ ?_) fun j'271 => ?_
          · refine WD.td ?_
            refine wd_and ?_ ?_
            · refine td_cmp ob_gt ?_ ?_
              · refine ed_blt (cd_len (n := 0)) (by kernel_rfl) X.n_len bt_len (ad_cons (k := .vw 0) ?_ ad_nil)
                exact ed_name (i := 2) (k := .vw 0) ⟨rfl, .inl (by kernel_rfl), by decide, by decide⟩ rfl
              · exact ed_int
            · refine wd_and1 ?_
              refine td_cmp (ob_eq (n := 0) (m := 0)) ?_ ?_
              · refine ed_call (c__law_draw X) (Nat.le_of_ble_eq_true rfl) (by kernel_rfl) (ad_am (i := 1) ⟨rfl, .inr (.inl (by kernel_rfl)), by decide, by decide⟩ rfl (ad_cons (k := .vw 0) ?_ ad_nil))
                exact ed_int
              · exact ed_int
          · refine bx_seq (sx_setI (i := 18) ⟨rfl, .inl (by kernel_rfl), by decide, by decide⟩ rfl ?_ ?_) fun others'270 => ?_
            · exact ed_call (κ := fun f => f [.none]) (c__law_event X) (Nat.le_of_ble_eq_true rfl) (by kernel_rfl) (ad_am (i := 1) ⟨rfl, .inr (.inl (by kernel_rfl)), by decide, by decide⟩ rfl ad_nil)
            · refine ed_call (c__law_draw X) (Nat.le_of_ble_eq_true rfl) (by kernel_rfl) (ad_am (i := 1) ⟨rfl, .inr (.inl (by kernel_rfl)), by decide, by decide⟩ rfl (ad_cons (k := .vw 0) ?_ ad_nil))
              refine ed_blt (cd_len (n := 0)) (by kernel_rfl) X.n_len bt_len (ad_cons (k := .vw 0) ?_ ad_nil)
              exact ed_name (i := 2) (k := .vw 0) ⟨rfl, .inl (by kernel_rfl), by decide, by decide⟩ rfl
            exact bx_nil rfl (.same (.same (.same (.same (.same (.same (.same (.same (.same (.same (.same (.same (.same (.same (.same (.same (.same (.same (.same (.same (.same (.same (.same .nil)))))))))))))))))))))))
          · exact bx_nil rfl (.same (.same (.same (.same (.same (.same (.same (.same (.same (.same (.same (.same (.same (.same (.same (.same (.same (.same (.same (.same (.same (.same (.same .nil)))))))))))))))))))))))
          · refine bx_seq (sx_set (i := 18) (k := .ow 1) ⟨rfl, .inl (by kernel_rfl), .inl rfl⟩ rfl ?_) fun d'294 => ?_
            · refine ed_bin od_cat ?_ ?_
              · refine ED.up ?_
                refine ed_slice ?_ pd_none (pd_some ?_)
                · exact ed_name (i := 18) (k := .ow 1) ⟨rfl, .inl (by kernel_rfl), by decide, by decide⟩ rfl
                · refine ed_bin od_sub ?_ ?_
                  · refine ed_blt (cd_len (n := 1)) (by kernel_rfl) X.n_len bt_len (ad_cons (k := .vw 1) ?_ ad_nil)
                    exact ed_name (i := 18) (k := .ow 1) ⟨rfl, .inl (by kernel_rfl), by decide, by decide⟩ rfl
                  · refine ed_blt cd_min2 (by kernel_rfl) X.n_min bt_min (ad_cons (k := .vw 0) ?_ (ad_cons (k := .vw 0) ?_ ad_nil))
                    · refine ed_blt (cd_len (n := 1)) (by kernel_rfl) X.n_len bt_len (ad_cons (k := .vw 1) ?_ ad_nil)
                      exact ed_name (i := 18) (k := .ow 1) ⟨rfl, .inl (by kernel_rfl), by decide, by decide⟩ rfl
                    · refine ed_bin od_mul ?_ ?_
                      · refine ed_call (c__law_draw X) (Nat.le_of_ble_eq_true rfl) (by kernel_rfl) (ad_am (i := 1) ⟨rfl, .inr (.inl (by kernel_rfl)), by decide, by decide⟩ rfl (ad_cons (k := .vw 0) ?_ ad_nil))
                        exact ed_int
                      · refine ed_call (c__law_draw X) (Nat.le_of_ble_eq_true rfl) (by kernel_rfl) (ad_am (i := 1) ⟨rfl, .inr (.inl (by kernel_rfl)), by decide, by decide⟩ rfl (ad_cons (k := .vw 0) ?_ ad_nil))
                        exact ed_int
              · refine ED.see (k := .ow 1) ?_
                refine ed_map (own := [("k", 15)]) ?_ (gd_name (i := 15) ⟨rfl, .inl (by kernel_rfl), .inr (by kernel_rfl)⟩) (fun k'288 => ?_) (by kernel_rfl) (by simp)
                · refine id_range1 (by kernel_rfl) X.n_range (ad_cons (k := .vw 0) ?_ ad_nil)
                  refine ed_call (c__law_draw X) (Nat.le_of_ble_eq_true rfl) (by kernel_rfl) (ad_am (i := 1) ⟨rfl, .inr (.inl (by kernel_rfl)), by decide, by decide⟩ rfl (ad_cons (k := .vw 0) ?_ ad_nil))
                  exact ed_int
                · exact ed_call (κ := fun f => f [.none]) (c__law_event X) (Nat.le_of_ble_eq_true rfl) (by kernel_rfl) (ad_am (i := 1) ⟨rfl, .inr (.inl (by kernel_rfl)), by decide, by decide⟩ rfl ad_nil)
            refine bx_ow (i := 18) rfl fun others'295 => ?_
            refine bx_fr (i := 18) rfl ?_
            refine bx_seq (sx_set (i := 19) (k := .vw 0) ⟨rfl, .inl (by kernel_rfl), .inl rfl⟩ rfl ?_) fun due'305 => ?_
            · refine ed_callR (c__law_apart X) (Nat.le_of_ble_eq_true rfl) (by kernel_rfl) (ad_cons (k := .vw 0) ?_ (ad_cons (k := .vw 0) ?_ ad_nil))
              · exact ed_name (i := 4) (k := .vw 0) ⟨rfl, .inr (.inl (by kernel_rfl)), by decide, by decide⟩ rfl
              · refine ED.fr (n := 1) ?_
                refine ed_map (own := [("pair", 21)]) ?_ (gd_name (i := 21) ⟨rfl, .inl (by kernel_rfl), .inr (by kernel_rfl)⟩) (fun pair'297 => ?_) (by kernel_rfl) (by simp)
                · refine id_any ?_
                  exact ed_name (i := 18) (k := .vw 0) ⟨rfl, .inl (by kernel_rfl), by decide, by decide⟩ rfl
                · refine ed_ix (n := 0) ?_ ?_
                  · exact ed_name (i := 21) (k := .vw 0) ⟨rfl, .inl (by kernel_rfl), by decide, by decide⟩ rfl
                  · exact ed_int
            refine bx_ifD ?_ ?_ ?_
            · refine WD.td ?_
              refine wd_or ?_ ?_
              · refine td_cmp (ob_ne (n := 0) (m := 0)) ?_ ?_
                · refine ed_callR (c_first_apart X) (Nat.le_of_ble_eq_true rfl) (by kernel_rfl) (ad_cons (k := .vw 0) ?_ (ad_cons (k := .vw 0) ?_ ad_nil))
                  · refine ED.fr (n := 1) ?_
                    refine ed_blty cd_list (by kernel_rfl) X.n_list bt_list (ad_cons (k := .vw 1) ?_ ad_nil)
                    refine ED.up ?_
                    exact ed_name (i := 3) (k := .vw 0) ⟨rfl, .inr (.inl (by kernel_rfl)), by decide, by decide⟩ rfl
                  · refine ED.fr (n := 1) ?_
                    refine ed_map (own := [("pair", 21)]) ?_ (gd_name (i := 21) ⟨rfl, .inl (by kernel_rfl), .inr (by kernel_rfl)⟩) (fun pair'307 => ?_) (by kernel_rfl) (by simp)
                    · refine id_any ?_
                      exact ed_name (i := 18) (k := .vw 0) ⟨rfl, .inl (by kernel_rfl), by decide, by decide⟩ rfl
                    · refine ed_ix (n := 0) ?_ ?_
                      · exact ed_name (i := 21) (k := .vw 0) ⟨rfl, .inl (by kernel_rfl), by decide, by decide⟩ rfl
                      · exact ed_int
                · exact ed_name (i := 19) (k := .vw 0) ⟨rfl, .inl (by kernel_rfl), by decide, by decide⟩ rfl
              · refine wd_or1 ?_
                refine td_cmp (ob_isnt (n := 0)) ?_ ?_
                · refine ed_callR (c_first_apart X) (Nat.le_of_ble_eq_true rfl) (by kernel_rfl) (ad_cons (k := .vw 0) ?_ (ad_cons (k := .vw 0) ?_ ad_nil))
                  · refine ED.fr (n := 1) ?_
                    refine ed_blty cd_list (by kernel_rfl) X.n_list bt_list (ad_cons (k := .vw 1) ?_ ad_nil)
                    refine ED.up ?_
                    exact ed_name (i := 3) (k := .vw 0) ⟨rfl, .inr (.inl (by kernel_rfl)), by decide, by decide⟩ rfl
                  · refine ED.fr (n := 1) ?_
                    refine ed_blty cd_list (by kernel_rfl) X.n_list bt_list (ad_cons (k := .vw 1) ?_ ad_nil)
                    refine ED.up ?_
                    exact ed_name (i := 3) (k := .vw 0) ⟨rfl, .inr (.inl (by kernel_rfl)), by decide, by decide⟩ rfl
                · exact ed_non
            · refine bx_retD ?_
              exact ed_bl
            · refine bx_seq (sx_set (i := 20) (k := .vw 0) ⟨rfl, .inl (by kernel_rfl), .inl rfl⟩ rfl ?_) fun count'328 => ?_
              · refine ed_call (c__law_draw X) (Nat.le_of_ble_eq_true rfl) (by kernel_rfl) (ad_am (i := 1) ⟨rfl, .inr (.inl (by kernel_rfl)), by decide, by decide⟩ rfl (ad_cons (k := .vw 0) ?_ ad_nil))
                refine ed_bin od_addA ?_ ?_
                · refine ED.up ?_
                  refine ed_blt (cd_len (n := 0)) (by kernel_rfl) X.n_len bt_len (ad_cons (k := .vw 0) ?_ ad_nil)
                  exact ed_name (i := 3) (k := .vw 0) ⟨rfl, .inr (.inl (by kernel_rfl)), by decide, by decide⟩ rfl
                · refine ED.up ?_
                  exact ed_int
              refine bx_ifD ?_ ?_ ?_
              · refine td_cmp (ob_isnt (n := 0)) ?_ ?_
                · refine ed_callR (c_is_continued X) (Nat.le_of_ble_eq_true rfl) (by kernel_rfl) (ad_cons (k := .vw 0) ?_ (ad_cons (k := .vw 0) ?_ (ad_cons (k := .vw 0) ?_ ad_nil)))
                  · refine ed_ix (n := 0) ?_ ?_
                    · exact ed_name (i := 5) (k := .vw 0) ⟨rfl, .inl (by kernel_rfl), by decide, by decide⟩ rfl
                    · exact ed_name (i := 20) (k := .vw 0) ⟨rfl, .inl (by kernel_rfl), by decide, by decide⟩ rfl
                  · exact ed_name (i := 20) (k := .vw 0) ⟨rfl, .inl (by kernel_rfl), by decide, by decide⟩ rfl
                  · refine ED.fr (n := 1) ?_
                    refine ed_blty cd_list (by kernel_rfl) X.n_list bt_list (ad_cons (k := .vw 1) ?_ ad_nil)
                    refine ED.up ?_
                    exact ed_name (i := 3) (k := .vw 0) ⟨rfl, .inr (.inl (by kernel_rfl)), by decide, by decide⟩ rfl
                · exact ed_bl
              · refine bx_retD ?_
                exact ed_bl
              · refine bx_retD ?_
                refine ed_and ?_ ?_
                · refine ed_cmp (ob_eq (n := 0) (m := 0)) ?_ ?_
                  · refine ed_callR (c_digest_of_text X) (Nat.le_of_ble_eq_true rfl) (by kernel_rfl) (ad_cons (k := .vw 0) ?_ ad_nil)
                    exact ed_str
                  · refine ed_callR (c__law_digest X) (Nat.le_of_ble_eq_true rfl) (by kernel_rfl) (ad_cons (k := .vw 0) ?_ ad_nil)
                    exact ed_str
                · refine ed_one ?_
                  refine ed_callR (c__law_truth X) (Nat.le_of_ble_eq_true rfl) (by kernel_rfl) (ad_cons (k := .vw 0) ?_ (ad_cons (k := .vw 0) ?_ ad_nil))
                  · refine ed_callR (c_is_continued X) (Nat.le_of_ble_eq_true rfl) (by kernel_rfl) (ad_cons (k := .vw 0) ?_ (ad_cons (k := .vw 0) ?_ (ad_cons (k := .vw 0) ?_ ad_nil)))
                    · refine ed_bin od_addA ?_ ?_
                      · refine ED.up ?_
                        refine ed_ix (n := 0) ?_ ?_
                        · exact ed_name (i := 5) (k := .vw 0) ⟨rfl, .inl (by kernel_rfl), by decide, by decide⟩ rfl
                        · exact ed_name (i := 20) (k := .vw 0) ⟨rfl, .inl (by kernel_rfl), by decide, by decide⟩ rfl
                      · refine ED.up ?_
                        exact ed_int
                    · exact ed_name (i := 20) (k := .vw 0) ⟨rfl, .inl (by kernel_rfl), by decide, by decide⟩ rfl
                    · refine ED.fr (n := 1) ?_
                      refine ed_blty cd_list (by kernel_rfl) X.n_list bt_list (ad_cons (k := .vw 1) ?_ ad_nil)
                      refine ED.up ?_
                      exact ed_name (i := 3) (k := .vw 0) ⟨rfl, .inr (.inl (by kernel_rfl)), by decide, by decide⟩ rfl
                  · exact ed_bl
theorem fa_ok {K : PySem.W.Frag} {w : World} {h : Heap} (c : He.SaysX Hd.fa Hd.fn Hd.ts [] Hd.ex w h K) (f : He.Fa) (i : Nat) (e : Hd.fa[i]? = some f) : f.ok K = true := c.t.d.fact i e
theorem ctx {P : Program} {w : World} {K : PySem.W.Frag} {mg : Str → Option Value} {h base : Heap} (KX : K.In h) (G : h.Ns mainGlobals mg) (c : He.SaysX Hd.fa Hd.fn Hd.ts [] Hd.ex w h K) : Ctx ⟨P, w, K, mg, base⟩ where
  f_sum_of_text := by obtain ⟨fd, F⟩ := c.t.d.def_ 3 (d := Hd.d_sum_of_text) rfl; exact ⟨fd, F⟩
  f__law_event := by obtain ⟨fd, F⟩ := c.t.d.def_ 20 (d := Hd.d__law_event) rfl; exact ⟨fd, F⟩
  f_text_of_bound := by obtain ⟨fd, F⟩ := c.t.d.def_ 0 (d := Hd.d_text_of_bound) rfl; exact ⟨fd, F⟩
  f__law_draw := by obtain ⟨fd, F⟩ := c.t.d.def_ 18 (d := Hd.d__law_draw) rfl; exact ⟨fd, F⟩
  f_short_digest := by obtain ⟨fd, F⟩ := c.t.d.def_ 16 (d := Hd.d_short_digest) rfl; exact ⟨fd, F⟩
  f_one_line_net := by obtain ⟨fd, F⟩ := c.t.d.def_ 4 (d := Hd.d_one_line_net) rfl; exact ⟨fd, F⟩
  f_first_apart := by obtain ⟨fd, F⟩ := c.t.d.def_ 14 (d := Hd.d_first_apart) rfl; exact ⟨fd, F⟩
  f__law_leads := by obtain ⟨fd, F⟩ := c.t.d.def_ 27 (d := Hd.d__law_leads) rfl; exact ⟨fd, F⟩
  f_digest_of_text := by obtain ⟨fd, F⟩ := c.t.d.def_ 7 (d := Hd.d_digest_of_text) rfl; exact ⟨fd, F⟩
  f_chain_digests := by obtain ⟨fd, F⟩ := c.t.d.def_ 13 (d := Hd.d_chain_digests) rfl; exact ⟨fd, F⟩
  f_is_continued := by obtain ⟨fd, F⟩ := c.t.d.def_ 15 (d := Hd.d_is_continued) rfl; exact ⟨fd, F⟩
  f_event_text := by obtain ⟨fd, F⟩ := c.t.d.def_ 5 (d := Hd.d_event_text) rfl; exact ⟨fd, F⟩
  f__law_state := by obtain ⟨fd, F⟩ := c.t.d.def_ 17 (d := Hd.d__law_state) rfl; exact ⟨fd, F⟩
  f_digest_of := by obtain ⟨fd, F⟩ := c.t.d.def_ 10 (d := Hd.d_digest_of) rfl; exact ⟨fd, F⟩
  f__law_refused := by obtain ⟨fd, F⟩ := c.t.d.def_ 30 (d := Hd.d__law_refused) rfl; exact ⟨fd, F⟩
  f_format_net := by obtain ⟨fd, F⟩ := c.t.d.def_ 1 (d := Hd.d_format_net) rfl; exact ⟨fd, F⟩
  f__law_truth := by obtain ⟨fd, F⟩ := c.t.d.def_ 19 (d := Hd.d__law_truth) rfl; exact ⟨fd, F⟩
  f__law_sum := by obtain ⟨fd, F⟩ := c.t.d.def_ 21 (d := Hd.d__law_sum) rfl; exact ⟨fd, F⟩
  f_law := by obtain ⟨fd, F⟩ := c.t.d.def_ 31 (d := Hd.d_law) rfl; exact ⟨fd, F⟩
  f_journal_line := by obtain ⟨fd, F⟩ := c.t.d.def_ 6 (d := Hd.d_journal_line) rfl; exact ⟨fd, F⟩
  f__law_apart := by obtain ⟨fd, F⟩ := c.t.d.def_ 29 (d := Hd.d__law_apart) rfl; exact ⟨fd, F⟩
  f_format_change := by obtain ⟨fd, F⟩ := c.t.d.def_ 2 (d := Hd.d_format_change) rfl; exact ⟨fd, F⟩
  f__law_paper := by obtain ⟨fd, F⟩ := c.t.d.def_ 26 (d := Hd.d__law_paper) rfl; exact ⟨fd, F⟩
  f_line_paper := by obtain ⟨fd, F⟩ := c.t.d.def_ 11 (d := Hd.d_line_paper) rfl; exact ⟨fd, F⟩
  f__law_join := by obtain ⟨fd, F⟩ := c.t.d.def_ 24 (d := Hd.d__law_join) rfl; exact ⟨fd, F⟩
  f__law_line := by obtain ⟨fd, F⟩ := c.t.d.def_ 22 (d := Hd.d__law_line) rfl; exact ⟨fd, F⟩
  f__law_digest := by obtain ⟨fd, F⟩ := c.t.d.def_ 23 (d := Hd.d__law_digest) rfl; exact ⟨fd, F⟩
  f_join_digests := by obtain ⟨fd, F⟩ := c.t.d.def_ 8 (d := Hd.d_join_digests) rfl; exact ⟨fd, F⟩
  f_digest_rows := by obtain ⟨fd, F⟩ := c.t.d.def_ 9 (d := Hd.d_digest_rows) rfl; exact ⟨fd, F⟩
  f_judge_line := by obtain ⟨fd, F⟩ := c.t.d.def_ 12 (d := Hd.d_judge_line) rfl; exact ⟨fd, F⟩
  f__law_rows := by obtain ⟨fd, F⟩ := c.t.d.def_ 25 (d := Hd.d__law_rows) rfl; exact ⟨fd, F⟩
  f__law_chain := by obtain ⟨fd, F⟩ := c.t.d.def_ 28 (d := Hd.d__law_chain) rfl; exact ⟨fd, F⟩
  g_sum_of_text := He.glo_ok KX G (fa_ok c (.glo "sum_of_text") 3 rfl)
  g__law_event := He.glo_ok KX G (fa_ok c (.glo "_law_event") 20 rfl)
  g_text_of_bound := He.glo_ok KX G (fa_ok c (.glo "text_of_bound") 0 rfl)
  g__law_draw := He.glo_ok KX G (fa_ok c (.glo "_law_draw") 18 rfl)
  g_short_digest := He.glo_ok KX G (fa_ok c (.glo "short_digest") 16 rfl)
  g_one_line_net := He.glo_ok KX G (fa_ok c (.glo "one_line_net") 4 rfl)
  g_first_apart := He.glo_ok KX G (fa_ok c (.glo "first_apart") 14 rfl)
  g__law_leads := He.glo_ok KX G (fa_ok c (.glo "_law_leads") 27 rfl)
  g_digest_of_text := He.glo_ok KX G (fa_ok c (.glo "digest_of_text") 7 rfl)
  g_chain_digests := He.glo_ok KX G (fa_ok c (.glo "chain_digests") 13 rfl)
  g_is_continued := He.glo_ok KX G (fa_ok c (.glo "is_continued") 15 rfl)
  g_event_text := He.glo_ok KX G (fa_ok c (.glo "event_text") 5 rfl)
  g__law_state := He.glo_ok KX G (fa_ok c (.glo "_law_state") 17 rfl)
  g_digest_of := He.glo_ok KX G (fa_ok c (.glo "digest_of") 10 rfl)
  g__law_refused := He.glo_ok KX G (fa_ok c (.glo "_law_refused") 30 rfl)
  g_format_net := He.glo_ok KX G (fa_ok c (.glo "format_net") 1 rfl)
  g__law_truth := He.glo_ok KX G (fa_ok c (.glo "_law_truth") 19 rfl)
  g__law_sum := He.glo_ok KX G (fa_ok c (.glo "_law_sum") 21 rfl)
  g_law := He.glo_ok KX G (fa_ok c (.glo "law") 31 rfl)
  g_journal_line := He.glo_ok KX G (fa_ok c (.glo "journal_line") 6 rfl)
  g__law_apart := He.glo_ok KX G (fa_ok c (.glo "_law_apart") 29 rfl)
  g_format_change := He.glo_ok KX G (fa_ok c (.glo "format_change") 2 rfl)
  g__law_paper := He.glo_ok KX G (fa_ok c (.glo "_law_paper") 26 rfl)
  g_line_paper := He.glo_ok KX G (fa_ok c (.glo "line_paper") 11 rfl)
  g__law_join := He.glo_ok KX G (fa_ok c (.glo "_law_join") 24 rfl)
  g__law_line := He.glo_ok KX G (fa_ok c (.glo "_law_line") 22 rfl)
  g__law_digest := He.glo_ok KX G (fa_ok c (.glo "_law_digest") 23 rfl)
  g_join_digests := He.glo_ok KX G (fa_ok c (.glo "join_digests") 8 rfl)
  g_digest_rows := He.glo_ok KX G (fa_ok c (.glo "digest_rows") 9 rfl)
  g_judge_line := He.glo_ok KX G (fa_ok c (.glo "judge_line") 12 rfl)
  g__law_rows := He.glo_ok KX G (fa_ok c (.glo "_law_rows") 25 rfl)
  g__law_chain := He.glo_ok KX G (fa_ok c (.glo "_law_chain") 28 rfl)
  g_EbbError := He.glo_ok KX G (fa_ok c (.glo "EbbError") 32 rfl)
  e_EbbError := ⟨_, He.glo_ok KX G (fa_ok c (.glo "EbbError") 32 rfl), He.exc_ok (fa_ok c (.exc "EbbError") 51 rfl)⟩
  g_NotPossible := He.glo_ok KX G (fa_ok c (.glo "NotPossible") 33 rfl)
  e_NotPossible := ⟨_, He.glo_ok KX G (fa_ok c (.glo "NotPossible") 33 rfl), He.exc_ok (fa_ok c (.exc "NotPossible") 54 rfl)⟩
  n_ValueError := He.free_ok KX G (fa_ok c (.free "ValueError") 41 rfl)
  n_enumerate := He.free_ok KX G (fa_ok c (.free "enumerate") 42 rfl)
  n_int := He.free_ok KX G (fa_ok c (.free "int") 43 rfl)
  n_len := He.free_ok KX G (fa_ok c (.free "len") 44 rfl)
  n_list := He.free_ok KX G (fa_ok c (.free "list") 45 rfl)
  n_min := He.free_ok KX G (fa_ok c (.free "min") 46 rfl)
  n_range := He.free_ok KX G (fa_ok c (.free "range") 47 rfl)
  n_str := He.free_ok KX G (fa_ok c (.free "str") 48 rfl)
  n_tuple := He.free_ok KX G (fa_ok c (.free "tuple") 49 rfl)
  n_zip := He.free_ok KX G (fa_ok c (.free "zip") 50 rfl)
  i_MODULUS := He.int_ok KX G (fa_ok c (.int "MODULUS" (9973)) 34 rfl)
  i_PRIME := He.int_ok KX G (fa_ok c (.int "PRIME" (2305843009213693951)) 35 rfl)
  i_FACTOR := He.int_ok KX G (fa_ok c (.int "FACTOR" (1000003)) 36 rfl)
  s_SIGNS := He.str_ok KX G (fa_ok c (.str "SIGNS" " abcdefghijklmnopqrstuvwxyz0123456789.-;|") 37 rfl)
  s_CODES := He.str_ok KX G (fa_ok c (.str "CODES" " abcdefghijklmnopqrstuvwxyz0123456789.-;|") 38 rfl)
  t_KINDS := by obtain ⟨es, n, kd⟩ := c.t.tab 0; exact ⟨_, es, n, He.glo_ok KX G (fa_ok c (.glo "KINDS") 39 rfl), kd, (He.ba c.more).1⟩
  t_WORDS := by obtain ⟨es, n, kd⟩ := c.t.tab 1; exact ⟨_, es, n, He.glo_ok KX G (fa_ok c (.glo "WORDS") 40 rfl), kd, (He.ba c.more).2⟩
  h_NotPossible := by
    intro y b e a ha
    unfold hit_NotPossible at e
    split at e
    · rename_i h; subst h; cases e
      have z := ha.symm.trans (He.glo_ok KX G (fa_ok c (.glo "EbbError") 32 rfl))
      cases z
      exact He.exm_ok (fa_ok c (.exm "EbbError" "NotPossible" false) 53 rfl)
    split at e
    · rename_i h; subst h; cases e
      have z := ha.symm.trans (He.glo_ok KX G (fa_ok c (.glo "NotPossible") 33 rfl))
      cases z
      exact He.exm_ok (fa_ok c (.exm "NotPossible" "NotPossible" true) 56 rfl)
    cases e
theorem law_ends (hm : ∀ ns : List Int, ns.length ≤ 63 → m_law [.list (ns.map .int)] = .ok (.bool true)) {P : Program} {w : World} {K : PySem.W.Frag} {mg : Str → Option Value} {h : Heap} {fa : Addr} (KX : K.In h) (G : h.Ns mainGlobals mg) (c : He.SaysX Hd.fa Hd.fn Hd.ts [] Hd.ex w h K) (hfa : mg "law" = some (.ref fa)) :
    ∃ fd : FuncData, (∀ (s : Shared) (u : Value), BindsTo s fd ⟨[u], []⟩ [("script", u)]) ∧ ∀ base : Heap, K.In base → base.Ns mainGlobals mg → FnOk P w K mg base (fun _ _ _ _ _ _ => False) 9 fa fd ["script"] (spLaw K) := by
  obtain ⟨fd, F⟩ := c.t.d.def_ 31 (d := Hd.d_law) rfl
  have e := hfa.symm.trans (He.glo_ok KX G (fa_ok c (.glo "law") 31 rfl))
  cases e
  have b := FunD.bindsA (ps := ["script"]) F fun _ _ _ _ _ _ us hl => match us, hl with | [_], _ => rfl
  exact ⟨fd, fun s v => b s [v] rfl, fun base _ _ => law_fn (x_law (ctx KX G c) F) hm⟩
end Lw
end
section
namespace Lw
open PySem PySem.Spec PyProof.Rows L2 DL
abbrev SIG : Str := " abcdefghijklmnopqrstuvwxyz0123456789.-;|"
def alpha : List Nat := SIG.cps.toList
def idx (c : Nat) : Nat := alpha.findIdx (· == c)
theorem tab_ok : alpha.all (fun c => decide (Txt.find SIG ⟨#[c]⟩ = (idx c : Int)) && decide (Builtin.Str.occurrences SIG ⟨#[c]⟩ 0 SIG.length 1 = [idx c])) = true := by decide +kernel
theorem find_ok {c : Nat} (h : c ∈ alpha) : Txt.find SIG ⟨#[c]⟩ = (idx c : Int) := by
  have z := List.all_eq_true.mp tab_ok c h
  rw [Bool.and_eq_true] at z
  exact of_decide_eq_true z.1
theorem occ_ok {c : Nat} (h : c ∈ alpha) : Builtin.Str.occurrences SIG ⟨#[c]⟩ 0 SIG.length 1 = [idx c] := by
  have z := List.all_eq_true.mp tab_ok c h
  rw [Bool.and_eq_true] at z
  exact of_decide_eq_true z.2
def step (fac M : Int) (n : Int) (c : Nat) : Int := (n * fac + idx c + 2) % M
def sumT (first fac M : Int) (x : Str) : Int := x.cps.toList.foldl (step fac M) first
theorem sum_loop {fac M : Int} (hM : 0 < M) (f : D → D → R D) (hf : ∀ c n, c ∈ alpha → 0 ≤ n → n < M → f (.str ⟨#[c]⟩) (.int n) = .ok (.int (step fac M n c))) : ∀ (cs : List Nat) (n : Int), (∀ c ∈ cs, c ∈ alpha) → 0 ≤ n → n < M →
    forS (cs.map fun c => (.str ⟨#[c]⟩ : D)) (.int n : D) f = .ok (.int (cs.foldl (step fac M) n))
  | [], n, _, _, _ => rfl
  | c :: cs, n, h, h1, h2 => by
    show (f (.str ⟨#[c]⟩) (.int n) >>= fun s' => forS _ s' f) = _
    rw [hf c n (h c (List.mem_cons_self ..)) h1 h2]
    exact sum_loop hM f hf cs _ (fun d hd => h d (List.mem_cons_of_mem _ hd)) (Int.emod_nonneg _ (by omega)) (Int.emod_lt_of_pos _ hM)
/-- a text of the signs, not long -/
structure okS (n : Nat) (x : Str) : Prop where
  al : ∀ c ∈ x.cps.toList, c ∈ alpha
  ln : x.length ≤ n
theorem okS.line {n : Nat} {x : Str} (h : okS n x) (hn : n ≤ 16000000) : x.length ≤ sizeLine := by
  rw [sizeLine_eq]
  have := h.ln
  omega
theorem okS.app {n m : Nat} {x y : Str} (h : okS n x) (k : okS m y) : okS (n + m) (x ++ y) where
  al := fun c hc => by
    rw [Str.cps_append, Array.toList_append, List.mem_append] at hc
    exact hc.elim (h.al c) (k.al c)
  ln := by
    rw [Str.length_append]
    exact Nat.add_le_add h.ln k.ln
theorem okS.up {n m : Nat} {x : Str} (h : okS n x) (k : n ≤ m) : okS m x := ⟨h.al, Nat.le_trans h.ln k⟩
theorem add_s {n m : Nat} {x y : Str} (h : okS n x) (k : okS m y) (hn : n + m ≤ 16000000) : addA (.str x) (.str y) = some (.str (x ++ y)) := by
  refine if_pos ?_
  rw [sizeLine_eq]
  have := h.ln
  have := k.ln
  omega
theorem items_s {n : Nat} {x : Str} (h : okS n x) (hn : n ≤ 16000000) : itemsO (.str x) = some (x.cps.toList.map fun c => (.str ⟨#[c]⟩ : D)) := by
  exact if_pos (h.line hn)
theorem digit_al {c : Char} (h : c.isDigit = true) : c.toNat ∈ alpha := by
  simp only [Char.isDigit, Bool.and_eq_true, decide_eq_true_eq] at h
  have h1 : 48 ≤ c.val.toNat := by simpa using UInt32.le_iff_toNat_le.mp h.1
  have h2 : c.val.toNat ≤ 57 := by simpa using UInt32.le_iff_toNat_le.mp h.2
  have e : c.val.toNat = c.toNat := rfl
  rw [e] at h1 h2
  have key : ∀ n : Nat, n < 10 → 48 + n ∈ alpha := by decide +kernel
  have z := key (c.toNat - 48) (by omega)
  rw [show 48 + (c.toNat - 48) = c.toNat by omega] at z
  exact z
theorem int_al (i : Int) : ∀ c ∈ (toString i).toList, c.toNat ∈ alpha := by
  intro c hc
  rw [Int.toString_eq_repr, Int.repr_eq_if] at hc
  have nat : ∀ n : Nat, ∀ c ∈ (Nat.repr n).toList, c.toNat ∈ alpha := fun n c hc => by
    rw [Nat.toList_repr] at hc
    exact digit_al (Nat.isDigit_of_mem_toDigits (by decide) (by decide) hc)
  split at hc
  · exact nat _ c hc
  · rw [String.toList_append, List.mem_append] at hc
    rcases hc with hc | hc
    · have : c = '-' := by simpa using hc
      subst this
      decide +kernel
    · exact nat _ c hc
theorem ok_int {i : Int} (h : i.natAbs < 10 ^ 30) : okS 31 (Str.ofString (toString i)) where
  al := fun c hc => by
    rw [PySem.Str.ofString_eq_toList] at hc
    obtain ⟨d, hd, e⟩ := List.mem_map.mp (by simpa using hc)
    rw [← e]
    exact int_al i d hd
  ln := by
    have z := PySem.int_text_length_le10 (k := 30) (by decide) h
    rw [PySem.Str.ofString_eq_toList]
    show ((toString i).toList.map Char.toNat).toArray.size ≤ 31
    rw [List.size_toArray, List.length_map, String.length_toList]
    exact z
theorem log2_le {n : Nat} (h : n < 10 ^ 30) : n.log2 < 1920 := by
  by_cases e : n = 0
  · rw [e]; decide
  · have z : n < 2 ^ 1920 := Nat.lt_of_lt_of_le h (by decide +kernel)
    exact (Nat.log2_lt e).mpr z
theorem str_i {i : Int} (h : i.natAbs < 10 ^ 30) : o1 strOf [.int i] = some (.str (toString i)) := strOf_i i (log2_le h)
theorem sum_of_text {n : Nat} {x : Str} (h : okS n x) (hn : n ≤ 16000000) : b_sum_of_text (.str x) = .ok (.int (sumT 1 31 9973 x)) := by
  unfold b_sum_of_text
  simp only [r_pure, r_bind, items_s h hn, r_lfo]
  rw [sum_loop (fac := 31) (M := 9973) (by decide) _ (fun c n hc h1 h2 => ?_) _ 1 h.al (by decide) (by decide)]
  · rfl
  · rw [mul_i 31 n (.inl (by decide))]
    simp only [r_lfo, r_bind, str_s, findO, Option.map_some, find_ok hc, add_i]
    rw [mod_i _ 9973 (by decide)]
    simp only [r_lfo, r_bind, step, Int.mul_comm]
theorem digest_of_text {n : Nat} {x : Str} (h : okS n x) (hn : n ≤ 16000000) : b_digest_of_text (.str x) = .ok (.int (sumT 7 1000003 2305843009213693951 x)) := by
  unfold b_digest_of_text
  simp only [r_pure, r_bind, items_s h hn, r_lfo]
  rw [sum_loop (fac := 1000003) (M := 2305843009213693951) (by decide) _ (fun c n hc h1 h2 => ?_) _ 7 h.al (by decide) (by decide)]
  · rfl
  · rw [mul_i 1000003 n (.inl (by decide))]
    simp only [r_lfo, r_bind, str_s, findO, Option.map_some, find_ok hc, add_i]
    rw [mod_i _ 2305843009213693951 (by decide)]
    simp only [r_lfo, r_bind, step, Int.mul_comm]
theorem law_sum {n : Nat} {x : Str} {first fac M : Int} (h : okS n x) (hn : n ≤ 16000000) (hM : 0 < M) (h1 : 0 ≤ first) (h2 : first < M) (hf : fac.natAbs < 2 ^ 64) : b__law_sum (.str x) (.int first) (.int fac) (.int M) = .ok (.int (sumT first fac M x)) := by
  unfold b__law_sum
  simp only [r_pure, r_bind, items_s h hn, r_lfo]
  rw [sum_loop (fac := fac) (M := M) hM _ (fun c n hc h1 h2 => ?_) _ first h.al h1 h2]
  · rfl
  · rw [mul_i n fac (.inr hf)]
    simp only [r_lfo, r_bind, str_s, sindexO, Option.bind_some, occ_ok hc, add_i, int1_i]
    rw [mod_i _ M hM]
    simp only [r_lfo, r_bind, step]
/-! ### lines -/
def dig (x : Str) : Int := sumT 7 1000003 2305843009213693951 x
theorem sumT_range {first fac M : Int} (hM : 0 < M) (h1 : 0 ≤ first) (h2 : first < M) (x : Str) : 0 ≤ sumT first fac M x ∧ sumT first fac M x < M := by
  unfold sumT
  generalize x.cps.toList = cs
  induction cs generalizing first with
  | nil => exact ⟨h1, h2⟩
  | cons c cs ih => exact ih (Int.emod_nonneg _ (by omega)) (Int.emod_lt_of_pos _ hM)
abbrev num (i : Int) : Str := Str.ofString (toString i)
def lineS (n : Int) (t : Str) : Str := num n ++ " " ++ num (sumT 1 31 9973 (num n ++ " " ++ t)) ++ " " ++ t
theorem ok_sp : okS 1 (" " : Str) := ⟨by decide +kernel, by decide +kernel⟩
theorem ok_line {i : Int} {m : Nat} {t : Str} (hi : i.natAbs < 10 ^ 30) (h : okS m t) : okS (m + 64) (lineS i t) := by
  have hs : okS 31 (num (sumT 1 31 9973 (num i ++ " " ++ t))) := ok_int (by
    obtain ⟨h1, h2⟩ := sumT_range (first := 1) (fac := 31) (M := 9973) (by decide) (by decide) (by decide) (num i ++ " " ++ t)
    have : (10 : Nat) ^ 30 > 9973 := by decide
    omega)
  exact ((((ok_int hi).app ok_sp).app hs).app ok_sp |>.app h).up (by omega)
theorem small_sum {x : Str} : (sumT 1 31 9973 x).natAbs < 10 ^ 30 := by
  obtain ⟨h1, h2⟩ := sumT_range (first := 1) (fac := 31) (M := 9973) (by decide) (by decide) (by decide) x
  have : (10 : Nat) ^ 30 > 9973 := by decide
  omega
theorem law_line {i : Int} {m : Nat} {t : Str} (hi : i.natAbs < 10 ^ 30) (h : okS m t) (hm : m ≤ 10000) : b__law_line (.int i) (.str t) = .ok (.str (lineS i t)) := by
  unfold b__law_line m__law_sum
  have o1 := ok_int hi
  have o2 := o1.app ok_sp
  have o3 := o2.app h
  have os : okS 31 (num (sumT 1 31 9973 (num i ++ " " ++ t))) := ok_int small_sum
  simp only [r_pure, r_bind, str_i hi, r_lfo, add_s o1 ok_sp (by omega), add_s o2 h (by omega), law_sum o3 (by omega) (M := 9973) (first := 1) (fac := 31) (by decide) (by decide) (by decide) (by decide), str_i small_sum, add_s o2 os (by omega), add_s (o2.app os) ok_sp (by omega), add_s ((o2.app os).app ok_sp) h (by omega)]
  rfl
end Lw
end
section
namespace Lw
open PySem PySem.Spec PyProof.Rows L2 DL
theorem eq_s (a b : Str) : eqO (.str a) (.str b) = some (a == b) := by simp [eqO, PyData.depth, PyData.eqv]
theorem eq_i (a b : Int) : eqO (.int a) (.int b) = some (a == b) := by simp [eqO, PyData.depth, PyData.eqv]
theorem at0 {α : Type} (a : α) (l : List α) : atI (a :: l) 0 = some a := by simp [atI, ixN]
theorem at1 {α : Type} (a b : α) (l : List α) : atI (a :: b :: l) 1 = some b := by
  have : (1 : Int) < (l.length + 1 + 1 : Int) := by omega
  simp [atI, ixN, this]
/-- an event, its text -/
inductive Ev : D → Str → Prop where
  | back : Ev (.tuple [.str "back"]) "back"
  | again : Ev (.tuple [.str "again"]) "again"
  | mark {w : Str} (h : okS 40 w) : Ev (.tuple [.str "mark", .str w]) ("mark " ++ w)
  | price {n : Int} (h : n.natAbs < 10 ^ 30) : Ev (.tuple [.str "price", .int n]) ("price " ++ num n)
  | priceN : Ev (.tuple [.str "price", .none]) "price -"
  | supply {n : Int} (h : n.natAbs < 10 ^ 30) : Ev (.tuple [.str "tell", .tuple [.str "supply", .str "a.b", .int n]]) ("tell supply a.b " ++ num n)
  | bounds : Ev (.tuple [.str "tell", .tuple [.str "bounds", .str "e1", .int 3, .none]]) "tell bounds e1 3 -"
theorem ok_word {n : Nat} {x : Str} (h : x.cps.toList.all (fun c => decide (c ∈ alpha)) = true) (k : x.length ≤ n) : okS n x := ⟨fun c hc => of_decide_eq_true (List.all_eq_true.mp h c hc), k⟩
theorem is_none (i : Int) : isO (.int i) .none = some false := rfl
theorem is_none2 : isO .none .none = some true := rfl
theorem change_supply {n : Int} (h : n.natAbs < 10 ^ 30) : b_format_change (.tuple [.str "supply", .str "a.b", .int n]) = .ok (.str ("supply a.b " ++ num n)) := by
  have e1 : dgetO tb_WORDS (.str "supply") = some (.str "supply") := by kernel_rfl
  have e2 : dgetO tb_KINDS (.str "supply") = some (.str "ni") := by kernel_rfl
  have e3 : sliceO (.tuple [.str "supply", .str "a.b", .int n]) (some 1) none = some (.tuple [.str "a.b", .int n]) := by kernel_rfl
  have e4 : zipO2 [.str "ni", .tuple [.str "a.b", .int n]] = some [.tuple [.str "n", .str "a.b"], .tuple [.str "i", .int n]] := by kernel_rfl
  have e5 : (("n" : Str) == "n") = true := by decide +kernel
  have e6 : (("i" : Str) == "n") = false := by decide +kernel
  have lt : ∀ k : Nat, k ≤ 10 → k < sizeLine := fun k hk => by rw [sizeLine_eq]; omega
  unfold b_format_change
  simp only [r_pure, r_bind, ix_t, at0, r_lfo, e1, e2, parts_l, int_i, Option.map_some, e3, e4]
  unfold forS
  simp only [tup2_t, r_lfo, r_bind, eq_s, e5, if_true, List.length_cons, List.length_nil, lt 1 (by omega), List.cons_append, List.nil_append]
  unfold forS
  simp only [tup2_t, r_lfo, r_bind, eq_s, e6, m_text_of_bound, b_text_of_bound, r_pure, is_none, str_i h, if_true, List.length_cons, List.length_nil, lt 2 (by omega), List.cons_append, List.nil_append, Bool.false_eq_true, if_false]
  unfold forS
  simp only [r_pure, r_bind, str_s, r_lfo]
  have on := ok_int h
  have ej : joinO " " (.list [.str "supply", .str "a.b", .str (num n)]) = some (.str (Txt.join " " ["supply", "a.b", num n])) := by
    show (if (([("supply" : Str), "a.b", num n].map (·.length)).sum + 3 * (" " : Str).length) ≤ 16777216 then some (PyData.str (Txt.join " " ["supply", "a.b", num n])) else none) = _
    rw [if_pos]
    have h1 : ("supply" : Str).length = 6 := by decide +kernel
    have h2 : ("a.b" : Str).length = 3 := by decide +kernel
    have h3 : (" " : Str).length = 1 := by decide +kernel
    simp only [List.map_cons, List.map_nil, List.sum_cons, List.sum_nil, h1, h2, h3]
    have h4 : (num n).length ≤ 31 := on.ln
    omega
  rw [show (Str.ofString (toString n)) = num n from rfl, ej]
  simp only [r_lfo]
  congr 2
theorem event_text {e : D} {t : Str} (h : Ev e t) : b_event_text e = .ok (.str t) ∧ okS 60 t := by
  have w1 : (("mark" : Str) == "start") = false := by decide +kernel
  have w2 : (("mark" : Str) == "tell") = false := by decide +kernel
  have w3 : (("mark" : Str) == "mark") = true := by decide +kernel
  have w4 : (("price" : Str) == "start") = false := by decide +kernel
  have w5 : (("price" : Str) == "tell") = false := by decide +kernel
  have w6 : (("price" : Str) == "mark") = false := by decide +kernel
  have w7 : (("price" : Str) == "price") = true := by decide +kernel
  have w8 : (("tell" : Str) == "start") = false := by decide +kernel
  have w9 : (("tell" : Str) == "tell") = true := by decide +kernel
  have o1 : okS 5 ("mark " : Str) := ok_word (by decide +kernel) (by decide +kernel)
  have o2 : okS 6 ("price " : Str) := ok_word (by decide +kernel) (by decide +kernel)
  have o3 : okS 5 ("tell " : Str) := ok_word (by decide +kernel) (by decide +kernel)
  have o4 : okS 11 ("supply a.b " : Str) := ok_word (by decide +kernel) (by decide +kernel)
  cases h with
  | back => exact ⟨by kernel_rfl, ok_word (by decide +kernel) (by decide +kernel)⟩
  | again => exact ⟨by kernel_rfl, ok_word (by decide +kernel) (by decide +kernel)⟩
  | mark h =>
    refine ⟨?_, (o1.app h).up (by omega)⟩
    unfold b_event_text
    simp only [r_pure, r_bind, ix_t, at0, at1, r_lfo, eq_s, w1, w2, w3, Bool.false_eq_true, if_false, if_true, add_s o1 h (by omega)]
  | price h =>
    have on := ok_int h
    refine ⟨?_, (o2.app on).up (by omega)⟩
    unfold b_event_text
    simp only [r_pure, r_bind, ix_t, at0, at1, r_lfo, eq_s, w4, w5, w6, w7, Bool.false_eq_true, if_false, if_true, is_none, str_i h, add_s o2 on (by omega)]
  | priceN => exact ⟨by kernel_rfl, ok_word (by decide +kernel) (by decide +kernel)⟩
  | supply h =>
    have on := ok_int h
    have e : ("tell supply a.b " : Str) = "tell " ++ "supply a.b " := by decide +kernel
    refine ⟨?_, (by rw [e, Str.append_assoc]; exact (o3.app (o4.app on)).up (by omega))⟩
    unfold b_event_text m_format_change
    simp only [r_pure, r_bind, ix_t, at0, at1, r_lfo, eq_s, w8, w9, Bool.false_eq_true, if_false, if_true, change_supply h, add_s o3 (o4.app on) (by omega), e, Str.append_assoc]
  | bounds => exact ⟨by kernel_rfl, ok_word (by decide +kernel) (by decide +kernel)⟩
theorem journal_line {i : Int} {e : D} {t : Str} (hi : i.natAbs < 10 ^ 30) (h : Ev e t) : b_journal_line (.int i) e = .ok (.str (lineS i t)) := by
  obtain ⟨he, ht⟩ := event_text h
  unfold b_journal_line m_event_text m_sum_of_text
  have o1 := ok_int hi
  have o2 := o1.app ok_sp
  have o3 := o2.app ht
  have os : okS 31 (num (sumT 1 31 9973 (num i ++ " " ++ t))) := ok_int small_sum
  simp only [r_pure, r_bind, he, str_i hi, r_lfo, add_s o1 ok_sp (by omega), add_s o2 ht (by omega), sum_of_text o3 (by omega), str_i small_sum, add_s o2 os (by omega), add_s (o2.app os) ok_sp (by omega), add_s ((o2.app os).app ok_sp) ht (by omega)]
  rfl
end Lw
end
section
namespace DL
open PySem PySem.Spec PyProof.Rows L2
@[simp] theorem s_pure {α : Type} (a : α) (s : List D) : (pure a : S α) s = .ok (a, s) := rfl
@[simp] theorem s_bind {α β : Type} (m : S α) (f : α → S β) (s : List D) : (m >>= f) s = (m s).bind fun p => f p.1 p.2 := rfl
@[simp] theorem s_get (s : List D) : getS s = .ok (s, s) := rfl
@[simp] theorem s_put (s s' : List D) : putS s' s = .ok ((), s') := rfl
@[simp] theorem s_lfo {α : Type} (a : α) (s : List D) : (lfo (some a) : S α) s = .ok (a, s) := rfl
@[simp] theorem s_lft {α : Type} (a : α) (s : List D) : (lft (.ok a) : S α) s = .ok (a, s) := rfl
@[simp] theorem rb_ok {α β : Type} (a : α) (f : α → R β) : (R.ok a).bind f = f a := rfl
theorem s_ite {α : Type} (c : Prop) [Decidable c] (a b : S α) (s : List D) : (if c then a else b) s = if c then a s else b s := by split <;> rfl
end DL
namespace Lw
open PySem PySem.Spec PyProof.Rows L2 DL
abbrev stt (cs : List Int) (p c k : Int) (b : Bool) : List D := [.list (cs.map .int), .int p, .int c, .int k, .bool b, .int 500]
def StOk (s : List D) : Prop := ∃ cs p c k b, s = stt cs p c k b ∧ 0 ≤ p
section
variable {a0 a1 a2 a3 a4 a5 x : D}
theorem ix0 : atI [a0, a1, a2, a3, a4, a5] 0 = some a0 := rfl
theorem ix1 : atI [a0, a1, a2, a3, a4, a5] 1 = some a1 := rfl
theorem ix2 : atI [a0, a1, a2, a3, a4, a5] 2 = some a2 := rfl
theorem ix3 : atI [a0, a1, a2, a3, a4, a5] 3 = some a3 := rfl
theorem ix4 : atI [a0, a1, a2, a3, a4, a5] 4 = some a4 := rfl
theorem se1 : setO [a0, a1, a2, a3, a4, a5] x (.int 1) = some [a0, x, a2, a3, a4, a5] := rfl
theorem se2 : setO [a0, a1, a2, a3, a4, a5] x (.int 2) = some [a0, a1, x, a3, a4, a5] := rfl
theorem se3 : setO [a0, a1, a2, a3, a4, a5] x (.int 3) = some [a0, a1, a2, x, a4, a5] := rfl
theorem se4 : setO [a0, a1, a2, a3, a4, a5] x (.int 4) = some [a0, a1, a2, a3, x, a5] := rfl
end
theorem pow18 : powO (.int 10) (.int 18) = some (.int 1000000000000000000) := by
  show (if (0 : Int) ≤ 18 ∧ (18 : Int) ≤ 1000000 ∧ (10 : Int).natAbs < 2 ^ 64 then some (PyData.int (10 ^ (18 : Int).toNat)) else none) = _
  rw [if_pos (by decide)]
  rfl
/-- the second half of a draw -/
def drawT (limit'2 : D) : S D := (((((pure (.int 3)) >>= fun y'61 => getS >>= fun s'62 => lfo (ixO (.list s'62) y'61)) >>= fun a'63 => (pure (.int 1)) >>= fun b'64 => lfo (subO a'63 b'64)) >>= fun d'126 => (pure (.int 3)) >>= fun k'127 => getS >>= fun s'128 => lfo (setO s'128 d'126 k'127) >>= fun s'129 => putS s'129) >>= fun _ => ((((pure (.int 4)) >>= fun y'65 => getS >>= fun s'66 => lfo (ixO (.list s'66) y'65)) >>= fun a'67 => lfo (truO a'67)) >>= fun c => if c then (((((pure (.int 2)) >>= fun y'68 => getS >>= fun s'69 => lfo (ixO (.list s'69) y'68)) >>= fun a'70 => lfo (o1 int1O [a'70])) >>= fun a'71 => (pure limit'2) >>= fun b'72 => lfo (modO a'71 b'72)) >>= fun digit'73 => (((((pure (.int 2)) >>= fun y'74 => getS >>= fun s'75 => lfo (ixO (.list s'75) y'74)) >>= fun a'76 => (pure limit'2) >>= fun b'77 => lfo (fdivO a'76 b'77)) >>= fun d'87 => (pure (.int 2)) >>= fun k'88 => getS >>= fun s'89 => lfo (setO s'89 d'87 k'88) >>= fun s'90 => putS s'90) >>= fun _ => (((((pure (.int 2)) >>= fun y'78 => getS >>= fun s'79 => lfo (ixO (.list s'79) y'78)) >>= fun a'80 => (pure (.int 0)) >>= fun b'81 => lfo (eqO a'80 b'81)) >>= fun c => if c then (((pure (.int 0)) >>= fun d'82 => (pure (.int 3)) >>= fun k'83 => getS >>= fun s'84 => lfo (setO s'84 d'82 k'83) >>= fun s'85 => putS s'85) >>= fun _ => (pure ())) else (pure ())) >>= fun j'86 => (pure digit'73)))) else ((((((((pure (.int 2)) >>= fun y'91 => getS >>= fun s'92 => lfo (ixO (.list s'92) y'91)) >>= fun a'93 => (pure (.int 48271)) >>= fun b'94 => lfo (mulO a'93 b'94)) >>= fun a'99 => (((pure (.int 3)) >>= fun y'95 => getS >>= fun s'96 => lfo (ixO (.list s'96) y'95)) >>= fun a'97 => (pure (.int 69621)) >>= fun b'98 => lfo (mulO a'97 b'98)) >>= fun b'100 => lfo (addA a'99 b'100)) >>= fun a'101 => (pure (.int 7)) >>= fun b'102 => lfo (addA a'101 b'102)) >>= fun a'103 => lfo (o1 int1O [a'103])) >>= fun a'104 => (pure (.int 2147483647)) >>= fun b'105 => lfo (modO a'104 b'105)) >>= fun mixed'106 => (((((((pure mixed'106) >>= fun a'107 => (pure mixed'106) >>= fun b'108 => lfo (mulO a'107 b'108)) >>= fun a'113 => (((pure (.int 2)) >>= fun y'109 => getS >>= fun s'110 => lfo (ixO (.list s'110) y'109)) >>= fun a'111 => (pure (.int 31)) >>= fun b'112 => lfo (mulO a'111 b'112)) >>= fun b'114 => lfo (addA a'113 b'114)) >>= fun a'117 => ((pure (.int 3)) >>= fun y'115 => getS >>= fun s'116 => lfo (ixO (.list s'116) y'115)) >>= fun b'118 => lfo (addA a'117 b'118)) >>= fun a'119 => lfo (o1 int1O [a'119])) >>= fun a'120 => (pure (.int 1000003)) >>= fun b'121 => lfo (modO a'120 b'121)) >>= fun mixed'122 => (((pure mixed'122) >>= fun a'123 => lfo (o1 int1O [a'123])) >>= fun a'124 => (pure limit'2) >>= fun b'125 => lfo (modO a'124 b'125))))))
theorem draw_eq (l : Int) : b__law_draw (.int l) = (((((pure (.int 3)) >>= fun y'3 => getS >>= fun s'4 => lfo (ixO (.list s'4) y'3)) >>= fun a'5 => (pure (.int 0)) >>= fun b'6 => lfo (eqO a'5 b'6)) >>= fun c => if c then ((((pure (.int 1)) >>= fun y'7 => getS >>= fun s'8 => lfo (ixO (.list s'8) y'7)) >>= fun a'12 => (((pure (.int 0)) >>= fun y'9 => getS >>= fun s'10 => lfo (ixO (.list s'10) y'9)) >>= fun a'11 => lfo (o1 lenO [a'11])) >>= fun b'13 => lfo (geO a'12 b'13)) >>= fun c => if c then (pure (.int 0)) >>= fun b'59 => pure (.rt b'59 : Er (Unit)) else ((((pure (.int 0)) >>= fun y'16 => getS >>= fun s'17 => lfo (ixO (.list s'17) y'16)) >>= fun a'18 => ((pure (.int 1)) >>= fun y'14 => getS >>= fun s'15 => lfo (ixO (.list s'15) y'14)) >>= fun b'19 => lfo (ixO a'18 b'19)) >>= fun cell'20 => ((((pure cell'20) >>= fun a'21 => (pure (.int 0)) >>= fun b'22 => lfo (ltO a'21 b'22)) >>= fun c => if c then ((((pure (.int 1)) >>= fun a'23 => lfo (negO a'23)) >>= fun a'24 => (pure cell'20) >>= fun b'25 => lfo (subO a'24 b'25)) >>= fun cell'26 => (pure cell'26)) else (pure cell'20)) >>= fun j'27 => (((((pure (.int 1)) >>= fun y'28 => getS >>= fun s'29 => lfo (ixO (.list s'29) y'28)) >>= fun a'30 => (pure (.int 1)) >>= fun b'31 => lfo (addA a'30 b'31)) >>= fun d'55 => (pure (.int 1)) >>= fun k'56 => getS >>= fun s'57 => lfo (setO s'57 d'55 k'56) >>= fun s'58 => putS s'58) >>= fun _ => (((pure j'27) >>= fun d'51 => (pure (.int 2)) >>= fun k'52 => getS >>= fun s'53 => lfo (setO s'53 d'51 k'52) >>= fun s'54 => putS s'54) >>= fun _ => ((((pure j'27) >>= fun a'34 => ((pure (.int 10)) >>= fun a'32 => (pure (.int 18)) >>= fun b'33 => lfo (powO a'32 b'33)) >>= fun b'35 => lfo ((geO a'34 b'35).map .bool)) >>= fun d'47 => (pure (.int 4)) >>= fun k'48 => getS >>= fun s'49 => lfo (setO s'49 d'47 k'48) >>= fun s'50 => putS s'50) >>= fun _ => (((pure (.int 6)) >>= fun d'43 => (pure (.int 3)) >>= fun k'44 => getS >>= fun s'45 => lfo (setO s'45 d'43 k'44) >>= fun s'46 => putS s'46) >>= fun _ => ((((pure (.int 4)) >>= fun y'36 => getS >>= fun s'37 => lfo (ixO (.list s'37) y'36)) >>= fun a'38 => lfo (truO a'38)) >>= fun c => if c then (((pure (.int 60)) >>= fun d'39 => (pure (.int 3)) >>= fun k'40 => getS >>= fun s'41 => lfo (setO s'41 d'39 k'40) >>= fun s'42 => putS s'42) >>= fun _ => (pure ((.go ()) : Er (Unit)))) else (pure ((.go ()) : Er (Unit))))))))))) else (pure ((.go ()) : Er (Unit)))) >>= fun r => Er.seq r (fun _ => drawT (.int l)) (fun d => d)) := rfl
theorem draw_tail (cs : List Int) (p c k : Int) (b : Bool) (l : Int) (hp : 0 ≤ p) (hl : 0 < l ∧ l < 1073741824) : ∃ (n : Int) (s' : List D), drawT (.int l) (stt cs p c k b) = .ok (.int n, s') ∧ (0 ≤ n ∧ n < l) ∧ StOk s' := by
  unfold drawT
  have hm := fun i => mod_i i l hl.1
  have hd := fun i => fdiv_i i l hl
  have q : ∀ x : Int, 0 ≤ x % l ∧ x % l < l := fun x => ⟨Int.emod_nonneg _ (by omega), Int.emod_lt_of_pos _ hl.1⟩
  cases b with
  | true =>
    simp only [s_bind, s_pure, s_get, s_put, rb_ok, ix_l, ix0, ix1, ix2, ix3, ix4, se1, se2, se3, se4, s_lfo, sub_i, tru_b, if_true, int1_i, hm, hd, eq_i, s_ite]
    by_cases hc : c / l = 0
    · simp only [hc, beq_self_eq_true, if_true, se3, s_lfo, rb_ok, s_put]
      exact ⟨_, _, rfl, q _, cs, p, 0, 0, true, rfl, hp⟩
    · have e : (c / l == 0) = false := by simpa using hc
      simp only [e, Bool.false_eq_true, if_false, rb_ok]
      exact ⟨_, _, rfl, q _, cs, p, _, _, true, rfl, hp⟩
  | false =>
    simp only [s_bind, s_pure, s_get, s_put, rb_ok, ix_l, ix0, ix1, ix2, ix3, ix4, se1, se2, se3, se4, s_lfo, sub_i, tru_b, Bool.false_eq_true, if_false, int1_i, s_ite, mul_i _ 48271 (.inr (by decide)), mul_i _ 69621 (.inr (by decide)), add_i, mod_i _ 2147483647 (by decide), mul_i _ 31 (.inr (by decide)), mod_i _ 1000003 (by decide), hm]
    have hx : ∀ x : Int, (x % 2147483647).natAbs < 2 ^ 64 := fun x => by
      have := Int.emod_nonneg x (show (2147483647 : Int) ≠ 0 by decide)
      have := Int.emod_lt_of_pos x (show (0 : Int) < 2147483647 by decide)
      omega
    simp only [mul_i _ _ (.inl (hx _)), s_lfo, rb_ok, add_i, int1_i, ix2, ix3, mul_i _ 31 (.inr (by decide)), mod_i _ 1000003 (by decide), hm]
    exact ⟨_, _, rfl, q _, cs, p, _, _, false, rfl, hp⟩
theorem at_map {cs : List Int} {p : Int} (h0 : 0 ≤ p) (h : ¬ (cs.length : Int) ≤ p) : ∃ cell, atI (cs.map PyData.int) p = some (.int cell) := by
  have hlt : p.toNat < cs.length := by omega
  refine ⟨cs[p.toNat]'hlt, ?_⟩
  have z := atI_nat (cs.map PyData.int) p.toNat (by rw [List.length_map]; exact hlt)
  rw [Int.toNat_of_nonneg h0] at z
  rw [z]
  simp
theorem draw {s : List D} (h : StOk s) {l : Int} (hl : 0 < l ∧ l < 1073741824) : ∃ (n : Int) (s' : List D), b__law_draw (.int l) s = .ok (.int n, s') ∧ (0 ≤ n ∧ n < l) ∧ StOk s' := by
  obtain ⟨cs, p, c, k, b, rfl, hp⟩ := h
  rw [draw_eq]
  by_cases hk : k = 0
  · subst hk
    simp only [s_bind, s_pure, s_get, s_put, rb_ok, ix_l, ix0, ix1, ix2, ix3, ix4, s_lfo, eq_i, s_ite, beq_self_eq_true, if_true, len_l, ge_i, List.length_map]
    by_cases hq : (cs.length : Int) ≤ p
    · simp only [hq, decide_true, if_true, rb_ok, er_rt, s_pure]
      exact ⟨0, _, rfl, by omega, cs, p, c, 0, b, rfl, hp⟩
    · obtain ⟨cell, hat⟩ := at_map hp hq
      simp only [hq, decide_false, Bool.false_eq_true, if_false, hat, s_lfo, rb_ok, lt_i, neg_i, sub_i]
      by_cases hc : cell < 0
      · simp only [hc, decide_true, if_true, rb_ok, s_bind, s_pure, s_get, s_put, ix_l, ix0, ix1, ix2, ix3, ix4, s_lfo, add_i, se1, se2, se3, se4, pow18, ge_i, Option.map_some, tru_b]
        by_cases hb : 1000000000000000000 ≤ -1 - cell
        · simp only [hb, decide_true, if_true, rb_ok, s_lfo, se3, s_put, er_go, s_pure]
          exact draw_tail cs (p + 1) _ _ _ l (by omega) hl
        · simp only [hb, decide_false, Bool.false_eq_true, if_false, rb_ok, s_lfo, se3, s_put, er_go, s_pure]
          exact draw_tail cs (p + 1) _ _ _ l (by omega) hl
      · simp only [hc, decide_false, Bool.false_eq_true, if_false, rb_ok, s_bind, s_pure, s_get, s_put, ix_l, ix0, ix1, ix2, ix3, ix4, s_lfo, add_i, se1, se2, se3, se4, pow18, ge_i, Option.map_some, tru_b]
        by_cases hb : 1000000000000000000 ≤ cell
        · simp only [hb, decide_true, if_true, rb_ok, s_lfo, se3, s_put, er_go, s_pure]
          exact draw_tail cs (p + 1) _ _ _ l (by omega) hl
        · simp only [hb, decide_false, Bool.false_eq_true, if_false, rb_ok, s_lfo, se3, s_put, er_go, s_pure]
          exact draw_tail cs (p + 1) _ _ _ l (by omega) hl
  · have e : (k == 0) = false := by simpa using hk
    simp only [s_bind, s_pure, s_get, s_put, rb_ok, ix_l, ix0, ix1, ix2, ix3, ix4, s_lfo, eq_i, s_ite, e, Bool.false_eq_true, if_false, er_go]
    exact draw_tail cs p c k b l hp hl
theorem Draw {l : Int} (hl : 0 < l ∧ l < 1073741824) : Ok StOk (m__law_draw [.none, .int l]) fun d => ∃ n : Int, d = .int n ∧ 0 ≤ n ∧ n < l := fun s h => by
  obtain ⟨n, s', e, q, h'⟩ := draw h hl
  exact ⟨.int n, s', e, ⟨n, rfl, q⟩, h'⟩
end Lw
end
section
namespace DL
open PySem PySem.Spec PyProof.Rows L2
theorem s_pb {α β : Type} (a : α) (f : α → S β) : ((pure a : S α) >>= f) = f a := rfl
theorem s_lb {α β : Type} (a : α) (f : α → S β) : ((lfo (some a) : S α) >>= f) = f a := rfl
theorem s_rb {α β : Type} (a : α) (f : α → S β) : ((EM.lft (R.ok a) : S α) >>= f) = f a := rfl
theorem s_as {α β γ : Type} (m : S α) (f : α → S β) (g : β → S γ) : ((m >>= f) >>= g) = (m >>= fun a => f a >>= g) := by
  funext s
  show ((m s).bind fun p => f p.1 p.2).bind (fun p => g p.1 p.2) = (m s).bind fun p => (f p.1 p.2).bind fun q => g q.1 q.2
  cases m s <;> rfl
end DL
namespace Lw
open PySem PySem.Spec PyProof.Rows L2 DL
theorem abc (n : Int) (h : 0 ≤ n ∧ n < 3) : ∃ w : Str, ixO (.str "abc") (.int n) = some (.str w) ∧ okS 1 w := by
  have : n = 0 ∨ n = 1 ∨ n = 2 := by omega
  rcases this with e | e | e <;> subst e
  · exact ⟨"a", by kernel_rfl, ok_word (by decide +kernel) (by decide +kernel)⟩
  · exact ⟨"b", by kernel_rfl, ok_word (by decide +kernel) (by decide +kernel)⟩
  · exact ⟨"c", by kernel_rfl, ok_word (by decide +kernel) (by decide +kernel)⟩
def EvD (d : D) : Prop := ∃ e t, d = .list [e, .str t] ∧ Ev e t
theorem small {n : Int} {k : Int} (h : 0 ≤ n ∧ n < k) (hk : k ≤ 5000) : (n - 1000).natAbs < 10 ^ 30 ∧ n.natAbs < 10 ^ 30 := by
  have : (10 : Nat) ^ 30 > 10000 := by decide
  omega
theorem Event : Ok StOk (m__law_event [.none]) EvD := by
  show Ok StOk b__law_event EvD
  unfold b__law_event
  simp only [s_pb, s_as]
  refine Ok.bind (Draw (by decide)) fun kind ⟨n, e, hn⟩ => ?_
  subst e
  simp only [eq_i, s_lb, s_pb]
  by_cases h0 : n = 0
  · subst h0
    simp only [beq_self_eq_true, if_true]
    exact Ok.pure ⟨_, _, rfl, .back⟩
  have e0 : (n == 0) = false := by simpa using h0
  simp only [e0, Bool.false_eq_true, if_false]
  by_cases h1 : n = 1
  · subst h1
    simp only [beq_self_eq_true, if_true]
    exact Ok.pure ⟨_, _, rfl, .again⟩
  have e1 : (n == 1) = false := by simpa using h1
  simp only [e1, Bool.false_eq_true, if_false]
  by_cases h2 : n = 2
  · subst h2
    simp only [beq_self_eq_true, if_true]
    refine Ok.bind (Draw (by decide)) fun a ⟨i, e, hi⟩ => ?_
    subst e
    obtain ⟨w, ew, ow⟩ := abc i hi
    simp only [ew, s_lb, s_as]
    refine Ok.bind (Draw (by decide)) fun a ⟨j, e, hj⟩ => ?_
    subst e
    have hj' := (small (k := 100) hj (by decide)).2
    have oj := ok_int hj'
    have om : okS 5 ("mark " : Str) := ok_word (by decide +kernel) (by decide +kernel)
    simp only [str_i hj', s_lb, add_s ow oj (by decide), add_s om (ow.app oj) (by decide)]
    exact Ok.pure ⟨_, _, rfl, .mark ((ow.app oj).up (by decide))⟩
  have e2 : (n == 2) = false := by simpa using h2
  simp only [e2, Bool.false_eq_true, if_false]
  by_cases h3 : n = 3
  · subst h3
    simp only [beq_self_eq_true, if_true]
    refine Ok.bind (Draw (by decide)) fun a ⟨i, e, hi⟩ => ?_
    subst e
    have hj' := (small (k := 2000) hi (by decide)).1
    have oj := ok_int hj'
    have om : okS 6 ("price " : Str) := ok_word (by decide +kernel) (by decide +kernel)
    simp only [sub_i, s_lb, str_i hj', add_s om oj (by decide), s_as]
    refine Ok.bind (Draw (by decide)) fun a ⟨j, e, hj⟩ => ?_
    subst e
    have : j = 0 ∨ j = 1 := by omega
    rcases this with e | e <;> subst e
    · simp only [ix_l, at0]
      exact Ok.lfo rfl ⟨_, _, rfl, .price hj'⟩
    · simp only [ix_l, at1]
      exact Ok.lfo rfl ⟨_, _, rfl, .priceN⟩
  have e3 : (n == 3) = false := by simpa using h3
  simp only [e3, Bool.false_eq_true, if_false]
  by_cases h4 : n = 4
  · subst h4
    simp only [beq_self_eq_true, if_true]
    refine Ok.bind (Draw (by decide)) fun a ⟨i, e, hi⟩ => ?_
    subst e
    have hj' := (small (k := 2000) hi (by decide)).1
    have oj := ok_int hj'
    have om : okS 16 ("tell supply a.b " : Str) := ok_word (by decide +kernel) (by decide +kernel)
    simp only [sub_i, s_lb, str_i hj', add_s om oj (by decide)]
    exact Ok.pure ⟨_, _, rfl, .supply hj'⟩
  have e4 : (n == 4) = false := by simpa using h4
  simp only [e4, Bool.false_eq_true, if_false]
  exact Ok.pure ⟨_, _, rfl, .bounds⟩
/-! ### digests -/
def PRM : Int := 2305843009213693951
def join (a b : Int) : Int := ((a * 1000003 + 31) * (a * 1000003 + 31) + b * 37 + 1) % 2305843009213693951
/-- a digest -/
def Dg (a : Int) : Prop := 0 ≤ a ∧ a < 2305843009213693951
/-- .. or one beside -/
def Db (a : Int) : Prop := 0 ≤ a ∧ a < 2305843009213693953
theorem Dg.db {a : Int} (h : Dg a) : Db a := ⟨h.1, by have := h.2; omega⟩
theorem dg_join (a b : Int) : Dg (join a b) := ⟨Int.emod_nonneg _ (by decide), Int.emod_lt_of_pos _ (by decide)⟩
theorem dg_dig (x : Str) : Dg (dig x) := sumT_range (by decide) (by decide) (by decide) x
theorem sq_i (a : Int) (h : Db a) : mulO (.int (a * 1000003 + 31)) (.int (a * 1000003 + 31)) = some (.int ((a * 1000003 + 31) * (a * 1000003 + 31))) := by
  have k : (a * 1000003 + 31).natAbs < 2 ^ 1000 := by
    have h1 := h.1
    have h2 := h.2
    have e : (a * 1000003 + 31).natAbs < 2 ^ 100 := by omega
    exact Nat.lt_of_lt_of_le e (Nat.pow_le_pow_right (by decide) (by decide))
  exact mul_w _ _ k k
/-- what the machine reckons -/
theorem join_digests {a b : Int} (ha : Db a) (hb : Db b) : b_join_digests (.int a) (.int b) = .ok (.int (join a b)) := by
  unfold b_join_digests
  simp only [r_pure, r_bind, mul_i _ 1000003 (.inr (by decide)), r_lfo, add_i, mul_i _ 37 (.inr (by decide))]
  rw [sq_i a ha]
  simp only [r_bind, r_lfo, add_i]
  rw [mod_i _ _ (by decide)]
  rfl
end Lw
end
section
namespace DL
open PySem PySem.Spec PyProof.Rows L2
/-- a loop, by turns -/
theorem forS_idx {S : Type} (I : Nat → S → Prop) (f : D → S → R S) : ∀ (ds : List D) (k : Nat) (s : S), I k s → (∀ i d s, ds[i]? = some d → I (k + i) s → ∃ s', f d s = .ok s' ∧ I (k + i + 1) s') → ∃ s', forS ds s f = .ok s' ∧ I (k + ds.length) s'
  | [], k, s, h, _ => ⟨s, rfl, h⟩
  | d :: ds, k, s, h, g => by
    obtain ⟨s1, e1, h1⟩ := g 0 d s rfl h
    obtain ⟨s2, e2, h2⟩ := forS_idx I f ds (k + 1) s1 h1 fun i d' s' hd hi => by
      obtain ⟨s3, e3, h3⟩ := g (i + 1) d' s' hd (by rw [show k + (i + 1) = k + 1 + i by omega]; exact hi)
      exact ⟨s3, e3, by rw [show k + 1 + i + 1 = k + (i + 1) + 1 by omega]; exact h3⟩
    refine ⟨s2, ?_, by rw [show k + (d :: ds).length = k + 1 + ds.length by simp; omega]; exact h2⟩
    show (f d s >>= fun s' => forS ds s' f) = _
    rw [e1]
    exact e2
theorem forS_run {S α : Type} (I : Nat → S → Prop) {f : D → S → R S} {ds : List D} {s0 : S} {g : S → R α} {r : R α} (h0 : I 0 s0) (ht : ∀ i d s, ds[i]? = some d → I i s → ∃ s', f d s = .ok s' ∧ I (i + 1) s') (hg : ∀ s, I ds.length s → g s = r) : (forS ds s0 f >>= g) = r := by
  obtain ⟨s', e, h⟩ := forS_idx I f ds 0 s0 h0 fun i d s hd hi => by
    rw [Nat.zero_add] at hi ⊢
    exact ht i d s hd hi
  rw [e]
  exact hg s' (by rw [Nat.zero_add] at h; exact h)
end DL
namespace Lw
open PySem PySem.Spec PyProof.Rows L2 DL
theorem law_join {a b : Int} (ha : Db a) (hb : Db b) : b__law_join (.int a) (.int b) = .ok (.int (join a b)) := by
  unfold b__law_join
  simp only [r_pure, r_bind, mul_i _ 1000003 (.inr (by decide)), r_lfo, add_i, mul_i _ 37 (.inr (by decide))]
  rw [sq_i a ha]
  simp only [r_bind, r_lfo, add_i, int1_i]
  rw [mod_i _ _ (by decide)]
  rfl
theorem law_digest {n : Nat} {x : Str} (h : okS n x) (hn : n ≤ 16000000) : b__law_digest (.str x) = .ok (.int (dig x)) := by
  unfold b__law_digest m__law_sum
  simp only [r_pure, r_bind]
  exact law_sum h hn (by decide) (by decide) (by decide) (by decide)
/-- events and their texts -/
abbrev Evs := Paired Ev
theorem Paired.at {α β : Type} {P : α → β → Prop} : ∀ {xs : List α} {ys : List β} {i : Nat} {x : α}, Paired P xs ys → xs[i]? = some x → ∃ y, ys[i]? = some y ∧ P x y
  | _, _, _, _, .nil, h => by simp at h
  | _, _, 0, _, .cons p t, h => by
    have h := Option.some.inj h
    subst h
    exact ⟨_, rfl, p⟩
  | _, _, i + 1, _, .cons p t, h => Paired.at (i := i) t h
theorem ev_ok {e : D} {t : Str} (h : Ev e t) : okS 60 t := (event_text h).2
theorem nat_small {i : Nat} (h : i ≤ 1000) : ((i : Nat) : Int).natAbs < 10 ^ 30 := by
  have : (10 : Nat) ^ 30 > 10000 := by decide
  omega
/-- the digest of a line -/
theorem line_dig {i : Nat} {e : D} {t : Str} (hi : i ≤ 1000) (h : Ev e t) : (m_journal_line [.int i, e] >>= fun a => m_digest_of_text [a]) = .ok (.int (dig (lineS i t))) ∧ (m__law_line [.int i, .str t] >>= fun a => m__law_digest [a]) = .ok (.int (dig (lineS i t))) := by
  have ol := ok_line (nat_small hi) (ev_ok h)
  constructor
  · show (b_journal_line (.int i) e >>= fun a => m_digest_of_text [a]) = _
    rw [journal_line (nat_small hi) h]
    exact digest_of_text ol (by decide)
  · show (b__law_line (.int i) (.str t) >>= fun a => m__law_digest [a]) = _
    rw [law_line (nat_small hi) (ev_ok h) (by decide)]
    exact law_digest ol (by decide)
/-! ### chains -/
def cv (ts : List Str) : Nat → Int
  | 0 => 0
  | i + 1 => join (cv ts i) (dig (lineS i (ts.getD i "")))
theorem cv_dg (ts : List Str) (i : Nat) : Dg (cv ts i) := by
  cases i with
  | zero => exact ⟨Int.le_refl 0, (by decide : (0 : Int) < 2305843009213693951)⟩
  | succ i => exact dg_join _ _
def chL (ts : List Str) (n : Nat) : List D := (List.range n).map fun i => .int (cv ts i)
theorem chL_len (ts : List Str) (n : Nat) : (chL ts n).length = n := by simp [chL]
theorem chL_succ (ts : List Str) (n : Nat) : chL ts (n + 1) = chL ts n ++ [.int (cv ts n)] := by simp [chL, List.range_succ]
theorem chL_at (ts : List Str) {n i : Nat} (h : i < n) : atI (chL ts n) (i : Int) = some (.int (cv ts i)) := by
  rw [atI_nat _ _ (by rw [chL_len]; exact h)]
  simp [chL]
theorem chL_last (ts : List Str) (n : Nat) : atI (chL ts (n + 1)) (-1) = some (.int (cv ts n)) := by
  rw [chL_succ]
  exact L2.atI_last _ _
theorem getD_at {ts : List Str} {i : Nat} {t : Str} (h : ts[i]? = some t) : ts.getD i "" = t := by simp [List.getD, h]
theorem lt_line {n : Nat} (h : n ≤ 1000) : n < sizeLine := by rw [sizeLine_eq]; omega
theorem chain_digests {es : List D} {ts : List Str} (h : Evs es ts) (hn : es.length ≤ 900) : b_chain_digests (.list es) = .ok (.list (chL ts (es.length + 1))) := by
  unfold b_chain_digests
  simp only [r_pure, r_bind, parts_l, r_lfo, show enumO [.list es] = some (enumD 0 es) from rfl]
  refine forS_run (fun i s => s = chL ts (i + 1)) rfl (fun i d s hd hs => ?_) fun s hs => by rw [hs, enumD_len]
  · obtain ⟨x, hx, rfl⟩ := enumD_at hd
    obtain ⟨t, ht, ev⟩ := Paired.at h hx
    have hi : i < es.length := (List.getElem?_eq_some_iff.mp hx).1
    subst hs
    refine ⟨_, ?_, rfl⟩
    simp only [Nat.zero_add, r_lfo, tup2_t, r_bind, r_pure, neg_i, ix_l, chL_last, (line_dig (i := i) (by omega) ev).1, m_join_digests, join_digests (cv_dg ts i).db (dg_dig _).db, chL_len, if_pos (lt_line (show i + 1 ≤ 1000 by omega))]
    rw [chL_succ ts (i + 1)]
    simp only [cv, getD_at ht]
theorem law_chain {es : List D} {ts : List Str} (h : Evs es ts) (hn : es.length ≤ 900) : b__law_chain (.list (ts.map .str)) = .ok (.list (chL ts (es.length + 1))) := by
  have hl := Paired.length h
  unfold b__law_chain
  simp only [r_pure, r_bind, parts_l, r_lfo, len_l, List.length_map]
  have hr : rangeO1 [.int (ts.length : Nat)] = some (rng 0 1 ts.length) := by
    show (if ((ts.length : Nat) : Int) ≤ 16777216 ∧ -(2 ^ 62) ≤ ((ts.length : Nat) : Int) then some (rng 0 1 ((ts.length : Nat) : Int).toNat) else none) = _
    rw [if_pos (by omega)]
    simp
  rw [hr]
  simp only [r_lfo, r_bind]
  refine forS_run (fun i s => s = chL ts (i + 1)) rfl (fun i d s hd hs => ?_) fun s hs => by rw [hs, rng_len, hl]
  · have hi : i < ts.length := by
      have := (List.getElem?_eq_some_iff.mp hd).1
      rw [rng_len] at this; exact this
    have hd := rng_at hd
    subst hd hs
    obtain ⟨e, he⟩ : ∃ e, es[i]? = some e := ⟨_, List.getElem?_eq_getElem (by omega)⟩
    obtain ⟨t, ht, ev⟩ := Paired.at h he
    have e1 : (0 : Int) + (i : Nat) * 1 = (i : Nat) := by omega
    have e2 : atI (ts.map PyData.str) ((i : Nat) : Int) = some (.str t) := by
      rw [atI_nat _ _ (by rw [List.length_map]; exact hi)]
      have := (List.getElem?_eq_some_iff.mp ht).2
      simp [this]
    refine ⟨_, ?_, rfl⟩
    have hli := (line_dig (i := i) (by omega) ev).2
    simp only [e1, Nat.zero_add, r_lfo, r_bind, r_pure, ix_l, chL_at ts (show i < i + 1 by omega), e2, hli, m__law_join, law_join (cv_dg ts i).db (dg_dig _).db, chL_len, if_pos (lt_line (show i + 1 ≤ 1000 by omega))]
    rw [chL_succ ts (i + 1)]
    simp only [cv, getD_at ht]
end Lw
end
section
namespace Lw
open PySem PySem.Spec PyProof.Rows L2 DL
/-! ### rows -/
def rowD (r : List Int) : D := .list (r.map .int)
def next (r : List Int) : List Int := (List.range (r.length / 2)).map (fun k => join (r.getD (2 * k) 0) (r.getD (2 * k + 1) 0)) ++ r.drop (r.length - r.length % 2)
theorem next_len (r : List Int) : (next r).length = (r.length + 1) / 2 := by
  simp only [next, List.length_append, List.length_map, List.length_range, List.length_drop]
  omega
def rowsF : Nat → List Int → List (List Int)
  | 0, r => [r]
  | f + 1, r => if r.length ≤ 1 then [r] else r :: rowsF f (next r)
theorem at_row {r : List Int} {i : Nat} (h : i < r.length) : atI (r.map PyData.int) (i : Int) = some (.int (r.getD i 0)) := by
  rw [atI_nat _ _ (by rw [List.length_map]; exact h)]
  simp [List.getD, h]
def AllDg (r : List Int) : Prop := ∀ x ∈ r, Dg x
theorem getD_dg {r : List Int} (h : AllDg r) {i : Nat} (hi : i < r.length) : Dg (r.getD i 0) := by
  simp only [List.getD, List.getElem?_eq_getElem hi, Option.getD_some]
  exact h _ (List.getElem_mem hi)
theorem next_dg {r : List Int} (h : AllDg r) : AllDg (next r) := fun x hx => by
  rcases List.mem_append.mp hx with z | z
  · obtain ⟨k, _, e⟩ := List.mem_map.mp z
    rw [← e]; exact dg_join _ _
  · exact h x (List.mem_of_mem_drop z)
/-- two lists' end, two lists' beginning -/
theorem last_at (pre : List D) (x : D) : atI (pre ++ [x]) (-1) = some x := L2.atI_last _ _
theorem range1 (n : Nat) (h : n ≤ 1000) : rangeO1 [.int (n : Nat)] = some (rng 0 1 n) := by
  show (if ((n : Nat) : Int) ≤ 16777216 ∧ -(2 ^ 62) ≤ ((n : Nat) : Int) then some (rng 0 1 ((n : Nat) : Int).toNat) else none) = _
  rw [if_pos (by omega)]
  simp
/-- the pairs of a row -/
def prs (r : List Int) : List Int := (List.range (r.length / 2)).map fun k => join (r.getD (2 * k) 0) (r.getD (2 * k + 1) 0)
theorem next_eq (r : List Int) : next r = prs r ++ r.drop (r.length - r.length % 2) := rfl
theorem prs_len (r : List Int) : (prs r).length = r.length / 2 := by simp [prs]
theorem map_pairs {r : List Int} {c : Int} (f : D → R D) (hf : ∀ k : Nat, k < r.length / 2 → f (.int ((k : Int) * c)) = .ok (.int (join (r.getD (2 * k) 0) (r.getD (2 * k + 1) 0)))) :
    mapS (rng 0 c (r.length / 2)) f = .ok ((prs r).map PyData.int) := by
  refine mapS_at _ _ _ (by simp [rng_len, prs]) fun i d x hd hx => ?_
  have hi : i < r.length / 2 := by
    have := (List.getElem?_eq_some_iff.mp hd).1
    rw [rng_len] at this; exact this
  have hd := rng_at hd
  rw [Int.zero_add] at hd
  subst hd
  rw [hf i hi]
  congr 1
  simp [prs, List.getElem?_map, hi] at hx
  simp [List.getD, hx]
theorem range3 (n : Nat) (h : 2 ≤ n) (hn : n ≤ 1000) : rangeO3 [.int 0, .int ((n : Int) - 1), .int 2] = some (rng 0 2 (n / 2)) := by
  have hs : Builtin.Range.rangeSize 0 ((n : Int) - 1) 2 = ((n / 2 : Nat) : Int) := by
    unfold Builtin.Range.rangeSize
    split <;> first | omega | (split <;> omega)
  have hm : Builtin.Range.small 0 ((n : Int) - 1) 2 = true := by
    unfold Builtin.Range.small
    rw [hs]
    rw [if_pos (by decide : (2 : Int) > 0)]
    have fits : ∀ x : Int, -1 ≤ x → x ≤ 2000 → Builtin.Range.rangeFitsLong x = true := fun x h1 h2 => by
      unfold Builtin.Range.rangeFitsLong
      simp only [Bool.and_eq_true, decide_eq_true_eq]
      omega
    rw [fits _ (by omega) (by omega), fits _ (by omega) (by omega), fits _ (by omega) (by omega), fits _ (by omega) (by omega), fits _ (by omega) (by omega)]
    simp
  show (if (Builtin.Range.rangeSize 0 ((n : Int) - 1) 2).toNat ≤ 16777216 ∧ (2 : Int) ≠ 0 ∧ (2 : Int).natAbs < 1073741824 ∧ Builtin.Range.small 0 ((n : Int) - 1) 2 = true ∧ Builtin.Range.rangeSize 0 ((n : Int) - 1) 2 = ((Builtin.Range.rangeSize 0 ((n : Int) - 1) 2).toNat : Nat) then some (rng 0 2 (Builtin.Range.rangeSize 0 ((n : Int) - 1) 2).toNat) else none) = _
  rw [hs, hm, Int.toNat_natCast]
  rw [if_pos ⟨by omega, by decide, by decide, rfl, rfl⟩]
theorem cut_from (ds : List D) (k : Nat) (h : k ≤ ds.length) : DL.cutD ds (some (k : Int)) none = ds.drop k := by
  unfold DL.cutD
  have e1 : HT.sIx ds.length 0 (some (k : Int)) = k := by
    show (if (k : Int) < 0 then ((k : Int) + (ds.length : Int)).toNat else min (k : Int).toNat ds.length) = k
    rw [if_neg (by omega)]
    simp; omega
  have e2 : HT.sIx ds.length ds.length none = ds.length := rfl
  rw [e1, e2, List.take_of_length_le]
  simp
theorem add_l {a b : List D} (h : a.length + b.length ≤ 10000) : addA (.list a) (.list b) = some (.list (a ++ b)) := if_pos (by rw [sizeLine_eq]; omega)
theorem while_rows (c : List D → R Bool) (b : List D → R (List D)) (hc : ∀ pre r, c (pre ++ [rowD r]) = .ok (decide (1 < r.length)))
    (hb : ∀ pre r, AllDg r → 2 ≤ r.length → r.length ≤ 900 → pre.length ≤ 900 → b (pre ++ [rowD r]) = .ok (pre ++ [rowD r] ++ [rowD (next r)])) :
    ∀ (f : Nat) (r : List Int) (pre : List D) (F : Nat), f < F → r.length ≤ 2 ^ f → 1 ≤ r.length → AllDg r → r.length ≤ 900 → pre.length + f ≤ 900 → whileS c b F (pre ++ [rowD r]) = .ok (pre ++ (rowsF f r).map rowD) := by
  intro f
  induction f with
  | zero =>
    intro r pre F hF h2 h1 hd hl hp
    obtain ⟨F, rfl⟩ : ∃ n, F = n + 1 := ⟨F - 1, by omega⟩
    unfold whileS
    rw [hc, show decide (1 < r.length) = false from decide_eq_false (by simp at h2; omega)]
    rfl
  | succ f ih =>
    intro r pre F hF h2 h1 hd hl hp
    obtain ⟨F, rfl⟩ : ∃ n, F = n + 1 := ⟨F - 1, by omega⟩
    unfold whileS rowsF
    rw [hc]
    by_cases hr : r.length ≤ 1
    · rw [if_pos hr, show decide (1 < r.length) = false from decide_eq_false (by omega)]
      rfl
    · rw [if_neg hr, show decide (1 < r.length) = true from decide_eq_true (by omega)]
      simp only [r_bind, if_true, hb pre r hd (by omega) hl (by omega)]
      rw [ih (next r) (pre ++ [rowD r]) F (by omega) (by rw [next_len]; rw [Nat.pow_succ] at h2; omega) (by rw [next_len]; omega) (next_dg hd) (by rw [next_len]; omega) (by simp; omega)]
      simp
theorem for_rows (F : D → List D → R (Fl (List D))) (hb : ∀ d pre r, AllDg r → 1 ≤ r.length → r.length ≤ 900 → pre.length ≤ 900 → F d (pre ++ [rowD r]) = .ok (if r.length < 2 then .bk (pre ++ [rowD r]) else .nx (pre ++ [rowD r] ++ [rowD (next r)]))) :
    ∀ (f : Nat) (r : List Int) (pre : List D) (ds : List D), f < ds.length → r.length ≤ 2 ^ f → 1 ≤ r.length → AllDg r → r.length ≤ 900 → pre.length + f ≤ 900 → forF ds (pre ++ [rowD r]) F = .ok (.go (pre ++ (rowsF f r).map rowD)) := by
  intro f
  induction f with
  | zero =>
    intro r pre ds hF h2 h1 hd hl hp
    cases ds with
    | nil => simp at hF
    | cons d ds =>
      unfold forF
      rw [hb d pre r hd h1 hl (by omega), if_pos (by simp at h2; omega)]
      rfl
  | succ f ih =>
    intro r pre ds hF h2 h1 hd hl hp
    cases ds with
    | nil => simp at hF
    | cons d ds =>
      unfold forF rowsF
      rw [hb d pre r hd h1 hl (by omega)]
      by_cases hr : r.length ≤ 1
      · rw [if_pos hr, if_pos (by omega)]
        rfl
      · rw [if_neg hr, if_neg (by omega)]
        simp only [r_bind]
        rw [ih (next r) (pre ++ [rowD r]) ds (by simpa using hF) (by rw [next_len]; rw [Nat.pow_succ] at h2; omega) (by rw [next_len]; omega) (next_dg hd) (by rw [next_len]; omega) (by simp; omega)]
        simp
/-! ### digest_rows, _law_rows -/
theorem len_row (r : List Int) : o1 lenO [rowD r] = some (.int r.length) := by simp [rowD]
theorem ix_row (r : List Int) (i : Int) : ixO (rowD r) (.int i) = atI (r.map PyData.int) i := rfl
theorem app_ok (s : List D) (d : D) (h : s.length ≤ 1000) : (lfo (if s.length < sizeLine then some (s ++ [d]) else none) : R (List D)) = .ok (s ++ [d]) := by rw [if_pos (lt_line h)]; rfl
def row0 (ts : List Str) : List Int := (List.range ts.length).map fun (i : Nat) => dig (lineS (i : Int) (ts.getD i ""))
theorem row0_dg (ts : List Str) : AllDg (row0 ts) := fun x hx => by
  obtain ⟨k, _, e⟩ := List.mem_map.mp hx
  rw [← e]; exact dg_dig _
theorem row0_len (ts : List Str) : (row0 ts).length = ts.length := by simp [row0]
def rowsL (ts : List Str) : List (List Int) := rowsF 6 (row0 ts)
theorem last_row (pre : List D) (r : List Int) : atI (pre ++ [rowD r]) (-1) = some (rowD r) := L2.atI_last _ _
theorem at_end (pre : List D) (x : D) : atI (pre ++ [x]) ((((pre ++ [x]).length : Nat) : Int) - 1) = some x := by
  have e : (((pre ++ [x]).length : Nat) : Int) - 1 = ((pre.length : Nat) : Int) := by simp
  rw [e, atI_nat _ _ (by simp)]
  simp
theorem digest_rows {es : List D} {ts : List Str} (h : Evs es ts) (hn : es.length ≤ 64) (h0 : es ≠ []) : b_digest_rows (.list es) = .ok (.list ((rowsL ts).map rowD)) := by
  have hl := Paired.length h
  have e0 : eqO (.list es) (.list []) = some false := by
    cases es with
    | nil => exact absurd rfl h0
    | cons x es => simp [eqO, PyData.depth, PyData.depthAll, PyData.eqv, PyData.eqvAll]
  have hpos : 1 ≤ ts.length := by
    cases es with
    | nil => exact absurd rfl h0
    | cons x es => rw [← hl]; simp
  unfold b_digest_rows
  simp only [r_pure, r_bind, r_lfo, e0, Bool.false_eq_true, if_false, show enumO [.list es] = some (enumD 0 es) from rfl]
  rw [mapS_at _ _ ((row0 ts).map PyData.int) (by simp [enumD_len, row0, hl]) fun i d x hd hx => ?_]
  · simp only [r_bind, parts_l, r_lfo]
    rw [show ([.list ((row0 ts).map PyData.int)] : List D) = [] ++ [rowD (row0 ts)] from rfl]
    rw [while_rows _ _ (fun pre r => ?_) (fun pre r hd h2 hl9 hp => ?_) 6 (row0 ts) [] FUEL (by decide) (by rw [row0_len]; omega) (by rw [row0_len]; omega) (row0_dg ts) (by rw [row0_len]; omega) (by decide)]
    · rfl
    · simp only [neg_i, r_lfo, r_bind, ix_l, last_row, len_row, gt_i]
      congr 2
      exact propext (by omega)
    · simp only [neg_i, r_lfo, r_bind, ix_l, last_row, len_row, sub_i]
      rw [range3 r.length h2 (by omega)]
      simp only [r_lfo, r_bind]
      rw [map_pairs (r := r) (c := 2) _ fun k hk => ?_]
      · simp only [r_bind, mod_i _ 2 (by decide), r_lfo, sub_i, int_i, Option.map_some]
        have e1 : ((r.length : Nat) : Int) - ((r.length : Nat) : Int) % 2 = ((r.length - r.length % 2 : Nat) : Int) := by omega
        rw [e1]
        have e2 : sliceO (rowD r) (some ((r.length - r.length % 2 : Nat) : Int)) none = some (.list ((r.drop (r.length - r.length % 2)).map PyData.int)) := by
          show some (PyData.list (DL.cutD (r.map PyData.int) _ none)) = _
          rw [cut_from _ _ (by simp), List.map_drop]
        rw [e2]
        simp only [r_lfo, r_bind]
        rw [add_l (by simp [prs]; omega)]
        simp only [r_lfo, r_bind]
        rw [app_ok _ _ (by simp; omega)]
        simp only [r_bind]
        rw [← List.map_append, ← next_eq]
        rfl
      · have e1 : ((k : Nat) : Int) * 2 = ((2 * k : Nat) : Int) := by omega
        have e2 : ((2 * k : Nat) : Int) + 1 = ((2 * k + 1 : Nat) : Int) := by omega
        rw [e1]
        simp only [r_lfo, r_bind, add_i, ix_row, e2, at_row (show 2 * k < r.length by omega), at_row (show 2 * k + 1 < r.length by omega), m_join_digests, join_digests (getD_dg hd (show 2 * k < r.length by omega)).db (getD_dg hd (show 2 * k + 1 < r.length by omega)).db, r_nox]
  · obtain ⟨y, hy, rfl⟩ := enumD_at hd
    obtain ⟨t, ht, ev⟩ := Paired.at h hy
    have hi : i < es.length := (List.getElem?_eq_some_iff.mp hy).1
    simp only [Nat.zero_add, r_lfo, tup2_t, r_bind, (line_dig (i := i) (by omega) ev).1, r_nox]
    congr 1
    have hi' : i < ts.length := by omega
    simp [row0, List.getElem?_map, hi'] at hx
    have := (List.getElem?_eq_some_iff.mp ht).2
    rw [← hx, this]
theorem at_str {ts : List Str} {i : Nat} {t : Str} (h : ts[i]? = some t) : atI (ts.map PyData.str) ((i : Nat) : Int) = some (.str t) := by
  obtain ⟨hi, e⟩ := List.getElem?_eq_some_iff.mp h
  rw [atI_nat _ _ (by rw [List.length_map]; exact hi)]
  simp [e]
theorem law_rows {es : List D} {ts : List Str} (h : Evs es ts) (hn : es.length ≤ 64) (h0 : es ≠ []) : b__law_rows (.list (ts.map .str)) = .ok (.list ((rowsL ts).map rowD)) := by
  have hl := Paired.length h
  have hpos : 1 ≤ ts.length := by
    cases es with
    | nil => exact absurd rfl h0
    | cons x es => rw [← hl]; simp
  unfold b__law_rows
  simp only [r_pure, r_bind, r_lfo, len_l, List.length_map, range1 ts.length (by omega)]
  rw [mapS_at _ _ ((row0 ts).map PyData.int) (by simp [rng_len, row0]) fun i d x hd hx => ?_]
  · simp only [r_bind, parts_l, r_lfo, show rangeO1 [.int 10] = some (rng 0 1 10) from by kernel_rfl]
    rw [show ([.list ((row0 ts).map PyData.int)] : List D) = [] ++ [rowD (row0 ts)] from rfl]
    rw [for_rows _ (fun d pre r hd h1 hl9 hp => ?_) 6 (row0 ts) [] (rng 0 1 10) (by decide) (by rw [row0_len]; omega) (by rw [row0_len]; omega) (row0_dg ts) (by rw [row0_len]; omega) (by decide)]
    · rfl
    · simp only [r_lfo, r_bind, ix_l, len_l, sub_i, at_end, len_row, lt_i]
      by_cases hr : r.length < 2
      · rw [if_pos hr, show decide (((r.length : Nat) : Int) < 2) = true from decide_eq_true (by omega)]
        rfl
      · rw [if_neg hr, show decide (((r.length : Nat) : Int) < 2) = false from decide_eq_false (by omega)]
        simp only [Bool.false_eq_true, if_false, fdiv_i _ 2 (by decide), r_lfo, r_bind, show ((r.length : Nat) : Int) / 2 = ((r.length / 2 : Nat) : Int) by omega, range1 (r.length / 2) (by omega)]
        rw [map_pairs (r := r) (c := 1) _ fun k hk => ?_]
        · simp only [r_bind, int1_i, mod_i _ 2 (by decide), r_lfo, eq_i]
          have fin : ∀ m : List Int, m = next r → (lfo (if (pre ++ [rowD r]).length < sizeLine then some ((pre ++ [rowD r]) ++ [.list (m.map PyData.int)]) else none) >>= fun rows => (R.ok (.nx rows : Fl (List D)))) = R.ok (.nx (pre ++ [rowD r] ++ [rowD (next r)]) : Fl (List D)) := fun m e => by
            subst e
            rw [app_ok _ _ (by simp; omega)]
            rfl
          by_cases ho : r.length % 2 = 1
          · have e1 : (((r.length : Nat) : Int) % 2 == 1) = true := by simp; omega
            simp only [e1, if_true]
            have e2 : ((r.length : Nat) : Int) - 1 = ((r.length - 1 : Nat) : Int) := by omega
            simp only [ix_row, e2, at_row (show r.length - 1 < r.length by omega), r_lfo, r_bind]
            rw [add_l (by simp [prs]; omega)]
            simp only [r_lfo, r_bind]
            refine Eq.trans ?_ (fin (prs r ++ [r.getD (r.length - 1) 0]) ?_)
            · simp only [List.map_append, List.map_cons, List.map_nil]
            · rw [next_eq, ho]
              congr 1
              rw [List.drop_eq_getElem_cons (by omega), List.drop_of_length_le (by omega)]
              simp [List.getD, List.getElem?_eq_getElem (show r.length - 1 < r.length by omega)]
          · have e1 : (((r.length : Nat) : Int) % 2 == 1) = false := by simp; omega
            simp only [e1, Bool.false_eq_true, if_false, r_bind]
            exact fin (prs r) (by rw [next_eq, show r.length % 2 = 0 by omega]; simp)
        · have e1 : (2 : Int) * (((k : Nat) : Int) * 1) = ((2 * k : Nat) : Int) := by omega
          have e2 : ((2 * k : Nat) : Int) + 1 = ((2 * k + 1 : Nat) : Int) := by omega
          simp only [r_lfo, r_bind, mul_i 2 _ (.inl (by decide)), e1, add_i, ix_row, e2, at_row (show 2 * k < r.length by omega), at_row (show 2 * k + 1 < r.length by omega), m__law_join, law_join (getD_dg hd (show 2 * k < r.length by omega)).db (getD_dg hd (show 2 * k + 1 < r.length by omega)).db, r_nox]
  · have hi : i < ts.length := by
      have := (List.getElem?_eq_some_iff.mp hd).1
      rw [rng_len] at this; exact this
    have hd := rng_at hd
    rw [Int.zero_add, Int.mul_one] at hd
    subst hd
    obtain ⟨e, he⟩ : ∃ e, es[i]? = some e := ⟨_, List.getElem?_eq_getElem (by omega)⟩
    obtain ⟨t, ht, ev⟩ := Paired.at h he
    simp only [r_lfo, r_bind, ix_l, at_str ht, (line_dig (i := i) (by omega) ev).2, r_nox]
    congr 1
    simp [row0, List.getElem?_map, hi] at hx
    have := (List.getElem?_eq_some_iff.mp ht).2
    rw [← hx, this]
end Lw
end
section
namespace Lw
open PySem PySem.Spec PyProof.Rows L2 DL
theorem rowsF_last : ∀ (f : Nat) (r : List Int), AllDg r → 1 ≤ r.length → ∃ pre x, rowsF f r = pre ++ [x] ∧ AllDg x ∧ 1 ≤ x.length
  | 0, r, h, h1 => ⟨[], r, rfl, h, h1⟩
  | f + 1, r, h, h1 => by
    unfold rowsF
    by_cases hr : r.length ≤ 1
    · rw [if_pos hr]; exact ⟨[], r, rfl, h, h1⟩
    · rw [if_neg hr]
      obtain ⟨pre, x, e, hx⟩ := rowsF_last f (next r) (next_dg h) (by rw [next_len]; omega)
      exact ⟨r :: pre, x, by rw [e]; rfl, hx⟩
def top (ts : List Str) : Int := ((rowsL ts).getLastD []).getD 0 0
theorem rows_split {ts : List Str} (h : 1 ≤ ts.length) : ∃ pre x, rowsL ts = pre ++ [x] ∧ AllDg x ∧ 1 ≤ x.length ∧ top ts = x.getD 0 0 := by
  obtain ⟨pre, x, e, h1, h2⟩ := rowsF_last 6 (row0 ts) (row0_dg ts) (by rw [row0_len]; exact h)
  refine ⟨pre, x, e, h1, h2, ?_⟩
  unfold top rowsL
  rw [e]
  simp
theorem top_dg {ts : List Str} (h : 1 ≤ ts.length) : Dg (top ts) := by
  obtain ⟨pre, x, e, h1, h2, h3⟩ := rows_split h
  rw [h3]; exact getD_dg h1 h2
theorem evs_pos {es : List D} {ts : List Str} (h : Evs es ts) (h0 : es ≠ []) : 1 ≤ ts.length := by
  have hl := Paired.length h
  cases es with
  | nil => exact absurd rfl h0
  | cons x es => rw [← hl]; simp
theorem at_row0 {r : List Int} (h : 0 < r.length) : atI (r.map PyData.int) 0 = some (.int (r.getD 0 0)) := at_row (i := 0) h
theorem digest_of {es : List D} {ts : List Str} (h : Evs es ts) (hn : es.length ≤ 64) (h0 : es ≠ []) : b_digest_of (.list es) = .ok (.int (top ts)) := by
  obtain ⟨pre, x, e, h1, h2, h3⟩ := rows_split (evs_pos h h0)
  unfold b_digest_of
  simp only [r_pure, r_bind, m_digest_rows, digest_rows h hn h0, e, tru_l, r_lfo]
  have e1 : (!((pre ++ [x]).map rowD).isEmpty) = true := by simp
  simp only [e1, if_true]
  simp only [neg_i, r_lfo, r_bind, ix_l, List.map_append, List.map_cons, List.map_nil, last_row, ix_row, at_row0 h2, h3]
/-- how the law reads it -/
theorem top_read {ts : List Str} (h : 1 ≤ ts.length) : ∃ x : List Int, ixO (.list ((rowsL ts).map rowD)) (.int ((((rowsL ts).map rowD).length : Nat) - 1 : Int)) = some (rowD x) ∧ ixO (rowD x) (.int 0) = some (.int (top ts)) := by
  obtain ⟨pre, x, e, h1, h2, h3⟩ := rows_split h
  refine ⟨x, ?_, ?_⟩
  · rw [e, List.map_append]
    exact at_end (pre.map rowD) (rowD x)
  · rw [ix_row, at_row0 h2, h3]
/-! ### papers -/
abbrev En := Str × Int
def enD (q : En) : D := .tuple [.str q.1, .int q.2]
def pD (ps : List En) : D := .tuple (ps.map enD)
def ent (r : List Int) (p : Nat) : List En := if p % 2 = 1 then [("left", r.getD (p - 1) 0)] else if p + 1 < r.length then [("right", r.getD (p + 1) 0)] else []
def papL : List (List Int) → Nat → List En
  | [], _ => []
  | r :: rs, p => ent r p ++ papL rs (p / 2)
def okP : List (List Int) → Nat → Prop
  | [], _ => True
  | r :: rs, p => (p < r.length ∧ r.length ≤ 900 ∧ AllDg r) ∧ okP rs (p / 2)
theorem okP_rows : ∀ (f : Nat) (r : List Int) (p : Nat), p < r.length → r.length ≤ 900 → AllDg r → okP (rowsF f r) p
  | 0, r, p, h, h9, hd => ⟨⟨h, h9, hd⟩, trivial⟩
  | f + 1, r, p, h, h9, hd => by
    unfold rowsF
    by_cases hr : r.length ≤ 1
    · rw [if_pos hr]; exact ⟨⟨h, h9, hd⟩, trivial⟩
    · rw [if_neg hr]
      exact ⟨⟨h, h9, hd⟩, okP_rows f (next r) (p / 2) (by rw [next_len]; omega) (by rw [next_len]; omega) (next_dg hd)⟩
theorem okP_drop : ∀ (rs : List (List Int)) (p : Nat), okP rs p → okP rs.dropLast p
  | [], _, _ => trivial
  | [r], _, _ => trivial
  | r :: r' :: rs, p, h => ⟨h.1, okP_drop (r' :: rs) (p / 2) h.2⟩
theorem rowsF_len : ∀ (f : Nat) (r : List Int), (rowsF f r).length ≤ f + 1
  | 0, r => Nat.le_refl _
  | f + 1, r => by
    unfold rowsF
    split
    · simp
    · simp only [List.length_cons]; have := rowsF_len f (next r); omega
theorem ent_len (r : List Int) (p : Nat) : (ent r p).length ≤ 1 := by
  unfold ent
  split
  · simp
  · split <;> simp
theorem cut_last (ds : List D) : DL.cutD ds none (some (-1)) = ds.dropLast := by
  unfold DL.cutD
  have e1 : HT.sIx ds.length 0 none = 0 := rfl
  have e2 : HT.sIx ds.length ds.length (some (-1)) = ds.length - 1 := by
    show (if (-1 : Int) < 0 then ((-1 : Int) + (ds.length : Int)).toNat else min (-1 : Int).toNat ds.length) = _
    rw [if_pos (by decide)]
    omega
  rw [e1, e2, List.dropLast_eq_take]
  rfl
theorem pap_loop (f : D → D × List D → R (D × List D)) (hf : ∀ (r : List Int) (p : Nat) (found : List D), p < r.length → r.length ≤ 900 → found.length ≤ 900 → f (rowD r) (.int p, found) = .ok (.int ((p / 2 : Nat) : Int), found ++ (ent r p).map enD)) :
    ∀ (rs : List (List Int)) (p : Nat) (found : List D), okP rs p → found.length + rs.length ≤ 900 → ∃ x, forS (rs.map rowD) ((.int p, found) : D × List D) f = .ok (x, found ++ (papL rs p).map enD)
  | [], p, found, _, _ => ⟨.int p, by simp [papL, forS]⟩
  | r :: rs, p, found, h, hl => by
    obtain ⟨x, e⟩ := pap_loop f hf rs (p / 2) (found ++ (ent r p).map enD) h.2 (by have := ent_len r p; simp at hl ⊢; omega)
    refine ⟨x, ?_⟩
    show (f (rowD r) (.int p, found) >>= fun s' => forS (rs.map rowD) s' f) = _
    rw [hf r p found h.1.1 h.1.2.1 (by simp at hl; omega), r_bind, e]
    simp [papL]
theorem pap_loop2 (f : D → List D × D → R (List D × D)) (hf : ∀ (r : List Int) (p : Nat) (found : List D), p < r.length → r.length ≤ 900 → found.length ≤ 900 → f (rowD r) (found, .int p) = .ok (found ++ (ent r p).map enD, .int ((p / 2 : Nat) : Int))) :
    ∀ (rs : List (List Int)) (p : Nat) (found : List D), okP rs p → found.length + rs.length ≤ 900 → ∃ x, forS (rs.map rowD) ((found, .int p) : List D × D) f = .ok (found ++ (papL rs p).map enD, x)
  | [], p, found, _, _ => ⟨.int p, by simp [papL, forS]⟩
  | r :: rs, p, found, h, hl => by
    obtain ⟨x, e⟩ := pap_loop2 f hf rs (p / 2) (found ++ (ent r p).map enD) h.2 (by have := ent_len r p; simp at hl ⊢; omega)
    refine ⟨x, ?_⟩
    show (f (rowD r) (found, .int p) >>= fun s' => forS (rs.map rowD) s' f) = _
    rw [hf r p found h.1.1 h.1.2.1 (by simp at hl; omega), r_bind, e]
    simp [papL]
theorem pap_run {α : Type} {f : D → D × List D → R (D × List D)} {rs : List (List Int)} {p : Nat} {g : D × List D → R α} {r : R α} (ho : okP rs p) (hl : rs.length ≤ 900) (hf : ∀ (r : List Int) (p : Nat) (found : List D), p < r.length → r.length ≤ 900 → found.length ≤ 900 → f (rowD r) (.int p, found) = .ok (.int ((p / 2 : Nat) : Int), found ++ (ent r p).map enD)) (hg : ∀ x, g (x, (papL rs p).map enD) = r) : (forS (rs.map rowD) ((.int p, []) : D × List D) f >>= g) = r := by
  obtain ⟨x, e⟩ := pap_loop f hf rs p [] ho (by simpa using hl)
  rw [e]
  exact hg x
theorem pap_run2 {α : Type} {f : D → List D × D → R (List D × D)} {rs : List (List Int)} {p : Nat} {g : List D × D → R α} {r : R α} (ho : okP rs p) (hl : rs.length ≤ 900) (hf : ∀ (r : List Int) (p : Nat) (found : List D), p < r.length → r.length ≤ 900 → found.length ≤ 900 → f (rowD r) (found, .int p) = .ok (found ++ (ent r p).map enD, .int ((p / 2 : Nat) : Int))) (hg : ∀ x, g ((papL rs p).map enD, x) = r) : (forS (rs.map rowD) (([], .int p) : List D × D) f >>= g) = r := by
  obtain ⟨x, e⟩ := pap_loop2 f hf rs p [] ho (by simpa using hl)
  rw [e]
  exact hg x
theorem rows_okP {ts : List Str} {p : Nat} (h : p < ts.length) (hn : ts.length ≤ 900) : okP (rowsL ts).dropLast p := okP_drop _ _ (okP_rows 6 _ p (by rw [row0_len]; exact h) (by rw [row0_len]; exact hn) (row0_dg ts))
theorem rows_le (ts : List Str) : (rowsL ts).dropLast.length ≤ 900 := by
  have := rowsF_len 6 (row0 ts)
  simp only [rowsL, List.length_dropLast]
  omega
theorem drop_rows (rs : List (List Int)) : sliceO (.list (rs.map rowD)) none (some (-1)) = some (.list (rs.dropLast.map rowD)) := by
  show some (PyData.list (DL.cutD _ none (some (-1)))) = _
  rw [cut_last, List.map_dropLast]
/-- an entry, as both make it -/
theorem ent_left {r : List Int} {p : Nat} (h : p % 2 = 1) : (ent r p).map enD = [.tuple [.str "left", .int (r.getD (p - 1) 0)]] := by unfold ent; rw [if_pos h]; rfl
theorem ent_right {r : List Int} {p : Nat} (h : ¬ p % 2 = 1) (k : p + 1 < r.length) : (ent r p).map enD = [.tuple [.str "right", .int (r.getD (p + 1) 0)]] := by unfold ent; rw [if_neg h, if_pos k]; rfl
theorem ent_none {r : List Int} {p : Nat} (h : ¬ p % 2 = 1) (k : ¬ p + 1 < r.length) : (ent r p).map enD = [] := by unfold ent; rw [if_neg h, if_neg k]; rfl
theorem odd1 {p : Nat} (h : p % 2 = 1) : (((p : Nat) : Int) % 2 == 1) = true := by simp; omega
theorem odd0 {p : Nat} (h : ¬ p % 2 = 1) : (((p : Nat) : Int) % 2 == 1) = false := by simp; omega
theorem half (p : Nat) : ((p : Nat) : Int) / 2 = ((p / 2 : Nat) : Int) := by omega
def paper (ts : List Str) (p : Nat) : List En := papL (rowsL ts).dropLast p
theorem line_paper {es : List D} {ts : List Str} (h : Evs es ts) (hn : es.length ≤ 64) {p : Nat} (hp : p < es.length) : b_line_paper (.list es) (.int p) = .ok (pD (paper ts p)) := by
  have hl := Paired.length h
  have h0 : es ≠ [] := by intro e; rw [e] at hp; simp at hp
  unfold b_line_paper
  have e1 : decide ((0 : Int) ≤ (p : Int)) = true := decide_eq_true (by omega)
  have e2 : decide ((p : Int) < (es.length : Int)) = true := decide_eq_true (by omega)
  simp only [r_pure, r_bind, le_i, r_lfo, e1, if_true, len_l, lt_i, e2, Bool.not_true, Bool.false_eq_true, if_false, parts_l, m_digest_rows, digest_rows h hn h0, neg_i, int_i, Option.map_some]
  simp only [drop_rows, r_lfo, r_bind, items_l]
  refine pap_run (rows_okP (by omega) (by omega)) (rows_le ts) (fun r p found hp h9 hf => ?_) fun x => ?_
  · simp only [r_lfo, r_bind, mod_i _ 2 (by decide), eq_i]
    by_cases ho : p % 2 = 1
    · have e4 : ((p : Nat) : Int) - 1 = ((p - 1 : Nat) : Int) := by omega
      simp only [odd1 ho, if_true, sub_i, r_lfo, r_bind, ix_row, e4, at_row (show p - 1 < r.length by omega)]
      rw [app_ok _ _ (by omega)]
      simp only [r_bind, fdiv_i _ 2 (by decide), r_lfo, half, ent_left ho]
    · have e4 : ((p : Nat) : Int) + 1 = ((p + 1 : Nat) : Int) := by omega
      simp only [odd0 ho, Bool.false_eq_true, if_false, add_i, r_lfo, r_bind, len_row, lt_i, e4]
      by_cases hk : p + 1 < r.length
      · simp only [show decide (((p + 1 : Nat) : Int) < ((r.length : Nat) : Int)) = true from decide_eq_true (by omega), if_true, ix_row, at_row hk, r_lfo, r_bind]
        rw [app_ok _ _ (by omega)]
        simp only [r_bind, fdiv_i _ 2 (by decide), r_lfo, half, ent_right ho hk]
      · simp only [show decide (((p + 1 : Nat) : Int) < ((r.length : Nat) : Int)) = false from decide_eq_false (by omega), Bool.false_eq_true, if_false, r_bind, fdiv_i _ 2 (by decide), r_lfo, half, ent_none ho hk, List.append_nil]
  · simp only [tuple_l, r_lfo]
    rfl
theorem law_paper {ts : List Str} (hn : ts.length ≤ 64) {p : Nat} (hp : p < ts.length) : b__law_paper (.list ((rowsL ts).map rowD)) (.int p) = .ok (pD (paper ts p)) := by
  unfold b__law_paper
  simp only [r_pure, r_bind, r_lfo, parts_l, neg_i, int_i, Option.map_some, drop_rows, items_l]
  refine pap_run2 (rows_okP (by omega) (by omega)) (rows_le ts) (fun r p found hp h9 hf => ?_) fun x => ?_
  · simp only [r_lfo, r_bind, int1_i, mod_i _ 2 (by decide), eq_i]
    by_cases ho : p % 2 = 1
    · have e4 : ((p : Nat) : Int) - 1 = ((p - 1 : Nat) : Int) := by omega
      simp only [odd1 ho, if_true, sub_i, r_lfo, r_bind, ix_row, e4, at_row (show p - 1 < r.length by omega)]
      rw [app_ok _ _ (by omega)]
      simp only [r_bind, fdiv_i _ 2 (by decide), r_lfo, half, ent_left ho]
    · have e4 : ((p : Nat) : Int) + 1 = ((p + 1 : Nat) : Int) := by omega
      simp only [odd0 ho, Bool.false_eq_true, if_false, add_i, r_lfo, r_bind, len_row, lt_i, e4]
      by_cases hk : p + 1 < r.length
      · simp only [show decide (((p + 1 : Nat) : Int) < ((r.length : Nat) : Int)) = true from decide_eq_true (by omega), if_true, ix_row, at_row hk, r_lfo, r_bind]
        rw [app_ok _ _ (by omega)]
        simp only [r_bind, fdiv_i _ 2 (by decide), r_lfo, half, ent_right ho hk]
      · simp only [show decide (((p + 1 : Nat) : Int) < ((r.length : Nat) : Int)) = false from decide_eq_false (by omega), Bool.false_eq_true, if_false, r_bind, fdiv_i _ 2 (by decide), r_lfo, half, ent_none ho hk, List.append_nil]
  · simp only [tuple_l, r_lfo]
    rfl
/-! ### judges -/
def okE (ps : List En) : Prop := ∀ q ∈ ps, Db q.2
def leadF (ps : List En) (x : Int) : Int := ps.foldl (fun f q => if q.1 == ("left" : Str) then join q.2 f else join f q.2) x
theorem lead_loop (f : D → D → R D) (hf : ∀ (q : En) (x : Int), Db q.2 → Db x → f (enD q) (.int x) = .ok (.int (if q.1 == ("left" : Str) then join q.2 x else join x q.2))) : ∀ (ps : List En) (x : Int), okE ps → Db x → forS (ps.map enD) (.int x : D) f = .ok (.int (leadF ps x))
  | [], x, _, _ => rfl
  | q :: ps, x, h, hx => by
    show (f (enD q) (.int x) >>= fun s' => forS (ps.map enD) s' f) = _
    rw [hf q x (h q (List.mem_cons_self ..)) hx, r_bind]
    refine lead_loop f hf ps _ (fun q' hq => h q' (List.mem_cons_of_mem _ hq)) ?_
    split <;> exact (dg_join _ _).db
theorem judge_line {dg : Int} {i : Nat} {e : D} {t : Str} {ps : List En} (h : Ev e t) (hi : i ≤ 900) (hp : okE ps) : b_judge_line (.int dg) (.int i) e (pD ps) = .ok (.bool (leadF ps (dig (lineS i t)) == dg)) := by
  unfold b_judge_line
  simp only [r_pure, r_bind, (line_dig (i := i) (by omega) h).1, pD, items_t, r_lfo]
  rw [lead_loop _ (fun q x hq hx => ?_) ps _ hp (dg_dig _).db]
  · simp only [r_bind, eq_i, Option.map_some, r_lfo]
  · simp only [enD, tup2_t, r_lfo, r_bind, eq_s, m_join_digests, join_digests hq hx, join_digests hx hq]
    split <;> simp_all
theorem law_leads {dg : Int} {i : Nat} {e : D} {t : Str} {ps : List En} (h : Ev e t) (hi : i ≤ 900) (hp : okE ps) : b__law_leads (.int dg) (.int i) (.str t) (pD ps) = .ok (.bool (leadF ps (dig (lineS i t)) == dg)) := by
  unfold b__law_leads
  simp only [r_pure, r_bind, (line_dig (i := i) (by omega) h).2, pD, items_t, r_lfo]
  rw [lead_loop _ (fun q x hq hx => ?_) ps _ hp (dg_dig _).db]
  · simp only [r_bind, eq_i, Option.map_some, r_lfo]
  · simp only [enD, tup2_t, r_lfo, r_bind, eq_s, m__law_join, law_join hq hx, law_join hx hq]
    split <;> simp_all
theorem ent_ok {r : List Int} {p : Nat} (h : p < r.length) (hd : AllDg r) : okE (ent r p) := fun q hq => by
  unfold ent at hq
  split at hq
  · rw [List.mem_singleton.mp hq]; exact (getD_dg hd (by omega)).db
  · split at hq
    · rw [List.mem_singleton.mp hq]; exact (getD_dg hd (by assumption)).db
    · cases hq
theorem papL_ok : ∀ (rs : List (List Int)) (p : Nat), okP rs p → okE (papL rs p)
  | [], p, _ => fun q hq => by cases hq
  | r :: rs, p, h => fun q hq => by
    rcases List.mem_append.mp hq with z | z
    · exact ent_ok h.1.1 h.1.2.2 q z
    · exact papL_ok rs (p / 2) h.2 q z
theorem paper_dg {ts : List Str} (hn : ts.length ≤ 64) {p : Nat} (hp : p < ts.length) : okE (paper ts p) := papL_ok _ _ (rows_okP hp (by omega))
/-! ### is_continued -/
theorem is_continued {es : List D} {ts : List Str} (h : Evs es ts) (hn : es.length ≤ 900) {dg : Int} {k : Nat} (hk : k ≤ es.length) : b_is_continued (.int dg) (.int k) (.list es) = .ok (.bool (cv ts k == dg)) := by
  unfold b_is_continued
  have e1 : decide (((es.length : Nat) : Int) < ((k : Nat) : Int)) = false := decide_eq_false (by omega)
  simp only [r_pure, r_bind, len_l, r_lfo, gt_i, e1, Bool.false_eq_true, if_false, m_chain_digests, chain_digests h hn, ix_l, chL_at ts (show k < es.length + 1 by omega), eq_i, Option.map_some]
/-! ### refused -/
theorem refused {es : List D} (k : Int) (hk : k = 0 ∨ k = 1 ∨ k = 2) : b__law_refused (.list es) (.int k) = .ok (.bool true) := by
  have hh : hit_NotPossible "NotPossible" = some true := by kernel_rfl
  have fin : ∀ m : R D, m = .exc ⟨"NotPossible", []⟩ → tryR m hit_NotPossible (.bool true) = .ok (.bool true) := fun m e => by
    subst e
    unfold tryR
    dsimp only
    rw [hh]
  unfold b__law_refused
  refine fin _ ?_
  have e1 : decide ((0 : Int) ≤ ((es.length : Nat) : Int)) = true := decide_eq_true (by omega)
  have e2 : decide (((es.length : Nat) : Int) < ((es.length : Nat) : Int)) = false := decide_eq_false (by omega)
  have e3 : decide ((0 : Int) ≤ -1) = false := by decide
  have e4 : decide (((es.length : Nat) : Int) < ((es.length : Nat) : Int) + 1) = true := decide_eq_true (by omega)
  rcases hk with e | e | e <;> subst e
  · simp only [r_pure, r_bind, eq_i, r_lfo, beq_self_eq_true, if_true, len_l, m_line_paper, b_line_paper, le_i, e1, lt_i, e2, Bool.not_false, r_exc]
    rfl
  · simp only [r_pure, r_bind, eq_i, r_lfo, show ((1 : Int) == 0) = false from rfl, beq_self_eq_true, Bool.false_eq_true, if_false, if_true, len_l, m_line_paper, b_line_paper, neg_i, le_i, e3, Bool.not_false, r_exc]
    rfl
  · simp only [r_pure, r_bind, eq_i, r_lfo, show ((2 : Int) == 0) = false from rfl, show ((2 : Int) == 1) = false from rfl, Bool.false_eq_true, if_false, if_true, len_l, add_i, m_is_continued, b_is_continued, gt_i, e4, r_exc]
    rfl
end Lw
end
section
namespace Lw
open PySem PySem.Spec PyProof.Rows L2 DL
/-! ### first_apart -/
def bisF (a b : Nat → Int) : Nat → Nat → Nat → Nat
  | 0, lo, _ => lo
  | f + 1, lo, hi => if lo < hi then (if a ((lo + hi) / 2 + 1) = b ((lo + hi) / 2 + 1) then bisF a b f ((lo + hi) / 2 + 1) hi else bisF a b f lo ((lo + hi) / 2)) else lo
theorem bisF_end (a b : Nat → Int) : ∀ (f lo hi : Nat), ¬ lo < hi → bisF a b f lo hi = lo
  | 0, _, _, _ => rfl
  | f + 1, lo, hi, h => by unfold bisF; rw [if_neg h]
/-- a turn of both -/
def turn (a b : Nat → Int) (lo hi : Nat) : D × D := if a ((lo + hi) / 2 + 1) = b ((lo + hi) / 2 + 1) then (.int ((lo + hi) / 2 + 1 : Nat), .int hi) else (.int lo, .int ((lo + hi) / 2 : Nat))
theorem apart_while (a b : Nat → Int) (mx : Nat) (c : D × D → R Bool) (bd : D × D → R (D × D)) (hc : ∀ lo hi : Nat, c (.int lo, .int hi) = .ok (decide (lo < hi))) (hb : ∀ lo hi : Nat, lo < hi → hi ≤ mx → bd (.int lo, .int hi) = .ok (turn a b lo hi)) :
    ∀ (f lo hi F : Nat), f < F → hi - lo < 2 ^ f → hi ≤ mx → ∃ x, whileS c bd F ((.int lo, .int hi) : D × D) = .ok (.int (bisF a b f lo hi), x) := by
  intro f
  induction f with
  | zero =>
    intro lo hi F hF h2 hm
    obtain ⟨F, rfl⟩ : ∃ n, F = n + 1 := ⟨F - 1, by omega⟩
    unfold whileS
    rw [hc, show decide (lo < hi) = false from decide_eq_false (by simp at h2; omega)]
    exact ⟨_, rfl⟩
  | succ f ih =>
    intro lo hi F hF h2 hm
    obtain ⟨F, rfl⟩ : ∃ n, F = n + 1 := ⟨F - 1, by omega⟩
    unfold whileS bisF
    rw [hc]
    rw [Nat.pow_succ] at h2
    by_cases hl : lo < hi
    · rw [if_pos hl, show decide (lo < hi) = true from decide_eq_true hl]
      simp only [r_bind, if_true, hb lo hi hl hm]
      unfold turn
      by_cases he : a ((lo + hi) / 2 + 1) = b ((lo + hi) / 2 + 1)
      · rw [if_pos he, if_pos he]
        exact ih _ _ F (by omega) (by omega) hm
      · rw [if_neg he, if_neg he]
        exact ih _ _ F (by omega) (by omega) (by omega)
    · rw [if_neg hl, show decide (lo < hi) = false from decide_eq_false hl]
      exact ⟨_, rfl⟩
theorem apart_for (a b : Nat → Int) (mx : Nat) (bd : D → D × D → R (D × D)) (hb : ∀ (d : D) (lo hi : Nat), hi ≤ mx → bd d (.int lo, .int hi) = .ok (if lo < hi then turn a b lo hi else (.int lo, .int hi))) :
    ∀ (ds : List D) (lo hi : Nat), hi ≤ mx → ∃ x, forS ds ((.int lo, .int hi) : D × D) bd = .ok (.int (bisF a b ds.length lo hi), x)
  | [], lo, hi, _ => ⟨_, rfl⟩
  | d :: ds, lo, hi, hm => by
    show ∃ x, (bd d (.int lo, .int hi) >>= fun s' => forS ds s' bd) = _
    rw [hb d lo hi hm]
    show ∃ x, (R.ok (if lo < hi then turn a b lo hi else (.int lo, .int hi)) >>= fun s' => forS ds s' bd) = .ok (.int (bisF a b (ds.length + 1) lo hi), x)
    unfold bisF
    by_cases hl : lo < hi
    · rw [if_pos hl, if_pos hl]
      unfold turn
      by_cases he : a ((lo + hi) / 2 + 1) = b ((lo + hi) / 2 + 1)
      · rw [if_pos he, if_pos he]
        exact apart_for a b mx bd hb ds _ _ hm
      · rw [if_neg he, if_neg he]
        exact apart_for a b mx bd hb ds _ _ (by omega)
    · rw [if_neg hl, if_neg hl]
      obtain ⟨x, e⟩ := apart_for a b mx bd hb ds lo hi hm
      rw [bisF_end a b _ lo hi hl] at e
      exact ⟨x, e⟩
theorem apart_wrun {α : Type} {a b : Nat → Int} {mx : Nat} {c : D × D → R Bool} {bd : D × D → R (D × D)} {F : Nat} {g : D × D → R α} {r : R α} (hF : 10 < F) (hx : mx < 1024) (hc : ∀ lo hi : Nat, c (.int lo, .int hi) = .ok (decide (lo < hi))) (hb : ∀ lo hi : Nat, lo < hi → hi ≤ mx → bd (.int lo, .int hi) = .ok (turn a b lo hi)) (hg : ∀ x, g (.int (bisF a b 10 0 mx), x) = r) : (whileS c bd F ((.int 0, .int (mx : Nat)) : D × D) >>= g) = r := by
  obtain ⟨x, e⟩ := apart_while a b mx c bd hc hb 10 0 mx F hF (by simpa using hx) (Nat.le_refl _)
  have e : whileS c bd F ((.int 0, .int (mx : Nat)) : D × D) = _ := e
  rw [e]
  exact hg x
theorem apart_frun {α : Type} {a b : Nat → Int} {mx : Nat} {bd : D → D × D → R (D × D)} {ds : List D} {g : D × D → R α} {r : R α} (hl : ds.length = 10) (hb : ∀ (d : D) (lo hi : Nat), hi ≤ mx → bd d (.int lo, .int hi) = .ok (if lo < hi then turn a b lo hi else (.int lo, .int hi))) (hg : ∀ x, g (.int (bisF a b 10 0 mx), x) = r) : (forS ds ((.int 0, .int (mx : Nat)) : D × D) bd >>= g) = r := by
  obtain ⟨x, e⟩ := apart_for a b mx bd hb ds 0 mx (Nat.le_refl _)
  have e : forS ds ((.int 0, .int (mx : Nat)) : D × D) bd = _ := e
  rw [e, hl]
  exact hg x
def apart (ts us : List Str) : D := if cv ts (min ts.length us.length) = cv us (min ts.length us.length) then (if ts.length = us.length then .none else .int (min ts.length us.length : Nat)) else .int (bisF (cv ts) (cv us) 10 0 (min ts.length us.length) : Nat)
theorem min2 (n m : Nat) : o2 min2O [.int (n : Nat), .int (m : Nat)] = some (.int ((min n m : Nat) : Int)) := by
  show some (PyData.int (if ((m : Nat) : Int) < ((n : Nat) : Int) then ((m : Nat) : Int) else ((n : Nat) : Int))) = _
  by_cases h : m < n
  · rw [if_pos (by omega), Nat.min_eq_right (by omega)]
  · rw [if_neg (by omega), Nat.min_eq_left (by omega)]
theorem mid (lo hi : Nat) : (((lo : Nat) : Int) + ((hi : Nat) : Int)) / 2 = (((lo + hi) / 2 : Nat) : Int) := by omega
theorem apart_turn {ts us : List Str} {lo hi n m : Nat} (hl : lo < hi) (hn : hi ≤ n) (hm : hi ≤ m) : (R.ok (((lo + hi) / 2 : Nat) : Int) >>= fun middle => lfo (atI (chL ts (n + 1)) (middle + 1)) >>= fun a => lfo (atI (chL us (m + 1)) (middle + 1)) >>= fun b => lfo (eqO a b)) = (R.ok (cv ts ((lo + hi) / 2 + 1) == cv us ((lo + hi) / 2 + 1)) : R Bool) := by
  have e : ((((lo + hi) / 2 : Nat) : Int)) + 1 = (((lo + hi) / 2 + 1 : Nat) : Int) := by omega
  simp only [r_bind, e, chL_at ts (show (lo + hi) / 2 + 1 < n + 1 by omega), chL_at us (show (lo + hi) / 2 + 1 < m + 1 by omega), r_lfo, eq_i]
theorem first_apart {es fs : List D} {ts us : List Str} (h : Evs es ts) (k : Evs fs us) (hn : es.length ≤ 100) (hm : fs.length ≤ 100) : b_first_apart (.list es) (.list fs) = .ok (apart ts us) := by
  have h1 := Paired.length h
  have h2 := Paired.length k
  have e0 : ∀ i, i ≤ min es.length fs.length → i < es.length + 1 ∧ i < fs.length + 1 := fun i hi => by omega
  unfold b_first_apart apart
  simp only [r_pure, r_bind, m_chain_digests, chain_digests h (by omega), chain_digests k (by omega), len_l, r_lfo, min2, ix_l, chL_at ts (e0 _ (Nat.le_refl _)).1, chL_at us (e0 _ (Nat.le_refl _)).2, eq_i]
  rw [← h1, ← h2]
  by_cases he : cv ts (min es.length fs.length) = cv us (min es.length fs.length)
  · rw [if_pos he]
    simp only [he, beq_self_eq_true, if_true]
    by_cases hl : es.length = fs.length
    · rw [if_pos hl]
      simp [hl]
    · rw [if_neg hl]
      have : (((es.length : Nat) : Int) == ((fs.length : Nat) : Int)) = false := by simp; omega
      simp [this]
  · rw [if_neg he]
    have : (cv ts (min es.length fs.length) == cv us (min es.length fs.length)) = false := by simpa using he
    simp only [this, Bool.false_eq_true, if_false]
    refine apart_wrun (a := cv ts) (b := cv us) (by decide) (by omega) (fun lo hi => ?_) (fun lo hi hl hx => ?_) fun x => rfl
    · simp only [lt_i, r_lfo]
      congr 1
      exact decide_eq_decide.mpr (by omega)
    · have e1 : ((((lo + hi) / 2 : Nat) : Int)) + 1 = (((lo + hi) / 2 + 1 : Nat) : Int) := by omega
      simp only [add_i, r_lfo, r_bind, fdiv_i _ 2 (by decide), mid, e1, chL_at ts (show (lo + hi) / 2 + 1 < es.length + 1 by omega), chL_at us (show (lo + hi) / 2 + 1 < fs.length + 1 by omega), eq_i, ix_l]
      unfold turn
      by_cases hq : cv ts ((lo + hi) / 2 + 1) = cv us ((lo + hi) / 2 + 1)
      · rw [if_pos hq]; simp only [hq, beq_self_eq_true, if_true]
      · have hq' : (cv ts ((lo + hi) / 2 + 1) == cv us ((lo + hi) / 2 + 1)) = false := by simpa using hq
        rw [if_neg hq]; simp only [hq', Bool.false_eq_true, if_false]
theorem q_pure {α : Type} (a : α) : (pure a : R α) = .ok a := id rfl
theorem q_bind {α β : Type} (a : α) (f : α → R β) : (R.ok a >>= f) = f a := id rfl
theorem q_lfo {α : Type} (a : α) : (lfo (some a) : R α) = .ok a := id rfl
theorem q_len (ds : List D) : o1 lenO [.list ds] = some (.int ds.length) := id rfl
theorem q_ix (ds : List D) (i : Int) : ixO (.list ds) (.int i) = atI ds i := id rfl
theorem q_add (i j : Int) : addA (.int i) (.int j) = some (.int (i + j)) := id rfl
theorem q_lt (i j : Int) : ltO (.int i) (.int j) = some (decide (i < j)) := id rfl
theorem q_chain (x : D) : m__law_chain [x] = b__law_chain x := id rfl
theorem q_ten : rangeO1 [.int 10] = some (rng 0 1 10) := range1 10 (by decide)
theorem law_apart {es fs : List D} {ts us : List Str} (h : Evs es ts) (k : Evs fs us) (hn : es.length ≤ 100) (hm : fs.length ≤ 100) : b__law_apart (.list (ts.map .str)) (.list (us.map .str)) = .ok (apart ts us) := by
  have h1 := Paired.length h
  have h2 := Paired.length k
  have e0 : ∀ i, i ≤ min es.length fs.length → i < es.length + 1 ∧ i < fs.length + 1 := fun i hi => by omega
  unfold b__law_apart apart
  simp only [q_pure, q_bind, q_chain, law_chain h (by omega), law_chain k (by omega), q_len, q_lfo, List.length_map]
  rw [← h1, ← h2]
  simp only [min2, q_lfo, q_bind, q_ix, chL_at ts (e0 _ (Nat.le_refl _)).1, chL_at us (e0 _ (Nat.le_refl _)).2, eq_i]
  by_cases he : cv ts (min es.length fs.length) = cv us (min es.length fs.length)
  · rw [if_pos he]
    simp only [he, beq_self_eq_true, if_true]
    by_cases hl : es.length = fs.length
    · rw [if_pos hl]
      have e1 : (((es.length : Nat) : Int) == ((fs.length : Nat) : Int)) = true := by simp; omega
      simp only [e1, Option.map_some, q_lfo, q_bind, show o1 int1O [.bool true] = some (.int 1) from rfl, q_ix, at1]
    · rw [if_neg hl]
      have e1 : (((es.length : Nat) : Int) == ((fs.length : Nat) : Int)) = false := by simp; omega
      simp only [e1, Option.map_some, q_lfo, q_bind, show o1 int1O [.bool false] = some (.int 0) from rfl, q_ix, at0]
  · rw [if_neg he]
    have : (cv ts (min es.length fs.length) == cv us (min es.length fs.length)) = false := by simpa using he
    simp only [this, Bool.false_eq_true, if_false, q_ten, q_lfo, q_bind]
    refine apart_frun (a := cv ts) (b := cv us) (rng_len) (fun d lo hi hx => ?_) fun x => rfl
    by_cases hl : lo < hi
    · have e1 : ((((lo + hi) / 2 : Nat) : Int)) + 1 = (((lo + hi) / 2 + 1 : Nat) : Int) := by omega
      rw [if_pos hl]
      simp only [q_lt, show decide (((lo : Nat) : Int) < ((hi : Nat) : Int)) = true from decide_eq_true (by omega), if_true, q_add, q_lfo, q_bind, fdiv_i _ 2 (by decide), mid, e1, chL_at ts (show (lo + hi) / 2 + 1 < es.length + 1 by omega), chL_at us (show (lo + hi) / 2 + 1 < fs.length + 1 by omega), eq_i, q_ix]
      unfold turn
      by_cases hq : cv ts ((lo + hi) / 2 + 1) = cv us ((lo + hi) / 2 + 1)
      · rw [if_pos hq]; simp only [hq, beq_self_eq_true, if_true]
      · have hq' : (cv ts ((lo + hi) / 2 + 1) == cv us ((lo + hi) / 2 + 1)) = false := by simpa using hq
        rw [if_neg hq]; simp only [hq', Bool.false_eq_true, if_false]
    · rw [if_neg hl]
      simp only [q_lfo, q_bind, q_lt, show decide (((lo : Nat) : Int) < ((hi : Nat) : Int)) = false from decide_eq_false (by omega), Bool.false_eq_true, if_false]
theorem apart_self (ts : List Str) : apart ts ts = .none := by
  unfold apart
  rw [if_pos rfl, if_pos rfl]
/-! ### short_digest -/
abbrev HEX : Str := "0123456789abcdef"
def hexc (d : Nat) : Nat := HEX.cps.toList.getD d 0
theorem hex_at {d : Int} (h : 0 ≤ d ∧ d < 16) : ixO (.str HEX) (.int d) = some (.str ⟨#[hexc d.toNat]⟩) := by
  have key : (List.range 16).all (fun n => match ixO (.str HEX) (.int (n : Nat)) with
    | some (.str x) => decide (x = ⟨#[hexc n]⟩)
    | _ => false) = true := by decide +kernel
  have z := List.all_eq_true.mp key d.toNat (by rw [List.mem_range]; omega)
  have e : ((d.toNat : Nat) : Int) = d := by omega
  rw [e] at z
  revert z
  cases ixO (.str HEX) (.int d) with
  | none => intro z; cases z
  | some x =>
    cases x with
    | str x => intro z; rw [of_decide_eq_true z]
    | _ => intro z; cases z
def hexN : Nat → Int → List Nat
  | 0, _ => []
  | n + 1, d => hexN n (d / 16) ++ [hexc (d % 16).toNat]
theorem hex_loop (f : D → D × D → R (D × D)) (hf : ∀ (x : D) (d : Int) (t : Str), t.length ≤ 900 → f x (.int d, .str t) = .ok (.int (d / 16), .str (⟨#[hexc (d % 16).toNat]⟩ ++ t))) : ∀ (ds : List D) (d : Int) (t : Str), t.length + ds.length ≤ 900 → ∃ x, forS ds ((.int d, .str t) : D × D) f = .ok (x, .str (⟨(hexN ds.length d).toArray⟩ ++ t))
  | [], d, t, _ => ⟨.int d, by show _ = R.ok (PyData.int d, PyData.str ((⟨#[]⟩ : Str) ++ t)); rw [show (⟨#[]⟩ : Str) = Str.empty from rfl, Str.empty_append]; rfl⟩
  | y :: ds, d, t, h => by
    show ∃ x, (f y (.int d, .str t) >>= fun s' => forS ds s' f) = _
    rw [hf y d t (by simp at h; omega), r_bind]
    obtain ⟨x, e⟩ := hex_loop f hf ds (d / 16) (⟨#[hexc (d % 16).toNat]⟩ ++ t) (by rw [Str.length_append]; simp at h; show 1 + t.length + ds.length ≤ 900; omega)
    refine ⟨x, e.trans ?_⟩
    congr 3
    rw [← Str.append_assoc]
    congr 1
    show (⟨_⟩ : Str) = ⟨_⟩
    simp [hexN]
theorem hexN_len : ∀ (n : Nat) (d : Int), (hexN n d).length = n
  | 0, _ => rfl
  | n + 1, d => by simp [hexN, hexN_len n]
theorem short_digest (d : Int) : b_short_digest (.int d) = .ok (.str ⟨(hexN 16 d).toArray⟩) := by
  unfold b_short_digest
  simp only [r_pure, r_bind, show rangeO1 [.int 16] = some (rng 0 1 16) from by kernel_rfl, r_lfo]
  have run : ∀ {f : D → D × D → R (D × D)} {g : D × D → R D}, (∀ (x : D) (d : Int) (t : Str), t.length ≤ 900 → f x (.int d, .str t) = .ok (.int (d / 16), .str (⟨#[hexc (d % 16).toNat]⟩ ++ t))) → (∀ x, g (x, .str (⟨(hexN 16 d).toArray⟩ ++ (Str.ofString ""))) = .ok (.str ⟨(hexN 16 d).toArray⟩)) → (forS (rng 0 1 16) ((.int d, .str "") : D × D) f >>= g) = .ok (.str ⟨(hexN 16 d).toArray⟩) := fun {f g} hf hg => by
    obtain ⟨x, e⟩ := hex_loop f hf (rng 0 1 16) d "" (by decide +kernel)
    rw [e]
    exact hg x
  refine run (fun x d t ht => ?_) fun x => ?_
  · have h16 : 0 ≤ d % 16 ∧ d % 16 < 16 := ⟨Int.emod_nonneg _ (by decide), Int.emod_lt_of_pos _ (by decide)⟩
    simp only [mod_i _ 16 (by decide), r_lfo, r_bind, hex_at h16, fdiv_i _ 16 (by decide)]
    have : addA (.str ⟨#[hexc (d % 16).toNat]⟩) (.str t) = some (.str (⟨#[hexc (d % 16).toNat]⟩ ++ t)) := if_pos (by rw [sizeLine_eq]; show 1 + t.length ≤ _; omega)
    simp only [this, r_lfo, r_bind]
  · rw [show Str.ofString "" = Str.empty from by decide +kernel, Str.append_empty]
theorem short_15 (d : Int) : ixO (.str ⟨(hexN 16 d).toArray⟩) (.int 15) = some (.str ⟨#[hexc (d % 16).toNat]⟩) := by
  have hl := hexN_len 16 d
  show (if (⟨(hexN 16 d).toArray⟩ : Str).length ≤ sizeLine then (atI (hexN 16 d) 15).map fun c => (.str ⟨#[c]⟩ : D) else none) = _
  rw [if_pos (by rw [sizeLine_eq]; show (hexN 16 d).toArray.size ≤ _; simp [hl])]
  have e := atI_nat (hexN 16 d) 15 (by omega)
  rw [show ((15 : Nat) : Int) = 15 from rfl] at e
  rw [e]
  have e2 : hexN 16 d = hexN 15 (d / 16) ++ [hexc (d % 16).toNat] := rfl
  have e3 : (hexN 16 d)[15]'(by omega) = hexc (d % 16).toNat := by
    simp only [e2]
    rw [List.getElem_append_right (by rw [hexN_len]; omega)]
    simp [hexN_len]
  rw [e3]; rfl
end Lw
end
section
namespace Lw
open PySem PySem.Spec PyProof.Rows L2 DL
theorem z_pb {α β : Type} (a : α) (f : α → S β) : ((pure a : S α) >>= f) = f a := id rfl
theorem z_lb {α β : Type} (a : α) (f : α → S β) : ((lfo (some a) : S α) >>= f) = f a := id rfl
theorem z_rb {α β : Type} (a : α) (f : α → S β) : ((EM.lft (R.ok a) : S α) >>= f) = f a := id rfl
/-- the pairs of events and texts that were drawn -/
theorem pairs_of {rs : List D} (h : ∀ r ∈ rs, EvD r) : ∃ es ts, Evs es ts ∧ es.length = rs.length ∧ rs.map (fun d => (ixO d (.int 0))) = es.map some ∧ rs.map (fun d => (ixO d (.int 1))) = (ts.map PyData.str).map some := by
  induction rs with
  | nil => exact ⟨[], [], .nil, rfl, rfl, rfl⟩
  | cons r rs ih =>
    obtain ⟨es, ts, h1, h2, h3, h4⟩ := ih fun r' hr => h r' (List.mem_cons_of_mem _ hr)
    obtain ⟨e, t, he, hev⟩ := h r (List.mem_cons_self ..)
    subst he
    exact ⟨e :: es, t :: ts, .cons hev h1, by simp [h2], by simp [h3, at0], by simp [h4, at1]⟩
theorem runS_ok {m : S D} {s : List D} {a : D} (h : Ok StOk m (· = a)) (hs : StOk s) : runS m s = .ok a := by
  obtain ⟨x, s', e, hx, _⟩ := h s hs
  unfold runS
  rw [e, hx]
  rfl
theorem law_state (ns : List Int) : b__law_state (.list (ns.map .int)) = .ok (.list (stt ns 0 0 0 false)) := rfl
/-- a list made by place, all of it told -/
theorem map_items {rs : List D} {xs : List D} {i : Int} (h : rs.map (fun d => ixO d (.int i)) = xs.map some) : ∀ f : D → S D, (∀ d, f d = EM.nox (lfo (some d) >>= fun pair => ((pure pair) >>= fun a => (pure (.int i)) >>= fun b => lfo (ixO a b)))) → Ok StOk (DL.mapS rs f) (· = xs) := by
  intro f hf
  refine Ok.mapS_at (by have := congrArg List.length h; simpa using this) fun j d x hd hx => ?_
  rw [hf]
  refine Ok.nox ?_
  have e : ixO d (.int i) = some x := by
    have z := congrArg (fun l => l[j]?) h
    simp only [List.getElem?_map, hd, hx, Option.map_some] at z
    exact Option.some.inj z
  simp only [z_lb, z_pb, e]
  exact Ok.lfo rfl rfl
theorem Ok.iff0 {α : Type} {P : List D → Prop} {m : S Bool} {a b : S α} {Q : α → Prop} (h : Ok P m (· = false)) (k : Ok P b Q) : Ok P (m >>= fun c => if c then a else b) Q := Ok.bind h fun c e => by
  subst e
  exact k
theorem Ok.iff1 {α : Type} {P : List D → Prop} {m : S Bool} {a b : S α} {Q : α → Prop} (h : Ok P m (· = true)) (k : Ok P a Q) : Ok P (m >>= fun c => if c then a else b) Q := Ok.bind h fun c e => by
  subst e
  exact k
/-- one or another, none of them -/
theorem Ok.or0 {P : List D → Prop} {m b : S Bool} (h : Ok P m (· = false)) (k : Ok P b (· = false)) : Ok P (m >>= fun c => if c then pure true else b) (· = false) := Ok.iff0 h k
/-! ### data that is laid -/
mutual
theorem eqv_plain : ∀ d : D, d.plain = true → PyData.eqv d d = true
  | .none, _ => rfl
  | .bool b, _ => by simp [PyData.eqv]
  | .int i, _ => by simp [PyData.eqv]
  | .str x, _ => by simp [PyData.eqv]
  | .list xs, h => by rw [PyData.eqv]; exact eqvAll_plain xs (by simpa [PyData.plain] using h)
  | .tuple xs, h => by rw [PyData.eqv]; exact eqvAll_plain xs (by simpa [PyData.plain] using h)
  | .dict _, h => by simp [PyData.plain] at h
theorem eqvAll_plain : ∀ xs : List D, PyData.plainAll xs = true → PyData.eqvAll xs xs = true
  | [], _ => rfl
  | x :: xs, h => by
    have h : (x.plain && PyData.plainAll xs) = true := by simpa [PyData.plainAll] using h
    rw [Bool.and_eq_true] at h
    rw [PyData.eqvAll, eqv_plain x h.1, eqvAll_plain xs h.2]; rfl
end
structure Lay (n : Nat) (d : D) : Prop where
  c : d.plain = true
  d : d.depth ≤ n
theorem lay_int (i : Int) : Lay 0 (.int i) := ⟨rfl, by simp [PyData.depth]⟩
theorem lay_str (x : Str) : Lay 0 (.str x) := ⟨rfl, by simp [PyData.depth]⟩
theorem lay_all {n : Nat} : ∀ {xs : List D}, (∀ x ∈ xs, Lay n x) → PyData.plainAll xs = true ∧ PyData.depthAll xs ≤ n
  | [], _ => ⟨rfl, by simp [PyData.depthAll]⟩
  | x :: xs, h => by
    obtain ⟨h1, h2⟩ := lay_all fun y hy => h y (List.mem_cons_of_mem _ hy)
    obtain ⟨h3, h4⟩ := h x (List.mem_cons_self ..)
    refine ⟨by simp [PyData.plainAll, h1, h3], ?_⟩
    simp only [PyData.depthAll]
    omega
theorem lay_list {n : Nat} {xs : List D} (h : ∀ x ∈ xs, Lay n x) : Lay (n + 1) (.list xs) := by
  obtain ⟨h1, h2⟩ := lay_all h
  exact ⟨by simpa [PyData.plain] using h1, by simp only [PyData.depth]; omega⟩
theorem lay_tup {n : Nat} {xs : List D} (h : ∀ x ∈ xs, Lay n x) : Lay (n + 1) (.tuple xs) := by
  obtain ⟨h1, h2⟩ := lay_all h
  exact ⟨by simpa [PyData.plain] using h1, by simp only [PyData.depth]; omega⟩
theorem ne_same {n : Nat} {d : D} (h : Lay n d) (hn : n ≤ 100) : neO d d = some false := by
  unfold neO
  rw [if_pos (by have := h.d; omega), eqv_plain d h.c]
  rfl
theorem lay_chain (ts : List Str) (n : Nat) : Lay 1 (.list (chL ts n)) := lay_list fun x hx => by
  obtain ⟨k, _, e⟩ := List.mem_map.mp hx
  rw [← e]; exact lay_int _
theorem lay_row (r : List Int) : Lay 1 (rowD r) := lay_list fun x hx => by
  obtain ⟨k, _, e⟩ := List.mem_map.mp hx
  rw [← e]; exact lay_int _
theorem lay_rows (rs : List (List Int)) : Lay 2 (.list (rs.map rowD)) := lay_list fun x hx => by
  obtain ⟨k, _, e⟩ := List.mem_map.mp hx
  rw [← e]; exact lay_row _
theorem lay_paper (ps : List En) : Lay 2 (pD ps) := lay_tup fun x hx => by
  obtain ⟨q, _, e⟩ := List.mem_map.mp hx
  rw [← e]
  exact lay_tup fun y hy => by
    rcases List.mem_cons.mp hy with z | z
    · rw [z]; exact lay_str _
    · rw [List.mem_singleton.mp z]; exact lay_int _
theorem lay_strs (xs : List Str) : Lay 1 (.list (xs.map .str)) := lay_list fun x hx => by
  obtain ⟨k, _, e⟩ := List.mem_map.mp hx
  rw [← e]; exact lay_str _
end Lw
end
section
namespace Lw
open PySem PySem.Spec PyProof.Rows L2 DL
theorem lr : (("right" : Str) == ("left" : Str)) = false := by decide +kernel
theorem ll : (("left" : Str) == ("left" : Str)) = true := by decide +kernel
theorem next_get {r : List Int} {p : Nat} (h : p < r.length) (h2 : 2 ≤ r.length) : (next r).getD (p / 2) 0 = leadF (ent r p) (r.getD p 0) := by
  have hp : (prs r).length = r.length / 2 := prs_len r
  rw [next_eq]
  by_cases hk : p / 2 < r.length / 2
  · have e : (prs r ++ r.drop (r.length - r.length % 2)).getD (p / 2) 0 = join (r.getD (2 * (p / 2)) 0) (r.getD (2 * (p / 2) + 1) 0) := by
      simp only [List.getD]
      rw [List.getElem?_append_left (by omega)]
      simp [prs, hk, List.getD]
    rw [e]
    unfold ent
    by_cases ho : p % 2 = 1
    · rw [if_pos ho]
      simp only [leadF, List.foldl_cons, List.foldl_nil, ll, if_true]
      rw [show 2 * (p / 2) = p - 1 by omega, show p - 1 + 1 = p by omega]
    · rw [if_neg ho, if_pos (by omega)]
      simp only [leadF, List.foldl_cons, List.foldl_nil, lr, Bool.false_eq_true, if_false]
      rw [show 2 * (p / 2) = p by omega]
  · have hp2 : p = r.length - 1 := by omega
    have ho : ¬ p % 2 = 1 := by omega
    have hk2 : ¬ p + 1 < r.length := by omega
    unfold ent
    rw [if_neg ho, if_neg hk2]
    simp only [leadF, List.foldl_nil, List.getD]
    rw [List.getElem?_append_right (by omega), List.getElem?_drop]
    congr 2
    omega
theorem leadF_app (a b : List En) (x : Int) : leadF (a ++ b) x = leadF b (leadF a x) := by simp [leadF, List.foldl_append]
theorem path_top : ∀ (f : Nat) (r : List Int) (p : Nat), p < r.length → r.length ≤ 2 ^ f → leadF (papL (rowsF f r).dropLast p) (r.getD p 0) = ((rowsF f r).getLastD []).getD 0 0
  | 0, r, p, h, h2 => by
    have : p = 0 := by simp at h2; omega
    subst this
    rfl
  | f + 1, r, p, h, h2 => by
    unfold rowsF
    by_cases hr : r.length ≤ 1
    · rw [if_pos hr]
      have : p = 0 := by omega
      subst this
      rfl
    · rw [if_neg hr]
      obtain ⟨y, ys, hy⟩ : ∃ y ys, rowsF f (next r) = y :: ys := by
        cases f with
        | zero => exact ⟨_, _, rfl⟩
        | succ f => unfold rowsF; split <;> exact ⟨_, _, rfl⟩
      have ih := path_top f (next r) (p / 2) (by rw [next_len]; omega) (by rw [next_len]; rw [Nat.pow_succ] at h2; omega)
      rw [hy] at ih ⊢
      rw [List.dropLast_cons_of_ne_nil (by simp)]
      show leadF (ent r p ++ papL (y :: ys).dropLast (p / 2)) (r.getD p 0) = _
      rw [leadF_app, ← next_get h (by omega), ih]
      simp [List.getLastD]
theorem leads_top {ts : List Str} {p : Nat} {t : Str} (h : ts[p]? = some t) (hn : ts.length ≤ 64) : leadF (paper ts p) (dig (lineS p t)) = top ts := by
  obtain ⟨hp, e⟩ := List.getElem?_eq_some_iff.mp h
  have z := path_top 6 (row0 ts) p (by rw [row0_len]; exact hp) (by rw [row0_len]; omega)
  have e2 : (row0 ts).getD p 0 = dig (lineS p t) := by
    simp [row0, List.getD, hp, e]
  rw [e2] at z
  exact z
theorem papL_len : ∀ (rs : List (List Int)) (p : Nat), (papL rs p).length ≤ rs.length
  | [], p => Nat.le_refl _
  | r :: rs, p => by
    have h1 := papL_len rs (p / 2)
    have h2 := ent_len r p
    show (ent r p ++ papL rs (p / 2)).length ≤ rs.length + 1
    rw [List.length_append]; omega
theorem paper_len (ts : List Str) (p : Nat) : (paper ts p).length ≤ 900 := Nat.le_trans (papL_len _ _) (rows_le ts)
theorem ix_pD {ps : List En} {k : Nat} (h : k < ps.length) : ixO (pD ps) (.int (k : Nat)) = some (enD ps[k]) := by
  show atI (ps.map enD) _ = _
  rw [atI_nat _ _ (by rw [List.length_map]; exact h)]
  simp
theorem cut_to (ds : List D) (k : Nat) (h : k ≤ ds.length) : DL.cutD ds none (some (k : Int)) = ds.take k := by
  unfold DL.cutD
  have e1 : HT.sIx ds.length 0 none = 0 := rfl
  have e2 : HT.sIx ds.length ds.length (some (k : Int)) = k := by
    show (if (k : Int) < 0 then ((k : Int) + (ds.length : Int)).toNat else min (k : Int).toNat ds.length) = k
    rw [if_neg (by omega)]
    simp; omega
  rw [e1, e2]
  rfl
theorem slice_lo {ps : List En} {k : Nat} (h : k ≤ ps.length) : sliceO (pD ps) none (some (k : Int)) = some (.tuple ((ps.take k).map enD)) := by
  show some (PyData.tuple (DL.cutD (ps.map enD) none (some (k : Int)))) = _
  rw [cut_to _ _ (by rw [List.length_map]; exact h), List.map_take]
theorem slice_hi {ps : List En} {k : Nat} (h : k ≤ ps.length) : sliceO (pD ps) (some (k : Int)) none = some (.tuple ((ps.drop k).map enD)) := by
  show some (PyData.tuple (DL.cutD (ps.map enD) (some (k : Int)) none)) = _
  rw [cut_from _ _ (by rw [List.length_map]; exact h), List.map_drop]
theorem add_t {a b : List D} (h : a.length + b.length ≤ 10000) : addA (.tuple a) (.tuple b) = some (.tuple (a ++ b)) := if_pos (by rw [sizeLine_eq]; omega)
theorem ent_g {r : List Int} {p : Nat} (h : p < r.length) (hd : AllDg r) : ∀ q ∈ ent r p, Dg q.2 := fun q hq => by
  unfold ent at hq
  split at hq
  · rw [List.mem_singleton.mp hq]; exact getD_dg hd (by omega)
  · split at hq
    · rw [List.mem_singleton.mp hq]; exact getD_dg hd (by assumption)
    · cases hq
theorem papL_g : ∀ (rs : List (List Int)) (p : Nat), okP rs p → ∀ q ∈ papL rs p, Dg q.2
  | [], p, _ => fun q hq => by cases hq
  | r :: rs, p, h => fun q hq => by
    rcases List.mem_append.mp hq with z | z
    · exact ent_g h.1.1 h.1.2.2 q z
    · exact papL_g rs (p / 2) h.2 q z
theorem paper_g {ts : List Str} (hn : ts.length ≤ 64) {p : Nat} (hp : p < ts.length) : ∀ q ∈ paper ts p, Dg q.2 := papL_g _ _ (rows_okP hp (by omega))
/-- one part of a paper turned -/
theorem turned_ok {ps : List En} {k : Nat} {q : En} (h : ∀ q ∈ ps, Dg q.2) (hq : Db q.2) : okE (ps.take k ++ [q] ++ ps.drop (k + 1)) := fun x hx => by
  rcases List.mem_append.mp hx with z | z
  · rcases List.mem_append.mp z with z | z
    · exact (h x (List.mem_of_mem_take z)).db
    · rw [List.mem_singleton.mp z]; exact hq
  · exact (h x (List.mem_of_mem_drop z)).db
theorem turned_d {ps : List En} {k : Nat} {q : En} : (ps.take k).map enD ++ [enD q] ++ (ps.drop (k + 1)).map enD = (ps.take k ++ [q] ++ ps.drop (k + 1)).map enD := by simp
theorem en0 (q : En) : ixO (enD q) (.int 0) = some (.str q.1) := at0 _ _
theorem en1 (q : En) : ixO (enD q) (.int 1) = some (.int q.2) := at1 _ _ _
theorem side_at (b : Bool) : ∃ w : Str, ixO (.list [.str "left", .str "right"]) (.int (if b then 1 else 0)) = some (.str w) := by
  cases b
  · exact ⟨_, at0 _ _⟩
  · exact ⟨_, at1 _ _ _⟩
theorem int1_b (b : Bool) : o1 int1O [.bool b] = some (.int (if b then 1 else 0)) := by cases b <;> rfl
theorem two_at (a b : D) {n : Int} (h : 0 ≤ n ∧ n < 2) : ixO (.list [a, b]) (.int n) = some a ∨ ixO (.list [a, b]) (.int n) = some b := by
  rcases (by omega : n = 0 ∨ n = 1) with e | e <;> subst e
  · exact .inl (at0 _ _)
  · exact .inr (at1 _ _ _)
theorem set_at {ds : List D} (d : D) {k : Nat} (h : k < ds.length) : setO ds d (.int (k : Nat)) = some (ds.set k d) := by
  show (ixN ds.length _).map _ = _
  have : ixN ds.length ((k : Nat) : Int) = some k := by
    unfold ixN
    simp
    omega
  rw [this]; rfl
theorem lay_apart (ts us : List Str) : Lay 0 (apart ts us) := by
  unfold apart
  split
  · split
    · exact ⟨rfl, by simp [PyData.depth]⟩
    · exact lay_int _
  · exact lay_int _
end Lw
end
section
set_option maxHeartbeats 0
namespace Lw
open PySem PySem.Spec PyProof.Rows L2 DL
theorem at_es {es : List D} {i : Nat} (h : i < es.length) : atI es ((i : Nat) : Int) = some (es[i]) := atI_nat es i h
theorem len_s {x : Str} {n : Nat} (h : x.length = n) (hn : n ≤ 1000 := by decide) : o1 lenO [.str x] = some (.int (n : Nat)) := by
  subst h
  exact if_pos (by rw [sizeLine_eq]; omega)
theorem hex_len (d : Int) : (⟨(hexN 16 d).toArray⟩ : Str).length = 16 := by
  have h := hexN_len 16 d
  show (hexN 16 d).toArray.size = 16
  rw [List.size_toArray]
  exact h
theorem truth_same (b : Bool) : m__law_truth [.bool b, .bool b] = .ok (.bool true) := by cases b <;> kernel_rfl
theorem isnt_true : isntO (.bool true) (.bool true) = some false := by kernel_rfl
theorem flt_none {f : D → S (Option D)} : ∀ {ds : List D}, (∀ d ∈ ds, Ok StOk (f d) (· = none)) → Ok StOk (fltS ds f) (· = [])
  | [], _ => Ok.pure rfl
  | d :: ds, h => Ok.bind (h d (List.mem_cons_self ..)) fun x hx => Ok.bind (flt_none fun d' hd => h d' (List.mem_cons_of_mem _ hd)) fun r hr => Ok.pure (by rw [hx, hr]; rfl)
/-- the lines -/
def linesL (ts : List Str) : List Str := (List.range ts.length).map fun (i : Nat) => lineS (i : Int) (ts.getD i "")
theorem law_holds (ns : List Int) : b_law (.list (ns.map .int)) = .ok (.bool true) := by
  unfold b_law
  simp only [r_pure, r_bind, show m__law_state [.list (ns.map .int)] = .ok (.list (stt ns 0 0 0 false)) from rfl, parts_l, r_lfo]
  refine runS_ok ?_ ⟨ns, 0, 0, 0, false, rfl, Int.le_refl 0⟩
  refine Ok.bind (Q := fun d => ∃ rs, d = .list rs ∧ rs.length ≤ 40 ∧ ∀ r ∈ rs, EvD r) ?_ fun pairs ⟨rs, e, hl, hr⟩ => ?_
  · simp only [z_pb, s_as]
    refine Ok.bind (Draw (by decide)) fun a ⟨n, e, hn⟩ => ?_
    subst e
    obtain ⟨m, rfl⟩ : ∃ m : Nat, n = m := ⟨n.toNat, by omega⟩
    simp only [range1 m (by omega), z_lb]
    exact Ok.bind (Ok.mapS fun d hd => Ok.nox Event) fun rs hrs => Ok.pure ⟨rs, rfl, by rw [hrs.1, rng_len]; omega, hrs.2⟩
  obtain ⟨es, ts, hev, hes, h0, h1⟩ := pairs_of hr
  subst e
  have hn : es.length ≤ 40 := by omega
  have hlen := Paired.length hev
  refine Ok.bind (Q := (· = .list es)) ?_ fun events e => ?_
  · simp only [z_pb, items_l, z_lb]
    exact Ok.bind (map_items h0 _ fun d => rfl) fun xs hx => Ok.pure (by rw [hx])
  subst e
  refine Ok.bind (Q := (· = .list (ts.map .str))) ?_ fun texts e => ?_
  · simp only [z_pb, items_l, z_lb]
    exact Ok.bind (map_items h1 _ fun d => rfl) fun xs hx => Ok.pure (by rw [hx])
  subst e
  refine Ok.bind (Q := (· = .list (chL ts (es.length + 1)))) ?_ fun chain e => ?_
  · simp only [z_pb]
    exact Ok.lft (law_chain hev (by omega)) rfl
  subst e
  refine Ok.iff0 (Ok.or0 ?_ ?_) ?_
  · simp only [z_pb, s_as, list_l, z_lb, show m_chain_digests [.list es] = .ok (.list (chL ts (es.length + 1))) from chain_digests hev (by omega), z_rb, ne_same (lay_chain ts _) (by decide)]
    exact Ok.lfo rfl rfl
  · simp only [z_pb, s_as, show rangeO1 [.int 3] = some [.int 0, .int 1, .int 2] from by kernel_rfl, z_lb]
    refine Ok.bind (flt_none fun d hd => ?_) fun rs hrs => ?_
    · refine Ok.nox ?_
      have hd' : ∃ k : Int, d = .int k ∧ (k = 0 ∨ k = 1 ∨ k = 2) := by
        simp only [List.mem_cons, List.not_mem_nil, or_false] at hd
        rcases hd with e | e | e <;> subst e
        · exact ⟨0, rfl, .inl rfl⟩
        · exact ⟨1, rfl, .inr (.inl rfl)⟩
        · exact ⟨2, rfl, .inr (.inr rfl)⟩
      obtain ⟨k, e, hk⟩ := hd'
      subst e
      simp only [z_pb, z_lb, list_l, s_as, show m__law_refused [.list es, .int k] = .ok (.bool true) from refused k hk, z_rb, tru_b, Bool.not_true, Bool.false_eq_true, if_false]
      exact Ok.pure rfl
    · subst hrs
      simp only [z_pb, len_l, z_lb, List.length_nil, gt_i]
      exact Ok.lfo rfl (by simp)
  refine Ok.iff0 ?_ ?_
  · simp only [z_pb, s_as, len_l, z_lb, List.length_map, range1 es.length (by omega), range1 ts.length (by omega)]
    have hls : ∀ (i : Nat) (d : D) (r : D), (rng 0 1 es.length)[i]? = some d → ((linesL ts).map PyData.str)[i]? = some r → ∃ e t, d = .int i ∧ atI es ((i : Nat) : Int) = some e ∧ atI (ts.map PyData.str) ((i : Nat) : Int) = some (.str t) ∧ Ev e t ∧ r = .str (lineS i t) := fun i d r hd hx => by
      have hi : i < es.length := by
        have := (List.getElem?_eq_some_iff.mp hd).1
        rw [rng_len] at this; exact this
      have hd := rng_at hd
      rw [Int.zero_add, Int.mul_one] at hd
      obtain ⟨t, ht, ev⟩ := Paired.at hev (List.getElem?_eq_getElem hi)
      refine ⟨es[i], t, hd, at_es hi, at_str ht, ev, ?_⟩
      have hi2 : i < ts.length := by omega
      simp [linesL, List.getElem?_map, hi2] at hx
      have := (List.getElem?_eq_some_iff.mp ht).2
      rw [← hx, this]
    refine Ok.bind (Ok.mapS_at (rs := (linesL ts).map PyData.str) (by simp [rng_len, linesL, hlen]) fun i d r hd hx => ?_) fun xs hx => ?_
    · obtain ⟨e, t, h1, h2, h3, h4, h5⟩ := hls i d r hd hx
      have hi : i < es.length := by
        have := (List.getElem?_eq_some_iff.mp hd).1
        rw [rng_len] at this; exact this
      subst h1 h5
      refine Ok.nox ?_
      simp only [z_pb, z_lb, ix_l, h2, s_as]
      exact Ok.lft (show m_journal_line [.int i, e] = _ from journal_line (nat_small (by omega)) h4) rfl
    · subst hx
      refine Ok.bind (Ok.mapS_at (rs := (linesL ts).map PyData.str) (by simp [rng_len, linesL]) fun i d r hd hx => ?_) fun xs hx => ?_
      · rw [← hlen] at hd
        obtain ⟨e, t, h1, h2, h3, h4, h5⟩ := hls i d r hd hx
        have hi : i < es.length := by
          have := (List.getElem?_eq_some_iff.mp hd).1
          rw [rng_len] at this; exact this
        subst h1 h5
        refine Ok.nox ?_
        simp only [z_pb, z_lb, ix_l, h3, s_as]
        exact Ok.lft (show m__law_line [.int i, .str t] = _ from law_line (nat_small (by omega)) (ev_ok h4) (by decide)) rfl
      · subst hx
        simp only [z_pb, ne_same (lay_strs _) (show 1 ≤ 100 by decide)]
        exact Ok.lfo rfl rfl
  refine Ok.bind (Q := (· = Er.go ())) ?_ fun r e => ?_
  · by_cases h0 : es = []
    · subst h0
      refine Ok.iff1 ?_ ?_
      · simp only [z_pb, s_as, len_l, z_lb, List.length_nil, eq_i]
        exact Ok.lfo rfl (by decide)
      · refine Ok.iff0 (Ok.or0 ?_ ?_) (Ok.pure rfl)
        · simp only [z_pb, s_as, show m_digest_rows [.list []] = .ok (.list []) from by kernel_rfl, z_rb, ne_same (lay_list (n := 0) (xs := []) (by simp)) (show 1 ≤ 100 by decide)]
          exact Ok.lfo rfl rfl
        · simp only [z_pb, s_as, show m_digest_of [.list []] = .ok (.int 0) from by kernel_rfl, z_rb, ne_same (lay_int 0) (show 0 ≤ 100 by decide)]
          exact Ok.lfo rfl rfl
    · have hpos := evs_pos hev h0
      refine Ok.iff0 ?_ ?_
      · simp only [z_pb, s_as, len_l, z_lb, eq_i]
        refine Ok.lfo rfl ?_
        have : es.length ≠ 0 := fun z => h0 (List.length_eq_zero_iff.mp z)
        simp; omega
      refine Ok.bind (Q := (· = .list ((rowsL ts).map rowD))) ?_ fun rows e => ?_
      · simp only [z_pb]
        exact Ok.lft (law_rows hev (by omega) h0) rfl
      subst e
      obtain ⟨x, hx1, hx2⟩ := top_read hpos
      refine Ok.bind (Q := (· = .int (top ts))) ?_ fun digest e => ?_
      · simp only [z_pb, s_as, len_l, z_lb, sub_i, hx1, hx2]
        exact Ok.lfo rfl rfl
      subst e
      have dt := top_dg hpos
      have d5 : Db 5 := ⟨by decide, by decide⟩
      refine Ok.iff0 (Ok.or0 ?_ (Ok.or0 ?_ ?_)) ?_
      · simp only [z_pb, s_as, list_l, z_lb, show m_digest_rows [.list es] = .ok (.list ((rowsL ts).map rowD)) from digest_rows hev (by omega) h0, z_rb, ne_same (lay_rows _) (show 2 ≤ 100 by decide)]
        exact Ok.lfo rfl rfl
      · simp only [z_pb, s_as, list_l, z_lb, show m_digest_of [.list es] = .ok (.int (top ts)) from digest_of hev (by omega) h0, z_rb, ne_same (lay_int _) (show 0 ≤ 100 by decide)]
        exact Ok.lfo rfl rfl
      · simp only [z_pb, s_as, show m_join_digests [.int (top ts), .int 5] = .ok (.int (join (top ts) 5)) from join_digests dt.db d5, show m__law_join [.int (top ts), .int 5] = .ok (.int (join (top ts) 5)) from law_join dt.db d5, z_rb, ne_same (lay_int _) (show 0 ≤ 100 by decide)]
        exact Ok.lfo rfl rfl
      have h16 : 0 ≤ top ts % 16 ∧ top ts % 16 < 16 := ⟨Int.emod_nonneg _ (by decide), Int.emod_lt_of_pos _ (by decide)⟩
      refine Ok.bind (Q := (· = .str ⟨#[hexc (top ts % 16).toNat]⟩)) ?_ fun word e => ?_
      · simp only [z_pb, s_as, int1_i, z_lb, mod_i _ 16 (by decide), hex_at h16]
        exact Ok.lfo rfl rfl
      subst e
      refine Ok.iff0 (Ok.or0 ?_ (Ok.or0 ?_ ?_)) ?_
      · simp only [z_pb, s_as, show ∀ d, m_short_digest [.int d] = .ok (.str ⟨(hexN 16 d).toArray⟩) from short_digest, z_rb, short_15, z_lb, ne_same (lay_str _) (show 0 ≤ 100 by decide)]
        exact Ok.lfo rfl rfl
      · have hl := len_s (x := ⟨(hexN 16 (top ts)).toArray⟩) (n := 16) (hex_len _)
        simp only [z_pb, s_as, show ∀ d, m_short_digest [.int d] = .ok (.str ⟨(hexN 16 d).toArray⟩) from short_digest, z_rb, hl, z_lb, ne_same (lay_int ((16 : Nat) : Int)) (show 0 ≤ 100 by decide)]
        exact Ok.lfo rfl rfl
      · simp only [z_pb, s_as, show m_short_digest [.int 255] = .ok (.str "00000000000000ff") from by kernel_rfl, z_rb, ne_same (lay_str _) (show 0 ≤ 100 by decide)]
        exact Ok.lfo rfl rfl
      refine Ok.bind (Q := (· = Er.go ())) ?_ fun r e => ?_
      · simp only [z_pb, s_as, show rangeO1 [.int 4] = some (rng 0 1 4) from range1 4 (by decide), z_lb]
        refine Ok.forF (I := fun _ => True) trivial (fun d hd s _ => ?_) fun s _ => rfl
        simp only [z_pb, s_as, z_lb, len_l]
        refine Ok.bind (Draw (by omega)) fun a ⟨pl, e, hpl⟩ => ?_
        subst e
        obtain ⟨p, rfl⟩ : ∃ m : Nat, pl = m := ⟨pl.toNat, by omega⟩
        have hp : p < es.length := by omega
        obtain ⟨t, ht, ev⟩ := Paired.at hev (List.getElem?_eq_getElem hp)
        have hpd := paper_dg (ts := ts) (by omega) (show p < ts.length by omega)
        simp only [show m__law_paper [.list ((rowsL ts).map rowD), .int p] = .ok (pD (paper ts p)) from law_paper (by omega) (by omega), z_rb, list_l, z_lb, show m_line_paper [.list es, .int p] = .ok (pD (paper ts p)) from line_paper hev (by omega) hp, ne_same (lay_paper _) (show 2 ≤ 100 by decide), ix_l, at_es hp, at_str ht]
        refine Ok.iff0 ?_ ?_
        · show Ok StOk (if false = true then _ else _) _
          rw [if_neg Bool.false_ne_true]
          have z := judge_line (dg := top ts) (ps := paper ts p) ev (show p ≤ 900 by omega) hpd
          rw [leads_top ht (by omega), beq_self_eq_true] at z
          simp only [show m_judge_line [.int (top ts), .int p, es[p], pD (paper ts p)] = .ok (.bool true) from z, z_rb, isnt_true]
          exact Ok.lfo rfl rfl
        refine Ok.bind (Draw (by omega)) fun a ⟨q0, e, hq⟩ => ?_
        subst e
        obtain ⟨q, rfl⟩ : ∃ m : Nat, q0 = m := ⟨q0.toNat, by omega⟩
        have hq9 : q ≤ 900 := by omega
        simp only [show m_judge_line [.int (top ts), .int q, es[p], pD (paper ts p)] = .ok (.bool (leadF (paper ts p) (dig (lineS q t)) == top ts)) from judge_line ev hq9 hpd, show m__law_leads [.int (top ts), .int q, .str t, pD (paper ts p)] = .ok (.bool (leadF (paper ts p) (dig (lineS q t)) == top ts)) from law_leads ev hq9 hpd, z_rb, truth_same, tru_b, z_lb, Bool.not_true, Bool.false_eq_true, if_false]
        refine Ok.bind Event fun d ⟨e', t', hd', ev'⟩ => ?_
        subst hd'
        simp only [lst2_t, z_lb, show m_judge_line [.int (top ts), .int p, e', pD (paper ts p)] = .ok (.bool (leadF (paper ts p) (dig (lineS p t')) == top ts)) from judge_line ev' (by omega) hpd, show m__law_leads [.int (top ts), .int p, .str t', pD (paper ts p)] = .ok (.bool (leadF (paper ts p) (dig (lineS p t')) == top ts)) from law_leads ev' (by omega) hpd, z_rb, truth_same, tru_b, Bool.not_true, Bool.false_eq_true, if_false]
        have hl9 := paper_len ts p
        have hg := paper_g (ts := ts) (by omega) (show p < ts.length by omega)
        generalize hps : paper ts p = ps at hpd hl9 hg ⊢
        simp only [show ∀ ps : List En, o1 lenO [pD ps] = some (.int ((ps.map enD).length : Nat)) from fun ps => rfl, z_lb, gt_i, List.length_map]
        by_cases hz : ps.length = 0
        · simp only [hz, show decide ((0 : Int) < ((0 : Nat) : Int)) = false from rfl, Bool.false_eq_true, if_false]
          exact Ok.pure trivial
        · simp only [show decide ((0 : Int) < ((ps.length : Nat) : Int)) = true from decide_eq_true (by omega), if_true]
          refine Ok.bind (Draw (by omega)) fun a ⟨k0, e, hk⟩ => ?_
          subst e
          obtain ⟨k, rfl⟩ : ∃ m : Nat, k0 = m := ⟨k0.toNat, by omega⟩
          have hk2 : k < ps.length := by omega
          obtain ⟨w, hw⟩ := side_at (ps[k].1 == ("left" : Str))
          have hgk := hg _ (List.getElem_mem hk2)
          simp only [ix_pD hk2, z_lb, en0, en1, eq_s, Option.map_some, int1_b, hw, int_i, slice_lo (Nat.le_of_lt hk2), add_i, s_as]
          refine Ok.bind (Draw (by decide)) fun a ⟨n2, e, hn2⟩ => ?_
          subst e
          obtain ⟨q2, hq2, hdb⟩ : ∃ q2 : En, ixO (.list [.tuple [.str w, .int ps[k].2], .tuple [.str ps[k].1, .int (ps[k].2 + 1)]]) (.int n2) = some (enD q2) ∧ Db q2.2 := by
            rcases two_at (.tuple [.str w, .int ps[k].2]) (.tuple [.str ps[k].1, .int (ps[k].2 + 1)]) hn2 with z | z
            · exact ⟨(w, ps[k].2), z, hgk.db⟩
            · exact ⟨(ps[k].1, ps[k].2 + 1), z, by have := hgk.1; have := hgk.2; constructor <;> show _ <;> simp <;> omega⟩
          have hok := turned_ok (k := k) hg hdb
          simp only [hq2, z_lb, add_t (a := (ps.take k).map enD) (b := [enD q2]) (by simp; omega), show (((k : Nat) : Int) + 1) = ((k + 1 : Nat) : Int) from rfl, slice_hi (show k + 1 ≤ ps.length by omega), add_t (a := (ps.take k).map enD ++ [enD q2]) (b := (ps.drop (k + 1)).map enD) (by simp; omega), turned_d, Option.map_some, int_i]
          simp only [show m_judge_line [.int (top ts), .int p, es[p], .tuple ((ps.take k ++ [q2] ++ ps.drop (k + 1)).map enD)] = .ok (.bool (leadF (ps.take k ++ [q2] ++ ps.drop (k + 1)) (dig (lineS p t)) == top ts)) from judge_line ev (by omega) hok, show m__law_leads [.int (top ts), .int p, .str t, .tuple ((ps.take k ++ [q2] ++ ps.drop (k + 1)).map enD)] = .ok (.bool (leadF (ps.take k ++ [q2] ++ ps.drop (k + 1)) (dig (lineS p t)) == top ts)) from law_leads ev (by omega) hok, z_rb, truth_same, tru_b, z_lb, Bool.not_true, Bool.false_eq_true, if_false]
          exact Ok.pure trivial
      · subst e
        exact Ok.pure rfl
  subst e
  simp only [er_go, z_pb, list_l, z_lb, parts_l]
  refine Ok.bind (Q := fun l => l.length ≤ 40 ∧ ∀ r ∈ l, EvD r) ?_ fun l ⟨hll, hlr⟩ => ?_
  · refine Ok.bind (Q := fun c => c = true → 0 < rs.length) ?_ fun c hc => ?_
    · simp only [len_l, z_lb, gt_i, s_as]
      by_cases h0 : (0 : Int) < (rs.length : Nat)
      · simp only [h0, decide_true, if_true]
        refine Ok.bind (Draw (by decide)) fun a ⟨n, e, hn⟩ => ?_
        subst e
        simp only [eq_i]
        exact Ok.lfo rfl fun _ => by omega
      · simp only [h0, decide_false, Bool.false_eq_true, if_false]
        exact Ok.pure fun z => by cases z
    · cases c with
      | false => exact Ok.pure ⟨hl, hr⟩
      | true =>
        have hpos := hc rfl
        simp only [if_true, s_as, len_l, z_lb]
        refine Ok.bind Event fun d hd => ?_
        refine Ok.bind (Draw (by omega)) fun a ⟨k0, e, hk⟩ => ?_
        subst e
        obtain ⟨k, rfl⟩ : ∃ m : Nat, k0 = m := ⟨k0.toNat, by omega⟩
        simp only [set_at d (show k < rs.length by omega), z_lb]
        exact Ok.pure ⟨by rw [List.length_set]; exact hl, fun r hm => (List.mem_or_eq_of_mem_set hm).elim (hr r) (fun e => e ▸ hd)⟩
  refine Ok.bind (Q := fun d => ∃ l2 : List D, d = .list l2 ∧ l2.length ≤ 50 ∧ ∀ r ∈ l2, EvD r) ?_ fun d ⟨l2, e, hll2, hlr2⟩ => ?_
  · simp only [len_l, z_lb, s_as]
    refine Ok.bind (Draw (by decide)) fun a ⟨n1, e, hn1⟩ => ?_
    subst e
    refine Ok.bind (Draw (by decide)) fun a ⟨n2, e, hn2⟩ => ?_
    subst e
    obtain ⟨m1, rfl⟩ : ∃ m : Nat, n1 = m := ⟨n1.toNat, by omega⟩
    obtain ⟨m2, rfl⟩ : ∃ m : Nat, n2 = m := ⟨n2.toNat, by omega⟩
    have hmul : mulO (.int (m1 : Nat)) (.int (m2 : Nat)) = some (.int ((m1 * m2 : Nat) : Int)) := by
      rw [mul_i _ _ (.inl (by omega))]
      simp
    have hsub : ((l.length : Nat) : Int) - ((min l.length (m1 * m2) : Nat) : Int) = ((l.length - min l.length (m1 * m2) : Nat) : Int) := by omega
    simp only [hmul, z_lb, min2, sub_i, hsub, int_i, Option.map_some, show sliceO (.list l) none (some ((l.length - min l.length (m1 * m2) : Nat) : Int)) = some (.list (l.take (l.length - min l.length (m1 * m2)))) from congrArg (fun x => some (PyData.list x)) (cut_to l _ (by omega))]
    refine Ok.bind (Draw (by decide)) fun a ⟨n3, e, hn3⟩ => ?_
    subst e
    obtain ⟨m3, rfl⟩ : ∃ m : Nat, n3 = m := ⟨n3.toNat, by omega⟩
    simp only [range1 m3 (by omega), z_lb]
    refine Ok.bind (Ok.mapS fun d hd => Ok.nox Event) fun rs2 hrs2 => ?_
    have hl2 : rs2.length = m3 := by rw [hrs2.1, rng_len]
    have hlt : (l.take (l.length - min l.length (m1 * m2))).length ≤ 40 := by rw [List.length_take]; omega
    simp only [z_pb, show catO (.list (l.take (l.length - min l.length (m1 * m2)))) (.list rs2) = some (.list (l.take (l.length - min l.length (m1 * m2)) ++ rs2)) from if_pos (by rw [sizeLine_eq]; omega)]
    refine Ok.lfo rfl ⟨_, rfl, by rw [List.length_append]; omega, fun r hm => ?_⟩
    rcases List.mem_append.mp hm with z | z
    · exact hlr r (List.mem_of_mem_take z)
    · exact hrs2.2 r z
  subst e
  simp only [parts_l, z_lb]
  obtain ⟨fs, us, hev2, hes2, h02, h12⟩ := pairs_of hlr2
  have hn2 : fs.length ≤ 50 := by omega
  have ha := law_apart hev hev2 (by omega) (by omega)
  have hf := first_apart hev hev2 (by omega) (by omega)
  refine Ok.bind (Q := (· = apart ts us)) ?_ fun due e => ?_
  · simp only [z_pb, items_l, z_lb, s_as]
    refine Ok.bind (map_items h12 _ fun d => rfl) fun xs hx => ?_
    subst hx
    exact Ok.lft (show m__law_apart [_, _] = _ from ha) rfl
  subst e
  refine Ok.iff0 (Ok.or0 ?_ ?_) ?_
  · simp only [list_l, z_pb, items_l, z_lb, s_as]
    refine Ok.bind (map_items h02 _ fun d => rfl) fun xs hx => ?_
    subst hx
    simp only [show m_first_apart [.list es, .list xs] = .ok (apart ts us) from hf, z_rb, ne_same (lay_apart ts us) (show 0 ≤ 100 by decide)]
    exact Ok.lfo rfl rfl
  · simp only [list_l, z_pb, z_lb, s_as, show m_first_apart [.list es, .list es] = .ok .none from (first_apart hev hev (by omega) (by omega)).trans (by rw [apart_self]), z_rb]
    exact Ok.lfo rfl rfl
  simp only [len_l, z_lb, add_i, s_as, list_l]
  refine Ok.bind (Draw (by omega)) fun a ⟨c0, e, hc0⟩ => ?_
  subst e
  obtain ⟨c, rfl⟩ : ∃ m : Nat, c0 = m := ⟨c0.toNat, by omega⟩
  have hc1 : c ≤ es.length := by omega
  simp only [ix_l, chL_at ts (show c < es.length + 1 by omega), z_lb, add_i]
  simp only [show m_is_continued [.int (cv ts c), .int c, .list es] = .ok (.bool true) from (is_continued hev (by omega) hc1).trans (by rw [beq_self_eq_true]), z_rb, isnt_true, z_lb, Bool.false_eq_true, if_false]
  have hab : okS 5 ("a b.9" : Str) := ok_word (by decide +kernel) (by decide +kernel)
  simp only [show m_digest_of_text [.str "a b.9"] = .ok (.int (dig "a b.9")) from digest_of_text hab (by decide), show m__law_digest [.str "a b.9"] = .ok (.int (dig "a b.9")) from law_digest hab (by decide), z_rb, eq_i, beq_self_eq_true, Option.map_some, z_lb, tru_b, if_true]
  have hne : (cv ts c == cv ts c + 1) = false := beq_eq_false_iff_ne.mpr (by omega)
  simp only [show m_is_continued [.int (cv ts c + 1), .int c, .list es] = .ok (.bool false) from (is_continued hev (by omega) hc1).trans (by rw [hne]), z_rb]
  exact Ok.lft (truth_same false) rfl
end Lw
end
open PySem PySem.W PySem.Calls PyProof.Rows
theorem PySem.Challenge.cw_ebbledger_k42_whole_digests_of_long_jour_holds : PySem.Challenge.rw_ebbledger_k42_whole_digests_of_long_jour.Holds := by
  w_on; o_law
  refine HandSHeadRun.head_any (r := OpenLaw.row PySem.Challenge.rw_ebbledger_k42_whole_digests_of_long_jour) (q := view (OpenLaw.row PySem.Challenge.rw_ebbledger_k42_whole_digests_of_long_jour).prog [45]) (H := Hd.hk) (ob := Hd.ob) (M := 3000) (loose := Hd.nms) (d := HandSHeadRun.topDef (OpenLaw.row PySem.Challenge.rw_ebbledger_k42_whole_digests_of_long_jour).prog 45) (kwd := []) Hd.ob_eq
    (by kernel_rfl) (fun s => by kernel_rfl) Hd.run (by kernel_rfl) (by kernel_rfl) (by kernel_rfl) (by rfl) (by first | assumption | decide +kernel) (by decide +kernel) ⟨rfl, rfl, rfl, rfl, rfl, by decide +kernel⟩ ?hw ?hc
  case hw => w_witness2
  case hc =>
    refine L2.walk_ofE (l := PySem.Challenge.rw_ebbledger_k42_whole_digests_of_long_jour) (n := 63) (k := 9) (x := "script") (CX := fun _ _ _ _ _ _ => False) rfl (by decide) (by kernel_rfl) ⟨rfl, by decide, by decide⟩ ?F (fun _ _ _ _ z => z)
    intro w mg fa h Y G hmg0
    obtain ⟨K, KX, c⟩ := Y
    have hmg : mg ("law" : PySem.Str) = some (.ref fa) := by
      have e : (HandSHeadRun.topDef (OpenLaw.row PySem.Challenge.rw_ebbledger_k42_whole_digests_of_long_jour).prog 45).name = ("law" : PySem.Str) := by kernel_rfl
      rw [← e]
      exact hmg0
    obtain ⟨fd, hb, hF⟩ := Lw.law_ends (fun ns _ => Lw.law_holds ns) (P := (PySem.Challenge.rw_ebbledger_k42_whole_digests_of_long_jour).prog) (w := w) KX G c hmg
    exact ⟨K, fd, DL.spLaw K, KX, hb, fun H a ns hl _ hS => ⟨a, ns, rfl, hl, hS, fun _ => rfl⟩, hF⟩
