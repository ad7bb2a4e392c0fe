import PyProof.Rows.All
import Wide.All
import OpenK.AllK
import Wide.FinOn
import HandS.Base
import HandS.Call
import HandS.List
import HandS.Words
import HandS.Exc
import HandS.Wide
import HandS.TupAny
import HandS.IsInst
import HandS.Gcd
import KE.DatumOrd
import HandS.Comp
import HandS.Iter
import HandS.Zip
import HandS.Rev
import HandS.ExcOwn
import HandS.CallSlots
import HandS.WordsExc
import HandS.Defaults
import HandS.Property
import KE.GoesZip
import KE.GoesEnum
import HandS.ExcIs
import HandS.TryMany
import HandS.Head0
import HandS.Head1
import HandS.Head2
import HandS.HeadEnd
import HandS.HeadHook1
import HandS.HeadHook2
import HandS.HeadHook3
import HandS.HeadHook4
import HandS.More
import HandS.Ends
import HandS.Codes
import PyProof.ExcBaseAll.ValueError
import HandS.EndBits
import HandS.Head3
import PySem.Challenge.RW_downhillgames_k88_rules_gains_and_rests
set_option Elab.async false
set_option linter.all false
set_option maxRecDepth 100000
set_option maxHeartbeats 0
set_option autoImplicit false
namespace Pv
open PySem PySem.Spec L2

inductive PV where
  | non | bl (b : Bool) | int (i : Int) | str (x : Str)
  | tup (xs : List PV) | lst (xs : List PV)
  | scr (ns : List Int)
  | ins (c : Str) (fs : List (Str × PV))
  deriving Inhabited

abbrev MG := Str → Option Value
mutual
def Rep (K : PySem.W.Frag) (mg : MG) (F : Hp) : PV → V → Prop
  | .non, v => v = .non
  | .bl b, v => v = .bl b
  | .int i, v => v = .int i
  | .str x, v => v = .str x
  | .tup xs, v => ∃ a vs, v = .ref a ∧ SqT K F a vs ∧ RepL K mg F xs vs
  | .lst xs, v => ∃ a vs, v = .ref a ∧ F a = some (.lst vs) ∧ RepL K mg F xs vs
  | .scr ns, v => ∃ a, v = .ref a ∧ SqL K F a (ns.map V.int)
  | .ins c fs, v => ∃ a C dx vs, v = .ref a ∧ mg c = some (.ref C) ∧ F a = some (.ins C dx vs) ∧ F dx = some (.own a) ∧ RepF K mg F fs vs
def RepL (K : PySem.W.Frag) (mg : MG) (F : Hp) : List PV → List V → Prop
  | [], vs => vs = []
  | x :: xs, vs => ∃ v r, vs = v :: r ∧ Rep K mg F x v ∧ RepL K mg F xs r
def RepF (K : PySem.W.Frag) (mg : MG) (F : Hp) : List (Str × PV) → List (Str × V) → Prop
  | [], vs => vs = []
  | (f, x) :: xs, vs => ∃ v r, vs = (f, v) :: r ∧ Rep K mg F x v ∧ RepF K mg F xs r
end
theorem same_tup {K : PySem.W.Frag} {H H' : Hp} {a : Addr} {xs : List V} (e : Same H H') (h : SqT K H a xs) : SqT K H' a xs := by
  rcases h with (h | ⟨o, h⟩) | h
  · exact .inl (.inl (e _ _ h))
  · exact .inl (.inr ⟨o, e _ _ h⟩)
  · exact .inr h
section
variable {K : PySem.W.Frag} {mg : MG} {F F' : Hp}
mutual
theorem Rep.mono (e : Same F F') : ∀ {p : PV} {v : V}, Rep K mg F p v → Rep K mg F' p v
  | .non, _, h => by simpa only [Rep] using h
  | .bl _, _, h => by simpa only [Rep] using h
  | .int _, _, h => by simpa only [Rep] using h
  | .str _, _, h => by simpa only [Rep] using h
  | .tup xs, _, h => by
    simp only [Rep] at h ⊢
    obtain ⟨a, vs, e1, h1, h2⟩ := h
    exact ⟨a, vs, e1, same_tup e h1, RepL.mono e h2⟩
  | .lst xs, _, h => by
    simp only [Rep] at h ⊢
    obtain ⟨a, vs, e1, h1, h2⟩ := h
    exact ⟨a, vs, e1, e _ _ h1, RepL.mono e h2⟩
  | .scr ns, _, h => by
    simp only [Rep] at h ⊢
    obtain ⟨a, e1, h1⟩ := h
    exact ⟨a, e1, e.seq h1⟩
  | .ins c fs, _, h => by
    simp only [Rep] at h ⊢
    obtain ⟨a, C, dx, vs, e1, e2, h1, h2, h3⟩ := h
    exact ⟨a, C, dx, vs, e1, e2, e _ _ h1, e _ _ h2, RepF.mono e h3⟩
theorem RepL.mono (e : Same F F') : ∀ {xs : List PV} {vs : List V}, RepL K mg F xs vs → RepL K mg F' xs vs
  | [], _, h => by simpa only [RepL] using h
  | x :: xs, _, h => by
    simp only [RepL] at h ⊢
    obtain ⟨v, r, e1, h1, h2⟩ := h
    exact ⟨v, r, e1, Rep.mono e h1, RepL.mono e h2⟩
theorem RepF.mono (e : Same F F') : ∀ {xs : List (Str × PV)} {vs : List (Str × V)}, RepF K mg F xs vs → RepF K mg F' xs vs
  | [], _, h => by simpa only [RepF] using h
  | (f, x) :: xs, _, h => by
    simp only [RepF] at h ⊢
    obtain ⟨v, r, e1, h1, h2⟩ := h
    exact ⟨v, r, e1, Rep.mono e h1, RepF.mono e h2⟩
end
end

def AllR {α β : Type} (R : α → β → Prop) : List α → List β → Prop
  | [], vs => vs = []
  | x :: xs, vs => ∃ v r, vs = v :: r ∧ R x v ∧ AllR R xs r
theorem AllR.imp {α β : Type} {R S : α → β → Prop} (h : ∀ a b, R a b → S a b) : ∀ {xs : List α} {vs : List β}, AllR R xs vs → AllR S xs vs
  | [], _, e => e
  | _ :: _, _, ⟨v, r, e, h1, h2⟩ => ⟨v, r, e, h _ _ h1, AllR.imp h h2⟩
theorem AllR.length {α β : Type} {R : α → β → Prop} : ∀ {xs : List α} {vs : List β}, AllR R xs vs → vs.length = xs.length
  | [], _, e => by rw [e]; rfl
  | _ :: _, _, ⟨v, r, e, h1, h2⟩ => by rw [e, List.length_cons, List.length_cons, AllR.length h2]
theorem AllR.get {α β : Type} {R : α → β → Prop} : ∀ {xs : List α} {vs : List β} {i : Nat} {x : α}, AllR R xs vs → xs[i]? = some x → ∃ v, vs[i]? = some v ∧ R x v
  | [], _, _, _, _, e => by simp at e
  | _ :: _, _, 0, _, ⟨v, r, e, h1, h2⟩, e2 => by
    simp at e2; subst e2 e; exact ⟨v, rfl, h1⟩
  | _ :: _, _, i + 1, _, ⟨v, r, e, h1, h2⟩, e2 => by
    subst e
    obtain ⟨w, a, b⟩ := AllR.get (i := i) h2 (by simpa using e2)
    exact ⟨w, by simpa using a, b⟩
theorem AllR.get' {α β : Type} {R : α → β → Prop} : ∀ {xs : List α} {vs : List β} {i : Nat} {v : β}, AllR R xs vs → vs[i]? = some v → ∃ x, xs[i]? = some x ∧ R x v
  | [], _, _, _, e, e2 => by subst e; simp at e2
  | x :: _, _, 0, _, ⟨v, r, e, h1, h2⟩, e2 => by
    subst e; simp at e2; subst e2; exact ⟨x, rfl, h1⟩
  | _ :: _, _, i + 1, _, ⟨v, r, e, h1, h2⟩, e2 => by
    subst e
    obtain ⟨w, a, b⟩ := AllR.get' (i := i) h2 (by simpa using e2)
    exact ⟨w, by simpa using a, b⟩
theorem AllR.append {α β : Type} {R : α → β → Prop} : ∀ {xs ys : List α} {vs ws : List β}, AllR R xs vs → AllR R ys ws → AllR R (xs ++ ys) (vs ++ ws)
  | [], _, _, _, e, h => by rw [e]; exact h
  | _ :: _, _, _, _, ⟨v, r, e, h1, h2⟩, h => ⟨v, _, by rw [e]; rfl, h1, AllR.append h2 h⟩
theorem AllR.drop {α β : Type} {R : α → β → Prop} : ∀ {xs : List α} {vs : List β} (n : Nat), AllR R xs vs → AllR R (xs.drop n) (vs.drop n)
  | _, _, 0, h => h
  | [], _, n + 1, e => by rw [e]; exact List.drop_nil
  | _ :: _, _, n + 1, ⟨v, r, e, h1, h2⟩ => by rw [e]; exact AllR.drop n h2
theorem AllR.take {α β : Type} {R : α → β → Prop} : ∀ {xs : List α} {vs : List β} (n : Nat), AllR R xs vs → AllR R (xs.take n) (vs.take n)
  | _, _, 0, h => by simp only [List.take_zero]; rfl
  | [], _, n + 1, e => by rw [e]; exact List.take_nil
  | _ :: _, _, n + 1, ⟨v, r, e, h1, h2⟩ => by rw [e]; exact ⟨v, _, rfl, h1, AllR.take n h2⟩
theorem AllR.set {α β : Type} {R : α → β → Prop} {x : α} {v : β} (hr : R x v) : ∀ {xs : List α} {vs : List β} (n : Nat), AllR R xs vs → AllR R (xs.set n x) (vs.set n v)
  | [], _, n, e => by rw [e]; rfl
  | _ :: _, _, 0, ⟨w, r, e, h1, h2⟩ => by rw [e]; exact ⟨v, r, rfl, hr, h2⟩
  | _ :: _, _, n + 1, ⟨w, r, e, h1, h2⟩ => by rw [e]; exact ⟨w, _, rfl, h1, AllR.set hr n h2⟩
theorem AllR.reverse {α β : Type} {R : α → β → Prop} : ∀ {xs : List α} {vs : List β}, AllR R xs vs → AllR R xs.reverse vs.reverse
  | [], _, e => by rw [e]; rfl
  | _ :: _, _, ⟨v, r, e, h1, h2⟩ => by
    rw [e, List.reverse_cons, List.reverse_cons]
    exact AllR.append (AllR.reverse h2) ⟨v, [], rfl, h1, rfl⟩
theorem AllR.dropLast {α β : Type} {R : α → β → Prop} {xs : List α} {vs : List β} (h : AllR R xs vs) : AllR R xs.dropLast vs.dropLast := by
  rw [List.dropLast_eq_take, List.dropLast_eq_take, h.length]
  exact h.take _
theorem repL_iff {K : PySem.W.Frag} {mg : MG} {F : Hp} : ∀ {xs : List PV} {vs : List V}, RepL K mg F xs vs ↔ AllR (Rep K mg F) xs vs
  | [], vs => by simp only [RepL, AllR]
  | x :: xs, vs => by
    simp only [RepL, AllR]
    constructor
    · rintro ⟨v, r, e, h1, h2⟩
      exact ⟨v, r, e, h1, repL_iff.mp h2⟩
    · rintro ⟨v, r, e, h1, h2⟩
      exact ⟨v, r, e, h1, repL_iff.mpr h2⟩
def RepE (K : PySem.W.Frag) (mg : MG) (F H : Hp) : Nat → PV → V → Prop
  | 0, p, v => Rep K mg F p v
  | n + 1, .lst xs, v => ∃ a vs, v = .ref a ∧ H a = some (.lst vs) ∧ AllR (RepE K mg F H n) xs vs
  | _ + 1, _, _ => False
def AllO (R : PV → V → List Addr → Prop) : List PV → List V → List Addr → Prop
  | [], vs, L => vs = [] ∧ L = []
  | x :: xs, vs, L => ∃ v r L1 L2, vs = v :: r ∧ L = L1 ++ L2 ∧ R x v L1 ∧ AllO R xs r L2
def RepO (K : PySem.W.Frag) (mg : MG) (F H : Hp) : Nat → PV → V → List Addr → Prop
  | 0, p, v, L => L = [] ∧ Rep K mg F p v
  | n + 1, .lst xs, v, L => ∃ a vs Ls, v = .ref a ∧ H a = some (.lst vs) ∧ L = a :: Ls ∧ AllO (RepO K mg F H n) xs vs Ls
  | _ + 1, _, _, _ => False
section
variable {K : PySem.W.Frag} {mg : MG} {F F' H H' : Hp}
theorem RepE.mono (e : Same F F') (e2 : Same H H') : ∀ {n : Nat} {p : PV} {v : V}, RepE K mg F H n p v → RepE K mg F' H' n p v
  | 0, _, _, h => Rep.mono e h
  | n + 1, .lst xs, v, ⟨a, vs, e1, h1, h2⟩ => ⟨a, vs, e1, e2 _ _ h1, h2.imp fun _ _ h => RepE.mono e e2 h⟩
  | _ + 1, .non, _, h => h.elim
  | _ + 1, .bl _, _, h => h.elim
  | _ + 1, .int _, _, h => h.elim
  | _ + 1, .str _, _, h => h.elim
  | _ + 1, .tup _, _, h => h.elim
  | _ + 1, .scr _, _, h => h.elim
  | _ + 1, .ins _ _, _, h => h.elim
theorem AllO.imp {R S : PV → V → List Addr → Prop} : ∀ {xs : List PV} {vs : List V} {L : List Addr}, (∀ p v L', (∀ a ∈ L', a ∈ L) → R p v L' → S p v L') → AllO R xs vs L → AllO S xs vs L
  | [], _, _, _, h => h
  | x :: xs, _, _, k, ⟨v, r, L1, L2, e1, e2, h1, h2⟩ => by
    refine ⟨v, r, L1, L2, e1, e2, k _ _ _ (fun a ha => ?_) h1, AllO.imp (fun p v L' hs h => k p v L' (fun a ha => ?_) h) h2⟩
    · rw [e2]; exact List.mem_append_left _ ha
    · rw [e2]; exact List.mem_append_right _ (hs a ha)
theorem RepO.mono (e : Same F F') : ∀ {n : Nat} {p : PV} {v : V} {L : List Addr}, (∀ a ∈ L, ∀ o, H a = some o → H' a = some o) → RepO K mg F H n p v L → RepO K mg F' H' n p v L
  | 0, _, _, _, _, ⟨h1, h2⟩ => ⟨h1, Rep.mono e h2⟩
  | n + 1, .lst xs, v, L, k, ⟨a, vs, Ls, e1, h1, e2, h2⟩ => by
    refine ⟨a, vs, Ls, e1, k a (by rw [e2]; exact List.mem_cons_self) _ h1, e2, AllO.imp (fun p v L' hs h => RepO.mono e (fun b hb o => k b ?_ o) h) h2⟩
    rw [e2]; exact List.mem_cons_of_mem _ (hs b hb)
  | _ + 1, .non, _, _, _, h => h.elim
  | _ + 1, .bl _, _, _, _, h => h.elim
  | _ + 1, .int _, _, _, _, h => h.elim
  | _ + 1, .str _, _, _, _, h => h.elim
  | _ + 1, .tup _, _, _, _, h => h.elim
  | _ + 1, .scr _, _, _, _, h => h.elim
  | _ + 1, .ins _ _, _, _, _, h => h.elim
theorem AllO.there {R : PV → V → List Addr → Prop} (k : ∀ p v L, R p v L → ∀ a ∈ L, ∃ o, H a = some o) : ∀ {xs : List PV} {vs : List V} {L : List Addr}, AllO R xs vs L → ∀ a ∈ L, ∃ o, H a = some o
  | [], _, _, ⟨_, e⟩, a, ha => by rw [e] at ha; cases ha
  | x :: xs, _, _, ⟨v, r, L1, L2, e1, e2, h1, h2⟩, a, ha => by
    rw [e2] at ha
    rcases List.mem_append.mp ha with ha | ha
    · exact k _ _ _ h1 a ha
    · exact AllO.there k h2 a ha
theorem RepO.there : ∀ {n : Nat} {p : PV} {v : V} {L : List Addr}, RepO K mg F H n p v L → ∀ a ∈ L, ∃ o, H a = some o
  | 0, _, _, _, ⟨e, _⟩, a, ha => by rw [e] at ha; cases ha
  | n + 1, .lst xs, v, L, ⟨b, vs, Ls, e1, h1, e2, h2⟩, a, ha => by
    rw [e2] at ha
    rcases List.mem_cons.mp ha with rfl | ha
    · exact ⟨_, h1⟩
    · exact AllO.there (fun _ _ _ h => RepO.there h) h2 a ha
  | _ + 1, .non, _, _, h, _, _ => h.elim
  | _ + 1, .bl _, _, _, h, _, _ => h.elim
  | _ + 1, .int _, _, _, h, _, _ => h.elim
  | _ + 1, .str _, _, _, h, _, _ => h.elim
  | _ + 1, .tup _, _, _, h, _, _ => h.elim
  | _ + 1, .scr _, _, _, h, _, _ => h.elim
  | _ + 1, .ins _ _, _, _, h, _, _ => h.elim
theorem AllO.allR {R : PV → V → List Addr → Prop} {S : PV → V → Prop} (k : ∀ p v L, R p v L → S p v) : ∀ {xs : List PV} {vs : List V} {L : List Addr}, AllO R xs vs L → AllR S xs vs
  | [], _, _, ⟨e, _⟩ => e
  | x :: xs, _, _, ⟨v, r, L1, L2, e1, e2, h1, h2⟩ => ⟨v, r, e1, k _ _ _ h1, AllO.allR k h2⟩
theorem RepO.read : ∀ {n : Nat} {p : PV} {v : V} {L : List Addr}, RepO K mg F H n p v L → RepE K mg F H n p v
  | 0, _, _, _, ⟨_, h⟩ => h
  | n + 1, .lst xs, v, L, ⟨a, vs, Ls, e1, h1, e2, h2⟩ => ⟨a, vs, e1, h1, h2.allR fun _ _ _ h => RepO.read h⟩
  | _ + 1, .non, _, _, h => h.elim
  | _ + 1, .bl _, _, _, h => h.elim
  | _ + 1, .int _, _, _, h => h.elim
  | _ + 1, .str _, _, _, h => h.elim
  | _ + 1, .tup _, _, _, h => h.elim
  | _ + 1, .scr _, _, _, h => h.elim
  | _ + 1, .ins _ _, _, _, h => h.elim
def frz (F H : Hp) (L : List Addr) : Hp := fun a => if a ∈ L then H a else F a
theorem frz_in {L : List Addr} {a : Addr} (h : a ∈ L) : frz F H L a = H a := by unfold frz; rw [if_pos h]
theorem frz_out {L : List Addr} {a : Addr} (h : a ∉ L) : frz F H L a = F a := by unfold frz; rw [if_neg h]
theorem frz_same {L : List Addr} (h : ∀ a ∈ L, F a = none) : Same F (frz F H L) := fun a o e => by
  rw [frz_out]; exact e
  intro ha
  rw [h a ha] at e; cases e
theorem frz_sub {L : List Addr} (h : Same F H) : Same (frz F H L) H := fun a o e => by
  by_cases ha : a ∈ L
  · rw [frz_in ha] at e; exact e
  · rw [frz_out ha] at e; exact h a o e
theorem frz_nil : frz F H [] = F := by funext a; exact frz_out (by simp)
theorem AllO.frozen {R : PV → V → List Addr → Prop} {G : Hp} : ∀ {xs : List PV} {vs : List V} {L : List Addr}, (∀ p v L', (∀ a ∈ L', a ∈ L) → R p v L' → Rep K mg G p v) → AllO R xs vs L → AllR (Rep K mg G) xs vs
  | [], _, _, _, ⟨e, _⟩ => e
  | x :: xs, _, _, k, ⟨v, r, L1, L2, e1, e2, h1, h2⟩ => by
    refine ⟨v, r, e1, k _ _ _ (fun a ha => ?_) h1, AllO.frozen (fun p v L' hs h => k p v L' (fun a ha => ?_) h) h2⟩
    · rw [e2]; exact List.mem_append_left _ ha
    · rw [e2]; exact List.mem_append_right _ (hs a ha)
theorem RepO.frozen {G : Hp} (e : Same F G) : ∀ {n : Nat} {p : PV} {v : V} {L : List Addr}, (∀ a ∈ L, ∀ o, H a = some o → G a = some o) → RepO K mg F H n p v L → Rep K mg G p v
  | 0, _, _, _, _, ⟨_, h⟩ => Rep.mono e h
  | n + 1, .lst xs, v, L, k, ⟨a, vs, Ls, e1, h1, e2, h2⟩ => by
    simp only [Rep]
    refine ⟨a, vs, e1, k a (by rw [e2]; exact List.mem_cons_self) _ h1, repL_iff.mpr (AllO.frozen (fun p v L' hs h => RepO.frozen e (fun b hb o => k b ?_ o) h) h2)⟩
    rw [e2]; exact List.mem_cons_of_mem _ (hs b hb)
  | _ + 1, .non, _, _, _, h => h.elim
  | _ + 1, .bl _, _, _, _, h => h.elim
  | _ + 1, .int _, _, _, _, h => h.elim
  | _ + 1, .str _, _, _, _, h => h.elim
  | _ + 1, .tup _, _, _, _, h => h.elim
  | _ + 1, .scr _, _, _, _, h => h.elim
  | _ + 1, .ins _ _, _, _, _, h => h.elim
end

inductive Res where
  | val (p : PV) | bor (n : Nat) (xs : List PV) | lend (n : Nat) (xs : List PV) | new (n : Nat) (xs : List PV)
  deriving Inhabited
def Res.pv : Res → PV
  | .val p => p
  | .bor _ xs => .lst xs
  | .lend _ xs => .lst xs
  | .new _ xs => .lst xs
structure XV where
  c : Str
  fs : List (Str × PV)
inductive R (α : Type) where
  | ok (a : α) | exc (x : XV) | bad
def R.bind {α β : Type} (x : R α) (f : α → R β) : R β := match x with
  | .ok a => f a
  | .exc e => .exc e
  | .bad => .bad
instance : Monad R where
  pure := R.ok
  bind := R.bind
theorem R.ok_bind {α β : Type} (a : α) (f : α → R β) : (R.ok a >>= f) = f a := (rfl)
theorem R.exc_bind {α β : Type} (e : XV) (f : α → R β) : (R.exc e >>= f) = R.exc e := (rfl)
theorem R.bad_bind {α β : Type} (f : α → R β) : ((R.bad : R α) >>= f) = R.bad := (rfl)
theorem R.pure_eq {α : Type} (a : α) : (pure a : R α) = R.ok a := (rfl)
inductive Slot where
  | unset | val (p : PV) | bor (n : Nat) (xs : List PV) | own (n : Nat) (xs : List PV) | obj (c : Str) (fs : List (Str × PV)) | exc (x : XV)
  deriving Inhabited
abbrev Env := List Slot
structure Bx where
  H0 : Hp
  F0 : Hp
  xa : Option (Addr × Value × Option Addr)
  sf : Option (Addr × Addr × Addr)
def RepX (K : PySem.W.Frag) (mg : MG) (F H : Hp) (x : XV) (cls : Value) (d : Option Addr) : Prop :=
  ∃ C, mg x.c = some (.ref C) ∧ cls = .ref C ∧ ((x.fs = [] ∧ d = none) ∨ ∃ dd vs, x.fs ≠ [] ∧ d = some dd ∧ H dd = some (.xd vs) ∧ RepF K mg F x.fs vs)
def SlotR (K : PySem.W.Frag) (mg : MG) (B : Bx) (F H : Hp) (s : Slot) (o : Option (Option V)) (L : List Addr) : Prop :=
  match s with
  | .unset => L = []
  | .val p => L = [] ∧ ∃ v, o = some (some v) ∧ Rep K mg F p v
  | .bor n xs => L = [] ∧ ∃ v, o = some (some v) ∧ RepE K mg F B.H0 (n + 1) (.lst xs) v
  | .own n xs => ∃ v, o = some (some v) ∧ RepO K mg F H (n + 1) (.lst xs) v L
  | .obj c fs => ∃ a C dx vs, o = some (some (.ref a)) ∧ L = [a, dx] ∧ B.sf = some (a, C, dx) ∧ a ≠ dx ∧ mg c = some (.ref C) ∧ H a = some (.ins C dx vs) ∧ H dx = some (.own a) ∧ RepF K mg F fs vs
  | .exc x => L = [] ∧ ∃ a cls d, o = some (some (.ref a)) ∧ B.xa = some (a, cls, d) ∧ RepX K mg F H x cls d
structure Ext (F H F' H' : Hp) : Prop where
  f : Same F F'
  h : Same H H'
  s : Same F' H'
  n : ∀ a o, F' a = some o → F a = none → H a = none
structure SR (K : PySem.W.Frag) (mg : MG) (B : Bx) (F : Hp) (ρ : Env) (σ : St) (H : Hp) : Prop where
  ext : Ext B.F0 B.H0 F H
  len : ρ.length = σ.length
  slots : ∃ fp : Nat → List Addr, (∀ i s, ρ[i]? = some s → SlotR K mg B F H s (σ[i]?) (fp i)) ∧ (∀ i, (fp i).Nodup) ∧ (∀ i j a, a ∈ fp i → a ∈ fp j → i = j) ∧
    ∀ i a, a ∈ fp i → F a = none ∧ B.H0 a = none ∧ ∃ o, H a = some o
theorem Ext.refl {F H : Hp} (s : Same F H) : Ext F H F H := ⟨.refl _, .refl _, s, fun a o e n => by rw [n] at e; cases e⟩
theorem Ext.trans {F H F1 H1 F2 H2 : Hp} (a : Ext F H F1 H1) (b : Ext F1 H1 F2 H2) : Ext F H F2 H2 :=
  ⟨a.f.trans b.f, a.h.trans b.h, b.s, fun x o e n => by
    cases q : F1 x with
    | some u => exact a.n x u q n
    | none => exact a.h.free (b.n x o e q)⟩
theorem upd_same_of {H : Hp} {p : Addr} {o : HO} (h : H p = none) : Same H (upd H p o) := fun b x e => by
  rw [upd_ne (ne_of_none e h)]
  exact e
theorem Ext.add {F H : Hp} (s : Same F H) {p : Addr} {o : HO} (h : H p = none) : Ext F H (upd F p o) (upd H p o) := by
  have fp : F p = none := s.free h
  refine ⟨upd_same_of fp, upd_same_of h, fun a x e => ?_, fun a x e n => ?_⟩
  · by_cases ha : a = p
    · rw [ha, upd_same] at e ⊢; exact e
    · rw [upd_ne ha] at e ⊢; exact s a x e
  · by_cases ha : a = p
    · rw [ha]; exact h
    · rw [upd_ne ha, n] at e; cases e
theorem Ext.lay {F H : Hp} (s : Same F H) {p : Addr} {o : HO} (h : H p = none) : Ext F H F (upd H p o) :=
  ⟨.refl _, upd_same_of h, s.trans (upd_same_of h), fun a x e n => by rw [n] at e; cases e⟩
theorem Ext.frz {F H F1 H1 : Hp} (x : Ext F H F1 H1) {L : List Addr} (h : ∀ a ∈ L, F1 a = none ∧ H a = none) : Ext F H (frz F1 H1 L) H1 :=
  ⟨x.f.trans (frz_same fun a ha => (h a ha).1), x.h, frz_sub x.s, fun a o e n => by
    by_cases ha : a ∈ L
    · exact (h a ha).2
    · rw [frz_out ha] at e; exact x.n a o e n⟩
section
variable {K : PySem.W.Frag} {mg : MG} {B : Bx} {F F' H H' : Hp} {ρ : Env} {σ : St}
theorem RepX.mono {x : XV} {c : Value} {d : Option Addr} (e : Same F F') (e2 : Same H H') (h : RepX K mg F H x c d) : RepX K mg F' H' x c d := by
  obtain ⟨C, h1, h2, h3⟩ := h
  refine ⟨C, h1, h2, ?_⟩
  rcases h3 with h3 | ⟨dd, vs, z, a, b, c⟩
  · exact .inl h3
  · exact .inr ⟨dd, vs, z, a, e2 _ _ b, RepF.mono e c⟩
theorem SlotR.mono {s : Slot} {o : Option (Option V)} {L : List Addr} (e : Same F F') (e2 : Same H H') (h : SlotR K mg B F H s o L) : SlotR K mg B F' H' s o L := by
  cases s with
  | unset => exact h
  | val p => obtain ⟨h0, v, h1, h2⟩ := h; exact ⟨h0, v, h1, h2.mono e⟩
  | bor n xs => obtain ⟨h0, v, h1, h2⟩ := h; exact ⟨h0, v, h1, h2.mono e (.refl _)⟩
  | own n xs => obtain ⟨v, h1, h2⟩ := h; exact ⟨v, h1, h2.mono e fun a _ o q => e2 a o q⟩
  | obj c fs => obtain ⟨a, C, dx, vs, h1, h2, h0, h3, h4, h5, h6, h7⟩ := h; exact ⟨a, C, dx, vs, h1, h2, h0, h3, h4, e2 _ _ h5, e2 _ _ h6, h7.mono e⟩
  | exc x => obtain ⟨h0, a, c, d, h1, h2, h3⟩ := h; exact ⟨h0, a, c, d, h1, h2, h3.mono e e2⟩
theorem SR.go (S : SR K mg B F ρ σ H) (x : Ext F H F' H') : SR K mg B F' ρ σ H' := by
  obtain ⟨fp, h1, h2, h3, h4⟩ := S.slots
  refine ⟨S.ext.trans x, S.len, fp, fun i s e => (h1 i s e).mono x.f x.h, h2, h3, fun i a ha => ?_⟩
  · obtain ⟨a1, a2, o, a3⟩ := h4 i a ha
    refine ⟨?_, a2, o, x.h a o a3⟩
    cases q : F' a with
    | none => rfl
    | some u =>
      have := x.n a u q a1
      rw [a3] at this; cases this
def RepRes (K : PySem.W.Frag) (mg : MG) (B : Bx) (F' H H' : Hp) : Res → V → Prop
  | .val p, v => Rep K mg F' p v
  | .bor n xs, v => RepE K mg F' B.H0 (n + 1) (.lst xs) v
  | .lend n xs, v => RepE K mg F' H' (n + 1) (.lst xs) v
  | .new n xs, v => ∃ L, RepO K mg F' H' (n + 1) (.lst xs) v L ∧ L.Nodup ∧ ∀ a ∈ L, F' a = none ∧ H a = none
theorem RepRes.ext {F1 H1 F2 H2 : Hp} {r : Res} {v : V} (x : Ext F1 H1 F2 H2) (h : RepRes K mg B F1 H H1 r v) : RepRes K mg B F2 H H2 r v := by
  cases r with
  | val p => exact Rep.mono x.f h
  | bor n xs => exact RepE.mono x.f (.refl _) h
  | lend n xs => exact RepE.mono x.f x.h h
  | new n xs =>
    obtain ⟨L, h1, h2, h3⟩ := h
    refine ⟨L, h1.mono x.f fun a _ o q => x.h a o q, h2, fun a ha => ⟨?_, (h3 a ha).2⟩⟩
    cases q : F2 a with
    | none => rfl
    | some u =>
      have q1 := x.n a u q (h3 a ha).1
      obtain ⟨o, q2⟩ := h1.there a ha
      rw [q1] at q2; cases q2
theorem RepRes.old {H0 : Hp} {F1 H1 : Hp} {r : Res} {v : V} (x : Same H0 H) (h : RepRes K mg B F1 H H1 r v) : RepRes K mg B F1 H0 H1 r v := by
  cases r with
  | val p => exact h
  | bor n xs => exact h
  | lend n xs => exact h
  | new n xs =>
    obtain ⟨L, h1, h2, h3⟩ := h
    exact ⟨L, h1, h2, fun a ha => ⟨(h3 a ha).1, x.free (h3 a ha).2⟩⟩
theorem RepRes.see {F1 H1 : Hp} {r : Res} {v : V} (hs : Same B.H0 H1) (h : RepRes K mg B F1 H H1 r v) : (∃ p, r = .val p ∧ Rep K mg F1 p v) ∨ ∃ n xs, r.pv = .lst xs ∧ RepE K mg F1 H1 (n + 1) (.lst xs) v := by
  cases r with
  | val p => exact .inl ⟨p, rfl, h⟩
  | bor n xs => exact .inr ⟨n, xs, rfl, RepE.mono (.refl _) hs h⟩
  | lend n xs => exact .inr ⟨n, xs, rfl, h⟩
  | new n xs => obtain ⟨L, h1, _⟩ := h; exact .inr ⟨n, xs, rfl, h1.read⟩
end
end Pv
namespace Pv
open PySem PySem.Spec L2
noncomputable section

abbrev VE := Env → R Res
def WantE (K : PySem.W.Frag) (mg : MG) (B : Bx) (W : WX) (F H : Hp) (σ : L2.St) (Q : VK) : R Res → Prop
  | .ok r => ∀ v F' H', Ext F H F' H' → RepRes K mg B F' H H' r v → Q v H'
  | .exc x => ∀ c d F' H', Ext F H F' H' → RepX K mg F' H' x c d → W c d σ H'
  | .bad => False
def tV (K : PySem.W.Frag) (mg : MG) (B : Bx) (W : WX) (f : VE) : TE := fun σ H Q => ∃ F ρ, SR K mg B F ρ σ H ∧ WantE K mg B W F H σ Q (f ρ)
structure EV (X : Cx) (B : Bx) (W : WX) (e : Expr) (f : VE) : Prop where
  run : PE X e (tV X.K X.mg B W f)
theorem pe_imp {X : Cx} {e : Expr} {t t' : TE} (h : PE X e t) (k : ∀ σ H Q, t' σ H Q → t σ H Q) : PE X e t' :=
  ⟨fun pins s σ H Q I q => h.run pins s σ H Q I (k σ H Q q)⟩
section
variable {X : Cx} {B : Bx} {W : WX} {a b e : Expr} {fa fb : VE} {pos : Pos}
theorem EV.of {f : VE} {t : TE} (h : PE X e t) (k : ∀ σ H Q, tV X.K X.mg B W f σ H Q → t σ H Q) : EV X B W e f := ⟨pe_imp h k⟩
theorem EV.as {f g : VE} (h : EV X B W e f) (k : ∀ ρ, g ρ = f ρ) : EV X B W e g := by
  have : g = f := funext k
  rw [this]; exact h

theorem want1 {K : PySem.W.Frag} {mg : MG} {f : VE} {k : Env → Res → R Res} {σ : L2.St} {H : Hp} {Q : VK} {T : V → Hp → Prop}
    (h : tV K mg B W (fun ρ => f ρ >>= k ρ) σ H Q)
    (step : ∀ F F1 H1 ρ r v, SR K mg B F ρ σ H → Ext F H F1 H1 → RepRes K mg B F1 H H1 r v → WantE K mg B W F H σ Q (k ρ r) → T v H1) : tV K mg B W f σ H T := by
  obtain ⟨F, ρ, S, w⟩ := h
  have w : WantE K mg B W F H σ Q (f ρ >>= k ρ) := w
  refine ⟨F, ρ, S, ?_⟩
  cases q : f ρ with
  | ok r =>
    rw [q] at w
    intro v F1 H1 x rr
    exact step F F1 H1 ρ r v S x rr w
  | exc x => rw [q] at w; exact w
  | bad => rw [q] at w; exact w
theorem want2 {K : PySem.W.Frag} {mg : MG} {f g : VE} {k : Env → Res → Res → R Res} {σ : L2.St} {H : Hp} {Q : VK} {T : V → V → Hp → Prop}
    (h : tV K mg B W (fun ρ => f ρ >>= fun x => g ρ >>= fun y => k ρ x y) σ H Q)
    (step : ∀ F F1 H1 ρ r1 r2 v1 v2, SR K mg B F ρ σ H → Ext F H F1 H1 → RepRes K mg B F1 H H1 r1 v1 → RepRes K mg B F1 H H1 r2 v2 → WantE K mg B W F H σ Q (k ρ r1 r2) → T v1 v2 H1) :
    tV K mg B W f σ H fun v1 H1 => tV K mg B W g σ H1 fun v2 H2 => T v1 v2 H2 := by
  refine want1 (k := fun ρ x => g ρ >>= fun y => k ρ x y) h fun F F1 H1 ρ r v S x rr w => ?_
  refine ⟨F1, ρ, S.go x, ?_⟩
  cases q : g ρ with
  | ok r2 =>
    rw [q] at w
    intro v2 F2 H2 x2 rr2
    exact step F F2 H2 ρ r r2 v v2 S (x.trans x2) (rr.ext x2) (rr2.old x.h) w
  | exc y =>
    rw [q] at w
    intro c d F2 H2 x2 rx
    exact w c d F2 H2 (x.trans x2) rx
  | bad => rw [q] at w; exact w
def Op2 (K : PySem.W.Frag) (mg : MG) (B : Bx) (r : R2) (k : Res → Res → R Res) : Prop :=
  ∀ (F H H1 : Hp) (r1 r2 : Res) (v1 v2 : V) (Q : VK), Same B.H0 H1 → Same F H1 → Same H H1 → RepRes K mg B F H H1 r1 v1 → RepRes K mg B F H H1 r2 v2 →
    ∀ r3, k r1 r2 = .ok r3 → (∀ v F' H', Ext F H1 F' H' → RepRes K mg B F' H1 H' r3 v → Q v H') → r v1 v2 H1 Q
def Op1 (K : PySem.W.Frag) (mg : MG) (B : Bx) (r : V → Hp → VK → Prop) (k : Res → R Res) : Prop :=
  ∀ (F H H1 : Hp) (r1 : Res) (v1 : V) (Q : VK), Same B.H0 H1 → Same F H1 → Same H H1 → RepRes K mg B F H H1 r1 v1 →
    ∀ r3, k r1 = .ok r3 → (∀ v F' H', Ext F H1 F' H' → RepRes K mg B F' H1 H' r3 v → Q v H') → r v1 H1 Q
def NoX2 (k : Res → Res → R Res) : Prop := ∀ r1 r2 x, k r1 r2 ≠ .exc x
def NoX1 (k : Res → R Res) : Prop := ∀ r x, k r ≠ .exc x
theorem Op2.use {r : R2} {k : Res → Res → R Res} {K : PySem.W.Frag} {mg : MG} (o : Op2 K mg B r k) (nx : NoX2 k) {σ : L2.St} {ρ : Env} {F F1 H H1 : Hp} {r1 r2 : Res} {v1 v2 : V} {Q : VK} (S : SR K mg B F ρ σ H) (x : Ext F H F1 H1)
    (h1 : RepRes K mg B F1 H H1 r1 v1) (h2 : RepRes K mg B F1 H H1 r2 v2) (w : WantE K mg B W F H σ Q (k r1 r2)) : r v1 v2 H1 Q := by
  cases q : k r1 r2 with
  | ok r3 =>
    rw [q] at w
    refine o F1 H H1 r1 r2 v1 v2 Q (S.ext.h.trans x.h) x.s x.h h1 h2 r3 q fun v F' H' x' rr => w v F' H' (x.trans x') (rr.old x.h)
  | exc y => exact absurd q (nx r1 r2 y)
  | bad => rw [q] at w; exact w.elim
theorem Op1.use {r : V → Hp → VK → Prop} {k : Res → R Res} {K : PySem.W.Frag} {mg : MG} (o : Op1 K mg B r k) (nx : NoX1 k) {σ : L2.St} {ρ : Env} {F F1 H H1 : Hp} {r1 : Res} {v1 : V} {Q : VK} (S : SR K mg B F ρ σ H) (x : Ext F H F1 H1)
    (h1 : RepRes K mg B F1 H H1 r1 v1) (w : WantE K mg B W F H σ Q (k r1)) : r v1 H1 Q := by
  cases q : k r1 with
  | ok r3 =>
    rw [q] at w
    refine o F1 H H1 r1 v1 Q (S.ext.h.trans x.h) x.s x.h h1 r3 q fun v F' H' x' rr => w v F' H' (x.trans x') (rr.old x.h)
  | exc y => exact absurd q (nx r1 y)
  | bad => rw [q] at w; exact w.elim
def bin2 (k : Res → Res → R Res) (fa fb : VE) : VE := fun ρ => fa ρ >>= fun x => fb ρ >>= fun y => k x y
def un1 (k : Res → R Res) (fa : VE) : VE := fun ρ => fa ρ >>= fun x => k x
theorem e_bin {op : Operator} {r : R2} {k : Res → Res → R Res} (ho : OpR X (binaryOp op) r) (o : Op2 X.K X.mg B r k) (nx : NoX2 k) (ha : EV X B W a fa) (hb : EV X B W b fb) : EV X B W (.BinOp a op b pos) (bin2 k fa fb) :=
  .of (pe_op ho ha.run hb.run) fun σ H Q h => want2 (k := fun _ => k) h fun F F1 H1 ρ r1 r2 v1 v2 S x h1 h2 w => o.use nx S x h1 h2 w
theorem e_un {op : UnaryOp} {r : V → Hp → VK → Prop} {k : Res → R Res} (ho : UnR X (unaryOp op) r) (o : Op1 X.K X.mg B r k) (nx : NoX1 k) (ha : EV X B W a fa) : EV X B W (.UnaryOp op a pos) (un1 k fa) :=
  .of (pe_un ho ha.run) fun σ H Q h => want1 (k := fun _ => k) h fun F F1 H1 ρ r v S x h1 w => o.use nx S x h1 w
theorem e_cmp {op : CmpOp} {r : R2} {k : Res → Res → R Res} (ho : OpR X (compareOp op) r) (o : Op2 X.K X.mg B r k) (nx : NoX2 k) (hm : behindInMarks op b = false) (ha : EV X B W a fa) (hb : EV X B W b fb) : EV X B W (.Compare a [op] [b] pos) (bin2 k fa fb) :=
  .of (pe_cmpR ho ha.run hb.run hm) fun σ H Q h => want2 (k := fun _ => k) h fun F F1 H1 ρ r1 r2 v1 v2 S x h1 h2 w => o.use nx S x h1 h2 w
theorem e_ix {r : R2} {k : Res → Res → R Res} (ho : IxR X r) (o : Op2 X.K X.mg B r k) (nx : NoX2 k) (hs : PlainIx b) (ha : EV X B W a fa) (hb : EV X B W b fb) : EV X B W (.Subscript a b pos) (bin2 k fa fb) :=
  .of (pe_ix ho ha.run hb.run hs) fun σ H Q h => want2 (k := fun _ => k) h fun F F1 H1 ρ r1 r2 v1 v2 S x h1 h2 w => o.use nx S x h1 h2 w
end

section
variable {X : Cx} {B : Bx} {W : WX} {pos : Pos}
def rd (i : Nat) : VE := fun ρ => match ρ[i]? with
  | some (.val p) => .ok (.val p)
  | some (.bor n xs) => .ok (.bor n xs)
  | some (.own n xs) => .ok (.lend n xs)
  | _ => .bad
theorem e_var {i : Nat} {x : Str} (h : PE X (.Name x pos) (tVar i)) : EV X B W (.Name x pos) (rd i) := by
  refine .of h fun σ H Q h => ?_
  obtain ⟨F, ρ, S, w⟩ := h
  obtain ⟨fp, h1, _⟩ := S.slots
  unfold rd at w
  cases q : ρ[i]? with
  | none => rw [q] at w; exact w.elim
  | some s =>
    rw [q] at w
    have hs := h1 i s q
    cases s with
    | unset => exact w.elim
    | val p => obtain ⟨_, v, e, r⟩ := hs; exact ⟨v, e, w v F H (.refl S.ext.s) r⟩
    | bor n xs => obtain ⟨_, v, e, r⟩ := hs; exact ⟨v, e, w v F H (.refl S.ext.s) r⟩
    | own n xs => obtain ⟨v, e, r⟩ := hs; exact ⟨v, e, w v F H (.refl S.ext.s) r.read⟩
    | obj c fs => exact w.elim
    | exc x => exact w.elim
def cst (p : PV) : VE := fun _ => .ok (.val p)
theorem e_const {e : Expr} {p : PV} {v : V} (h : PE X e (tC v)) (r : ∀ F, Rep X.K X.mg F p v) : EV X B W e (cst p) := by
  refine .of h fun σ H Q h => ?_
  obtain ⟨F, ρ, S, w⟩ := h
  exact w v F H (.refl S.ext.s) (r F)
theorem rep_int {K : PySem.W.Frag} {mg : MG} {F : Hp} {i : Int} : Rep K mg F (.int i) (.int i) := by simp only [Rep]
theorem rep_bl {K : PySem.W.Frag} {mg : MG} {F : Hp} {i : Bool} : Rep K mg F (.bl i) (.bl i) := by simp only [Rep]
theorem rep_str {K : PySem.W.Frag} {mg : MG} {F : Hp} {i : Str} : Rep K mg F (.str i) (.str i) := by simp only [Rep]
theorem rep_non {K : PySem.W.Frag} {mg : MG} {F : Hp} : Rep K mg F .non .non := by simp only [Rep]
theorem e_int {i j} : EV X B W (.Constant (.int i) j pos) (cst (.int i)) := e_const pe_int fun _ => rep_int
theorem e_bl {i j} : EV X B W (.Constant (.bool i) j pos) (cst (.bl i)) := e_const pe_bl fun _ => rep_bl
theorem e_str {i j} : EV X B W (.Constant (.str i) j pos) (cst (.str i)) := e_const pe_str fun _ => rep_str
theorem e_non {j} : EV X B W (.Constant .none j pos) (cst .non) := e_const pe_non fun _ => rep_non
theorem e_gint {x : Str} {i : Int} {t : Tok} (hg : Gl X x) (hm : X.mg x = some (.int i t)) (hd : (x == ("__debug__" : Str)) = false := by decide) : EV X B W (.Name x pos) (cst (.int i)) := e_const (v := .int i) (pe_glob hg hm ⟨t, rfl⟩ hd) fun _ => rep_int
end

section
variable {K : PySem.W.Frag} {mg : MG} {B : Bx} {F H H1 : Hp} {r : Res} {v : V}
theorem see_int {i : Int} (hs : Same B.H0 H1) (h : RepRes K mg B F H H1 r v) (e : r.pv = .int i) : v = .int i := by
  rcases h.see hs with ⟨p, rfl, h⟩ | ⟨n, xs, e2, _⟩
  · have e' : p = .int i := e
    subst e'
    simpa only [RepRes, Rep] using h
  · rw [e] at e2; cases e2
theorem see_bl {i : Bool} (hs : Same B.H0 H1) (h : RepRes K mg B F H H1 r v) (e : r.pv = .bl i) : v = .bl i := by
  rcases h.see hs with ⟨p, rfl, h⟩ | ⟨n, xs, e2, _⟩
  · have e' : p = .bl i := e
    subst e'
    simpa only [RepRes, Rep] using h
  · rw [e] at e2; cases e2
theorem see_str {i : Str} (hs : Same B.H0 H1) (h : RepRes K mg B F H H1 r v) (e : r.pv = .str i) : v = .str i := by
  rcases h.see hs with ⟨p, rfl, h⟩ | ⟨n, xs, e2, _⟩
  · have e' : p = .str i := e
    subst e'
    simpa only [RepRes, Rep] using h
  · rw [e] at e2; cases e2
theorem see_non (hs : Same B.H0 H1) (h : RepRes K mg B F H H1 r v) (e : r.pv = .non) : v = .non := by
  rcases h.see hs with ⟨p, rfl, h⟩ | ⟨n, xs, e2, _⟩
  · have e' : p = .non := e
    subst e'
    simpa only [RepRes, Rep] using h
  · rw [e] at e2; cases e2
theorem see_tup {xs : List PV} (hs : Same B.H0 H1) (h : RepRes K mg B F H H1 r v) (e : r.pv = .tup xs) : r = .val (.tup xs) ∧ ∃ a vs, v = .ref a ∧ SqT K F a vs ∧ AllR (Rep K mg F) xs vs := by
  rcases h.see hs with ⟨p, rfl, h⟩ | ⟨n, xs, e2, _⟩
  · have e' : p = .tup _ := e
    subst e'
    simp only [RepRes, Rep] at h
    obtain ⟨a, vs, e1, h1, h2⟩ := h
    exact ⟨rfl, a, vs, e1, h1, repL_iff.mp h2⟩
  · rw [e] at e2; cases e2
theorem see_scr {ns : List Int} (hs : Same B.H0 H1) (h : RepRes K mg B F H H1 r v) (e : r.pv = .scr ns) : ∃ a, v = .ref a ∧ SqL K F a (ns.map V.int) := by
  rcases h.see hs with ⟨p, rfl, h⟩ | ⟨n, xs, e2, _⟩
  · have e' : p = .scr _ := e
    subst e'
    simpa only [RepRes, Rep] using h
  · rw [e] at e2; cases e2
theorem see_lst {xs : List PV} (hs : Same B.H0 H1) (hf : Same F H1) (h : RepRes K mg B F H H1 r v) (e : r.pv = .lst xs) : ∃ a vs, v = .ref a ∧ H1 a = some (.lst vs) ∧ vs.length = xs.length := by
  rcases h.see hs with ⟨p, rfl, h⟩ | ⟨n, ys, e2, a, vs, e3, h1, h2⟩
  · have e' : p = .lst _ := e
    subst e'
    simp only [RepRes, Rep] at h
    obtain ⟨a, vs, e1, h1, h2⟩ := h
    exact ⟨a, vs, e1, hf _ _ h1, (repL_iff.mp h2).length⟩
  · rw [e] at e2; cases e2; exact ⟨a, vs, e3, h1, h2.length⟩
def Res.flat : Res → Option (List PV)
  | .val (.lst xs) => some xs
  | .val (.tup xs) => some xs
  | .bor 0 xs => some xs
  | .lend 0 xs => some xs
  | .new 0 xs => some xs
  | _ => none
theorem see_flat {xs : List PV} (hs : Same B.H0 H1) (hf : Same F H1) (h : RepRes K mg B F H H1 r v) (e : r.flat = some xs) : ∃ a vs, v = .ref a ∧ AllR (Rep K mg F) xs vs ∧ ((r.pv = .lst xs ∧ H1 a = some (.lst vs)) ∨ (r.pv = .tup xs ∧ SqT K F a vs)) := by
  have key : ∀ {G : Hp} {ys : List PV}, (∃ a vs, v = .ref a ∧ G a = some (.lst vs) ∧ AllR (RepE K mg F G 0) ys vs) → Same G H1 → r.pv = .lst ys → ys = xs → ∃ a vs, v = .ref a ∧ AllR (Rep K mg F) xs vs ∧ ((r.pv = .lst xs ∧ H1 a = some (.lst vs)) ∨ (r.pv = .tup xs ∧ SqT K F a vs)) := by
    intro G ys h hg hp e
    subst e
    obtain ⟨a, vs, e1, h1, h2⟩ := h
    exact ⟨a, vs, e1, h2.imp fun _ _ h => h, .inl ⟨hp, hg _ _ h1⟩⟩
  cases r with
  | val p =>
    cases p with
    | lst ys =>
      have e : some ys = some xs := e
      cases e
      have h : Rep K mg F (.lst xs) v := h
      simp only [Rep] at h
      obtain ⟨a, vs, e1, h1, h2⟩ := h
      exact ⟨a, vs, e1, repL_iff.mp h2, .inl ⟨rfl, hf _ _ h1⟩⟩
    | tup ys =>
      have e : some ys = some xs := e
      cases e
      have h : Rep K mg F (.tup xs) v := h
      simp only [Rep] at h
      obtain ⟨a, vs, e1, h1, h2⟩ := h
      exact ⟨a, vs, e1, repL_iff.mp h2, .inr ⟨rfl, h1⟩⟩
    | _ => cases e
  | bor n ys =>
    cases n with
    | zero => exact key h hs rfl (Option.some.inj e)
    | succ n => cases e
  | lend n ys =>
    cases n with
    | zero => exact key h (.refl _) rfl (Option.some.inj e)
    | succ n => cases e
  | new n ys =>
    cases n with
    | zero => obtain ⟨L, h1, _⟩ := h; exact key h1.read (.refl _) rfl (Option.some.inj e)
    | succ n => cases e
end
end
end Pv
namespace Pv
open PySem PySem.Spec L2
noncomputable section

def mulOk (i j : Int) : Prop := CMul i j ∨ CMulW i j
instance (i j : Int) : Decidable (mulOk i j) := Classical.propDecidable _
def divOk (j : Int) : Prop := j ≠ 0 ∧ j.natAbs.log2 < 9000
instance (j : Int) : Decidable (divOk j) := Classical.propDecidable _
def powOk (i j : Int) : Prop := CPow i j
instance (i j : Int) : Decidable (powOk i j) := Classical.propDecidable _
def addV (x y : Res) : R Res := match x.pv, y.pv with
  | .int i, .int j => .ok (.val (.int (i + j)))
  | .str a, .str b => if a.length + b.length ≤ sizeLine then .ok (.val (.str (a ++ b))) else .bad
  | .tup a, .tup b => if a.length + b.length ≤ sizeLine then .ok (.val (.tup (a ++ b))) else .bad
  | .lst _, .lst _ => match x.flat, y.flat with
    | some a, some b => if a.length + b.length ≤ sizeLine then .ok (.new 0 (a ++ b)) else .bad
    | _, _ => .bad
  | _, _ => .bad
def subV (x y : Res) : R Res := match x.pv, y.pv with
  | .int i, .int j => .ok (.val (.int (i - j)))
  | _, _ => .bad
def mulV (x y : Res) : R Res := match x.pv, y.pv with
  | .int i, .int j => if mulOk i j then .ok (.val (.int (i * j))) else .bad
  | .lst _, .int k => match x.flat with
    | some a => if -(2 ^ 63) ≤ k ∧ k < 2 ^ 63 ∧ a.length * k.toNat ≤ sizeLine then .ok (.new 0 (List.replicate k.toNat a).flatten) else .bad
    | none => .bad
  | _, _ => .bad
def fdivV (x y : Res) : R Res := match x.pv, y.pv with
  | .int i, .int j => if divOk j then .ok (.val (.int (i.fdiv j))) else .bad
  | _, _ => .bad
def modV (x y : Res) : R Res := match x.pv, y.pv with
  | .int i, .int j => if j ≠ 0 then .ok (.val (.int (i.fmod j))) else .bad
  | _, _ => .bad
def powV (x y : Res) : R Res := match x.pv, y.pv with
  | .int i, .int j => if powOk i j then .ok (.val (.int (i ^ j.toNat))) else .bad
  | _, _ => .bad
def negV (x : Res) : R Res := match x.pv with
  | .int i => .ok (.val (.int (-i)))
  | _ => .bad
def notV (x : Res) : R Res := match x.pv with
  | .bl b => .ok (.val (.bl (!b)))
  | _ => .bad
mutual
def PV.toD : PV → PyData
  | .non => .none
  | .bl b => .bool b
  | .int i => .int i
  | .str x => .str x
  | .tup xs => .tuple (toDs xs)
  | .lst xs => .list (toDs xs)
  | .scr ns => .list (ns.map .int)
  | .ins _ _ => .dict []
def toDs : List PV → List PyData
  | [] => []
  | x :: xs => x.toD :: toDs xs
end
def eqB (p q : PV) : Option Bool := match p, q with
  | .int i, .int j => some (decide (i = j))
  | .bl i, .bl j => some (decide (i = j))
  | .str i, .str j => some (decide (i = j))
  | .non, .non => some true
  | p, q => if SeqAt.shaped p.toD = true ∧ SeqAt.shaped q.toD = true then some (PyData.eqv p.toD q.toD) else none
def eqV (x y : Res) : R Res := match eqB x.pv y.pv with
  | some b => .ok (.val (.bl b))
  | none => .bad
def neV (x y : Res) : R Res := match eqB x.pv y.pv with
  | some b => .ok (.val (.bl (!b)))
  | none => .bad
def ltV (x y : Res) : R Res := match x.pv, y.pv with
  | .int i, .int j => .ok (.val (.bl (decide (i < j))))
  | _, _ => .bad
def leV (x y : Res) : R Res := match x.pv, y.pv with
  | .int i, .int j => .ok (.val (.bl (decide (i ≤ j))))
  | _, _ => .bad
def gtV (x y : Res) : R Res := match x.pv, y.pv with
  | .int i, .int j => .ok (.val (.bl (decide (j < i))))
  | _, _ => .bad
def geV (x y : Res) : R Res := match x.pv, y.pv with
  | .int i, .int j => .ok (.val (.bl (decide (j ≤ i))))
  | _, _ => .bad
def PV.isNon : PV → Bool
  | .non => true
  | _ => false
def isNV (x : Res) : R Res := .ok (.val (.bl x.pv.isNon))
def notNV (x : Res) : R Res := .ok (.val (.bl (!x.pv.isNon)))
def isN2 (x y : Res) : R Res := if y.pv.isNon = true then isNV x else .bad
def notN2 (x y : Res) : R Res := if y.pv.isNon = true then notNV x else .bad


section
variable {K : PySem.W.Frag} {mg : MG} {B : Bx}
theorem fin_int {F H1 : Hp} {Q : VK} {i : Int} (hf : Same F H1) (q : ∀ v F' H', Ext F H1 F' H' → RepRes K mg B F' H1 H' (.val (.int i)) v → Q v H') : Q (.int i) H1 := q _ F H1 (.refl hf) (rep_int (K := K) (mg := mg) (F := F))
theorem fin_bl {F H1 : Hp} {Q : VK} {i : Bool} (hf : Same F H1) (q : ∀ v F' H', Ext F H1 F' H' → RepRes K mg B F' H1 H' (.val (.bl i)) v → Q v H') : Q (.bl i) H1 := q _ F H1 (.refl hf) (rep_bl (K := K) (mg := mg) (F := F))
theorem fin_str {F H1 : Hp} {Q : VK} {i : Str} (hf : Same F H1) (q : ∀ v F' H', Ext F H1 F' H' → RepRes K mg B F' H1 H' (.val (.str i)) v → Q v H') : Q (.str i) H1 := q _ F H1 (.refl hf) (rep_str (K := K) (mg := mg) (F := F))
theorem fin_tup {F H1 : Hp} {Q : VK} {xs : List PV} {vs : List V} (hf : Same F H1) (ha : AllR (Rep K mg F) xs vs) (q : ∀ v F' H', Ext F H1 F' H' → RepRes K mg B F' H1 H' (.val (.tup xs)) v → Q v H') :
    ∀ p, H1 p = none → Q (.ref p) (upd H1 p (.tup vs)) := fun p hp => by
  have x := Ext.add (o := .tup vs) hf hp
  refine q _ _ _ x ?_
  simp only [RepRes, Rep]
  exact ⟨p, vs, rfl, SqT.of upd_same, repL_iff.mpr (ha.imp fun _ _ h => Rep.mono x.f h)⟩
theorem AllR.allO {F H : Hp} : ∀ {xs : List PV} {vs : List V}, AllR (Rep K mg F) xs vs → AllO (RepO K mg F H 0) xs vs []
  | [], _, e => ⟨e, rfl⟩
  | x :: xs, _, ⟨v, r, e, h1, h2⟩ => ⟨v, r, [], [], e, rfl, ⟨rfl, h1⟩, AllR.allO h2⟩
theorem fin_lst {F H1 : Hp} {Q : VK} {xs : List PV} {vs : List V} (hf : Same F H1) (ha : AllR (Rep K mg F) xs vs) (q : ∀ v F' H', Ext F H1 F' H' → RepRes K mg B F' H1 H' (.new 0 xs) v → Q v H') :
    ∀ p, H1 p = none → Q (.ref p) (upd H1 p (.lst vs)) := fun p hp => by
  have x := Ext.lay (o := .lst vs) hf hp
  refine q _ _ _ x ?_
  refine ⟨[p], ⟨p, vs, [], rfl, upd_same, rfl, ha.allO⟩, by simp, fun a ha => ?_⟩
  have e : a = p := by simpa using ha
  rw [e]
  exact ⟨hf.free hp, hp⟩
theorem len_of {F : Hp} {xs : List PV} {vs : List V} (h : AllR (Rep K mg F) xs vs) : vs.length = xs.length := h.length

abbrev rAddI : R2 := rI0 fun i j => .int (i + j)
abbrev rAddS : R2 := fun x y H Q => ∃ i j, x = .str i ∧ y = .str j ∧ i.length + j.length ≤ sizeLine ∧ Q (.str (i ++ j)) H
abbrev rAddAll (K : PySem.W.Frag) : R2 := fun x y H Q => rAddI x y H Q ∨ (fun x y H Q => rAddS x y H Q ∨ (fun x y H Q => rCatA K x y H Q ∨ rCat x y H Q) x y H Q) x y H Q
theorem op2_add : Op2 K mg B (rAddAll K) addV := by
  intro F H H1 r1 r2 v1 v2 Q hs hf hh h1 h2 r3 e q
  unfold addV at e
  split at e
  · rename_i i j e1 e2
    cases e
    exact .inl ⟨i, j, see_int hs h1 e1, see_int hs h2 e2, fin_int hf q⟩
  · rename_i i j e1 e2
    split at e
    · rename_i hl
      cases e
      exact .inr (.inl ⟨i, j, see_str hs h1 e1, see_str hs h2 e2, hl, fin_str hf q⟩)
    · cases e
  · rename_i xs ys e1 e2
    split at e
    · rename_i hl
      cases e
      obtain ⟨_, a, vs, rfl, s1, a1⟩ := see_tup hs h1 e1
      obtain ⟨_, b, ws, rfl, s2, a2⟩ := see_tup hs h2 e2
      have k : ∀ {zs : List PV} {us : List V} {c : Addr}, SqT K F c us → AllR (Rep K mg F) zs us → zs = xs ++ ys → Q (.ref c) H1 := fun {zs us c} s3 a3 e3 => by
        refine q _ F H1 (.refl hf) ?_
        simp only [RepRes, Rep]
        exact ⟨c, us, rfl, s3, repL_iff.mpr (by rw [← e3]; exact a3)⟩
      refine .inr (.inr (.inl ⟨a, b, vs, ws, rfl, rfl, same_tup hf s1, same_tup hf s2, by rw [a1.length, a2.length]; exact hl, fun e3 => ?_, fun _ e3 => ?_, fun _ _ p hp => fin_tup hf (a1.append a2) q p hp⟩))
      · refine k s2 a2 ?_
        have : xs.length = 0 := by rw [← a1.length, e3]; rfl
        rw [List.length_eq_zero_iff.mp this]; rfl
      · refine k s1 a1 ?_
        have : ys.length = 0 := by rw [← a2.length, e3]; rfl
        rw [List.length_eq_zero_iff.mp this, List.append_nil]
    · cases e
  · rename_i xs ys e1 e2
    split at e
    · rename_i a b f1 f2
      split at e
      · rename_i hl
        cases e
        obtain ⟨l, vs, rfl, a1, s1⟩ := see_flat hs hf h1 f1
        obtain ⟨m, ws, rfl, a2, s2⟩ := see_flat hs hf h2 f2
        rcases s1 with ⟨_, s1⟩ | ⟨z, _⟩
        · rcases s2 with ⟨_, s2⟩ | ⟨z, _⟩
          · exact .inr (.inr (.inr ⟨l, m, vs, ws, rfl, rfl, s1, s2, by rw [a1.length, a2.length]; exact hl, fun p hp => fin_lst hf (a1.append a2) q p hp⟩))
          · rw [z] at e2; cases e2
        · rw [z] at e1; cases e1
      · cases e
    · cases e
  · cases e
theorem opr_add {X : Cx} : OpR X (binaryOp .Add) (rAddAll X.K) := op_add.or (op_add_str.or (op_catA.or op_cat))
theorem nox_add : NoX2 addV := by
  intro r1 r2 x e
  unfold addV at e
  split at e <;> (try (split at e)) <;> (try (split at e)) <;> cases e
end
section
variable {K : PySem.W.Frag} {mg : MG} {B : Bx}
theorem op2_sub : Op2 K mg B (rI0 fun i j => .int (i - j)) subV := by
  intro F H H1 r1 r2 v1 v2 Q hs hf hh h1 h2 r3 e q
  unfold subV at e
  split at e
  · rename_i i j e1 e2
    cases e
    exact ⟨i, j, see_int hs h1 e1, see_int hs h2 e2, fin_int hf q⟩
  · cases e
theorem nox_sub : NoX2 subV := by
  intro r1 r2 x e
  unfold subV at e
  split at e <;> cases e
abbrev rMulAll : R2 := fun x y H Q => (rI CMul fun i j => .int (i * j)) x y H Q ∨ (fun x y H Q => (rI CMulW fun i j => .int (i * j)) x y H Q ∨ rRep x y H Q) x y H Q
theorem AllR.reps {F : Hp} {xs : List PV} {vs : List V} (h : AllR (Rep K mg F) xs vs) : ∀ n : Nat, AllR (Rep K mg F) (List.replicate n xs).flatten (List.replicate n vs).flatten
  | 0 => rfl
  | n + 1 => by
    rw [List.replicate_succ, List.replicate_succ, List.flatten_cons, List.flatten_cons]
    exact h.append (AllR.reps h n)
theorem op2_mul : Op2 K mg B rMulAll mulV := by
  intro F H H1 r1 r2 v1 v2 Q hs hf hh h1 h2 r3 e q
  unfold mulV at e
  split at e
  · rename_i i j e1 e2
    split at e
    · rename_i hm
      cases e
      rcases hm with hm | hm
      · exact .inl ⟨i, j, see_int hs h1 e1, see_int hs h2 e2, hm, fin_int hf q⟩
      · exact .inr (.inl ⟨i, j, see_int hs h1 e1, see_int hs h2 e2, hm, fin_int hf q⟩)
    · cases e
  · rename_i xs k e1 e2
    split at e
    · rename_i a f1
      split at e
      · rename_i hl
        cases e
        obtain ⟨l, vs, rfl, a1, s1⟩ := see_flat hs hf h1 f1
        rcases s1 with ⟨_, s1⟩ | ⟨z, _⟩
        · exact .inr (.inr ⟨l, k, vs, rfl, see_int hs h2 e2, s1, hl.1, hl.2.1, by rw [a1.length]; exact hl.2.2, fun p hp => fin_lst hf (a1.reps _) q p hp⟩)
        · rw [z] at e1; cases e1
      · cases e
    · cases e
  · cases e
theorem opr_mul {X : Cx} : OpR X (binaryOp .Mult) rMulAll := op_mul.or (op_mulW.or op_rep)
theorem nox_mul : NoX2 mulV := by
  intro r1 r2 x e
  unfold mulV at e
  split at e <;> (try (split at e)) <;> (try (split at e)) <;> cases e
theorem opr_fdiv {X : Cx} : OpR X (binaryOp .FloorDiv) (rI (fun _ j => divOk j) fun i j => .int (i.fdiv j)) := opI fun i j _ _ _ _ _ hc q => PyProof.Rows.floordiv_int hc.1 q (.inl (PyProof.noPylong_of_log2 hc.2))
theorem op2_fdiv : Op2 K mg B (rI (fun _ j => divOk j) fun i j => .int (i.fdiv j)) fdivV := by
  intro F H H1 r1 r2 v1 v2 Q hs hf hh h1 h2 r3 e q
  unfold fdivV at e
  split at e
  · rename_i i j e1 e2
    split at e
    · rename_i hm
      cases e
      exact ⟨i, j, see_int hs h1 e1, see_int hs h2 e2, hm, fin_int hf q⟩
    · cases e
  · cases e
theorem nox_fdiv : NoX2 fdivV := by
  intro r1 r2 x e
  unfold fdivV at e
  split at e <;> (try (split at e)) <;> cases e
theorem op2_mod : Op2 K mg B (rI (fun _ j => j ≠ 0) fun i j => .int (i.fmod j)) modV := by
  intro F H H1 r1 r2 v1 v2 Q hs hf hh h1 h2 r3 e q
  unfold modV at e
  split at e
  · rename_i i j e1 e2
    split at e
    · rename_i hm
      cases e
      exact ⟨i, j, see_int hs h1 e1, see_int hs h2 e2, hm, fin_int hf q⟩
    · cases e
  · cases e
theorem nox_mod : NoX2 modV := by
  intro r1 r2 x e
  unfold modV at e
  split at e <;> (try (split at e)) <;> cases e
theorem op2_pow : Op2 K mg B (rI CPow fun i j => .int (i ^ j.toNat)) powV := by
  intro F H H1 r1 r2 v1 v2 Q hs hf hh h1 h2 r3 e q
  unfold powV at e
  split at e
  · rename_i i j e1 e2
    split at e
    · rename_i hm
      cases e
      exact ⟨i, j, see_int hs h1 e1, see_int hs h2 e2, hm, fin_int hf q⟩
    · cases e
  · cases e
theorem nox_pow : NoX2 powV := by
  intro r1 r2 x e
  unfold powV at e
  split at e <;> (try (split at e)) <;> cases e
theorem op1_neg : Op1 K mg B (rU fun i => .int (-i)) negV := by
  intro F H H1 r1 v1 Q hs hf hh h1 r3 e q
  unfold negV at e
  split at e
  · rename_i i e1
    cases e
    exact ⟨i, see_int hs h1 e1, fin_int hf q⟩
  · cases e
theorem nox_neg : NoX1 negV := by
  intro r1 x e
  unfold negV at e
  split at e <;> cases e
end
section
variable {K : PySem.W.Frag} {mg : MG} {F H : Hp}
theorem canLay_ins (d : List (PyData × PyData)) : PyData.canLay0 (.dict d) = false := by simp only [PyData.canLay0]
mutual
theorem dp_of (hf : Same F H) : ∀ {p : PV} {v : V}, PyData.canLay0 p.toD = true → Rep K mg F p v → Dp K H v p.toD
  | .non, _, _, h => by simp only [Rep] at h; subst h; simp only [PV.toD]; exact .non
  | .bl _, _, _, h => by simp only [Rep] at h; subst h; simp only [PV.toD]; exact .bl _
  | .int _, _, _, h => by simp only [Rep] at h; subst h; simp only [PV.toD]; exact .int _
  | .str _, _, _, h => by simp only [Rep] at h; subst h; simp only [PV.toD]; exact .str _
  | .tup xs, _, c, h => by
    simp only [Rep] at h
    simp only [PV.toD, PyData.canLay0] at c ⊢
    obtain ⟨a, vs, rfl, h1, h2⟩ := h
    exact .tup (same_tup hf h1) (dps_of hf c h2)
  | .lst xs, _, c, h => by
    simp only [Rep] at h
    simp only [PV.toD, PyData.canLay0] at c ⊢
    obtain ⟨a, vs, rfl, h1, h2⟩ := h
    exact .lst (SqL.of (hf _ _ h1)) (dps_of hf c h2)
  | .scr ns, _, c, h => by
    simp only [Rep] at h
    simp only [PV.toD] at c ⊢
    obtain ⟨a, rfl, h1⟩ := h
    refine .lst (hf.seq h1) ?_
    clear h1 c
    induction ns with
    | nil => exact .nil
    | cons n r ih => exact .cons (.int n) ih
  | .ins c fs, _, d, h => by
    simp only [PV.toD] at d
    rw [canLay_ins] at d; cases d
theorem dps_of (hf : Same F H) : ∀ {xs : List PV} {vs : List V}, PyData.canLayAll0 (toDs xs) = true → RepL K mg F xs vs → DpAll K H vs (toDs xs)
  | [], _, _, h => by simp only [RepL] at h; subst h; simp only [toDs]; exact .nil
  | x :: xs, _, c, h => by
    simp only [RepL] at h
    simp only [toDs, PyData.canLayAll0, Bool.and_eq_true] at c ⊢
    obtain ⟨v, r, rfl, h1, h2⟩ := h
    exact .cons (dp_of hf c.1 h1) (dps_of hf c.2 h2)
end
theorem dpE_of (hf : Same F H) : ∀ {n : Nat} {p : PV} {v : V}, PyData.canLay0 p.toD = true → RepE K mg F H n p v → Dp K H v p.toD
  | 0, _, _, c, h => dp_of hf c h
  | n + 1, .lst xs, _, c, ⟨a, vs, e, h1, h2⟩ => by
    subst e
    simp only [PV.toD, PyData.canLay0] at c ⊢
    refine .lst (SqL.of h1) ?_
    clear h1
    induction xs generalizing vs with
    | nil =>
      have h2 : vs = [] := h2
      subst h2
      simp only [toDs]; exact .nil
    | cons x xs ih =>
      obtain ⟨v, r, e, q1, q2⟩ := h2
      subst e
      simp only [toDs, PyData.canLayAll0, Bool.and_eq_true] at c ⊢
      exact .cons (dpE_of hf c.1 q1) (ih _ q2 c.2)
  | _ + 1, .non, _, _, h => h.elim
  | _ + 1, .bl _, _, _, h => h.elim
  | _ + 1, .int _, _, _, h => h.elim
  | _ + 1, .str _, _, _, h => h.elim
  | _ + 1, .tup _, _, _, h => h.elim
  | _ + 1, .scr _, _, _, h => h.elim
  | _ + 1, .ins _ _, _, _, h => h.elim
end
section
variable {K : PySem.W.Frag} {mg : MG} {B : Bx} {F H H1 : Hp} {r : Res} {v : V}
theorem see_data (hs : Same B.H0 H1) (hf : Same F H1) (h : RepRes K mg B F H H1 r v) (c : SeqAt.shaped r.pv.toD = true) : Dp K H1 v r.pv.toD := by
  have c := SeqAt.canLay_of_shaped c
  cases r with
  | val p => exact dp_of hf c h
  | bor n xs => exact dpE_of hf c (RepE.mono (.refl _) hs h)
  | lend n xs => exact dpE_of hf c h
  | new n xs => obtain ⟨L, h1, _⟩ := h; exact dpE_of hf c h1.read
abbrev rEqAll (K : PySem.W.Frag) : R2 := fun x y H Q => rEq x y H Q ∨ rEqD K x y H Q
abbrev rNeAll (K : PySem.W.Frag) : R2 := fun x y H Q => rNe x y H Q ∨ rNeD K x y H Q
theorem eq_key {r1 r2 : Res} {v1 v2 : V} {b : Bool} (hs : Same B.H0 H1) (hf : Same F H1) (h1 : RepRes K mg B F H H1 r1 v1) (h2 : RepRes K mg B F H H1 r2 v2) (e : eqB r1.pv r2.pv = some b) :
    (scal v1 v2 = true ∧ b = decide (v1 = v2)) ∨ ∃ d e, Dp K H1 v1 d ∧ Dp K H1 v2 e ∧ SeqAt.shaped d = true ∧ SeqAt.shaped e = true ∧ b = PyData.eqv d e := by
  unfold eqB at e
  split at e
  · rename_i i j e1 e2
    cases see_int hs h1 e1; cases see_int hs h2 e2
    cases e
    exact .inl ⟨rfl, decide_eq_decide.mpr ⟨fun z => by rw [z], fun z => V.int.inj z⟩⟩
  · rename_i i j e1 e2
    cases see_bl hs h1 e1; cases see_bl hs h2 e2
    cases e
    exact .inl ⟨rfl, decide_eq_decide.mpr ⟨fun z => by rw [z], fun z => V.bl.inj z⟩⟩
  · rename_i i j e1 e2
    cases see_str hs h1 e1; cases see_str hs h2 e2
    cases e
    exact .inl ⟨rfl, decide_eq_decide.mpr ⟨fun z => by rw [z], fun z => V.str.inj z⟩⟩
  · rename_i e1 e2
    cases see_non hs h1 e1; cases see_non hs h2 e2
    cases e
    exact .inl ⟨rfl, (decide_eq_true rfl).symm⟩
  · split at e
    · rename_i hc
      cases e
      exact .inr ⟨_, _, see_data hs hf h1 hc.1, see_data hs hf h2 hc.2, hc.1, hc.2, rfl⟩
    · cases e
theorem op2_eq : Op2 K mg B (rEqAll K) eqV := by
  intro F H H1 r1 r2 v1 v2 Q hs hf hh h1 h2 r3 e q
  unfold eqV at e
  split at e
  · rename_i b eb
    cases e
    rcases eq_key hs hf h1 h2 eb with ⟨s, rfl⟩ | ⟨d, e, d1, d2, s1, s2, rfl⟩
    · exact .inl ⟨s, fin_bl hf q⟩
    · exact .inr ⟨d, e, d1, d2, s1, s2, fin_bl hf q⟩
  · cases e
theorem op2_ne : Op2 K mg B (rNeAll K) neV := by
  intro F H H1 r1 r2 v1 v2 Q hs hf hh h1 h2 r3 e q
  unfold neV at e
  split at e
  · rename_i b eb
    cases e
    rcases eq_key hs hf h1 h2 eb with ⟨s, rfl⟩ | ⟨d, e, d1, d2, s1, s2, rfl⟩
    · exact .inl ⟨s, fin_bl hf q⟩
    · exact .inr ⟨d, e, d1, d2, s1, s2, fin_bl hf q⟩
  · cases e
theorem nox_eq : NoX2 eqV := by
  intro r1 r2 x e
  unfold eqV at e
  split at e <;> cases e
theorem nox_ne : NoX2 neV := by
  intro r1 r2 x e
  unfold neV at e
  split at e <;> cases e
theorem opr_eq {X : Cx} (hu : X.A.units + 64 < cLine) : OpR X (compareOp .Eq) (rEqAll X.K) := op_eq.or (op_eqD hu)
theorem opr_ne {X : Cx} (hu : X.A.units + 64 < cLine) : OpR X (compareOp .NotEq) (rNeAll X.K) := op_ne.or (op_neD hu)
theorem op2_cmp {p : Int → Int → Bool} {k : Res → Res → R Res} (hk : ∀ x y, k x y = match x.pv, y.pv with | .int i, .int j => .ok (.val (.bl (p i j))) | _, _ => .bad) : Op2 K mg B (rI0 fun i j => .bl (p i j)) k := by
  intro F H H1 r1 r2 v1 v2 Q hs hf hh h1 h2 r3 e q
  rw [hk] at e
  split at e
  · rename_i i j e1 e2
    cases e
    exact ⟨i, j, see_int hs h1 e1, see_int hs h2 e2, fin_bl hf q⟩
  · cases e
theorem nox_cmp {p : Int → Int → Bool} {k : Res → Res → R Res} (hk : ∀ x y, k x y = match x.pv, y.pv with | .int i, .int j => .ok (.val (.bl (p i j))) | _, _ => .bad) : NoX2 k := by
  intro r1 r2 x e
  rw [hk] at e
  split at e <;> cases e
theorem is_non (hs : Same B.H0 H1) (h : RepRes K mg B F H H1 r v) : decide (v = .non) = r.pv.isNon := by
  rcases h.see hs with ⟨p, rfl, h2⟩ | ⟨n, xs, e2, a, vs, e3, _⟩
  · cases p with
    | non => simp only [Rep] at h2; subst h2; rfl
    | bl _ => simp only [Rep] at h2; subst h2; rfl
    | int _ => simp only [Rep] at h2; subst h2; rfl
    | str _ => simp only [Rep] at h2; subst h2; rfl
    | tup _ => simp only [Rep] at h2; obtain ⟨a, vs, rfl, _⟩ := h2; rfl
    | lst _ => simp only [Rep] at h2; obtain ⟨a, vs, rfl, _⟩ := h2; rfl
    | scr _ => simp only [Rep] at h2; obtain ⟨a, rfl, _⟩ := h2; rfl
    | ins _ _ => simp only [Rep] at h2; obtain ⟨a, _, _, _, rfl, _⟩ := h2; rfl
  · rw [e2, e3]; rfl
theorem op2_isN : Op2 K mg B (fun x y H Q => y = .non ∧ Q (.bl (decide (x = .non))) H) isN2 := by
  intro F H H1 r1 r2 v1 v2 Q hs hf hh h1 h2 r3 e q
  unfold isN2 at e
  split at e
  · rename_i hn
    cases e
    have e2 := is_non hs h2
    rw [hn] at e2
    exact ⟨of_decide_eq_true e2, by rw [is_non hs h1]; exact fin_bl hf q⟩
  · cases e
theorem op2_notN : Op2 K mg B (fun x y H Q => y = .non ∧ Q (.bl (!decide (x = .non))) H) notN2 := by
  intro F H H1 r1 r2 v1 v2 Q hs hf hh h1 h2 r3 e q
  unfold notN2 at e
  split at e
  · rename_i hn
    cases e
    have e2 := is_non hs h2
    rw [hn] at e2
    exact ⟨of_decide_eq_true e2, by rw [is_non hs h1]; exact fin_bl hf q⟩
  · cases e
theorem nox_isN : NoX2 isN2 := by
  intro r1 r2 x e
  unfold isN2 at e
  split at e <;> cases e
theorem nox_notN : NoX2 notN2 := by
  intro r1 r2 x e
  unfold notN2 at e
  split at e <;> cases e
end
end
end Pv
namespace Pv
open PySem PySem.Spec L2
noncomputable section

def elB (n : Nat) (p : PV) : R Res := match n, p with
  | 0, p => .ok (.val p)
  | n + 1, .lst ys => .ok (.bor n ys)
  | _, _ => .bad
def elL (n : Nat) (p : PV) : R Res := match n, p with
  | 0, p => .ok (.val p)
  | n + 1, .lst ys => .ok (.lend n ys)
  | _, _ => .bad
def ixV (x i : Res) : R Res := match i.pv with
  | .int k => match x with
    | .val (.lst xs) => match atI xs k with | some p => .ok (.val p) | none => .bad
    | .val (.tup xs) => match atI xs k with | some p => .ok (.val p) | none => .bad
    | .val (.scr ns) => match atI ns k with | some p => .ok (.val (.int p)) | none => .bad
    | .val (.str s) => if s.length ≤ sizeLine then (match atI s.cps.toList k with | some c => .ok (.val (.str ⟨#[c]⟩)) | none => .bad) else .bad
    | .bor n xs => match atI xs k with | some p => elB n p | none => .bad
    | .lend n xs => match atI xs k with | some p => elL n p | none => .bad
    | .new n xs => match atI xs k with | some p => elL n p | none => .bad
    | _ => .bad
  | _ => .bad
theorem AllR.at {α β : Type} {R : α → β → Prop} {xs : List α} {vs : List β} {k : Int} {x : α} (h : AllR R xs vs) (e : atI xs k = some x) : ∃ v, atI vs k = some v ∧ R x v := by
  unfold atI at e ⊢
  rw [h.length]
  cases q : ixN xs.length k with
  | none => rw [q] at e; cases e
  | some j =>
    rw [q] at e
    exact h.get (i := j) e
section
variable {K : PySem.W.Frag} {mg : MG} {B : Bx}
theorem op2_ix : Op2 K mg B (rIx K) ixV := by
  intro F H H1 r1 r2 v1 v2 Q hs hf hh h1 h2 r3 e q
  unfold ixV at e
  split at e
  · rename_i k ek
    have e2 := see_int hs h2 ek
    have fin : ∀ {p : PV} {v : V}, Rep K mg F p v → r3 = .val p → Q v H1 := fun h z => q _ F H1 (.refl hf) (by rw [z]; exact h)
    split at e
    · rename_i xs
      simp only [RepRes, Rep] at h1
      obtain ⟨a, vs, rfl, g1, g2⟩ := h1
      split at e
      · rename_i p ep
        cases e
        obtain ⟨v, ev, rv⟩ := (repL_iff.mp g2).at ep
        exact .inl ⟨a, vs, k, v, rfl, e2, SqL.of (hf _ _ g1), ev, fin rv rfl⟩
      · cases e
    · rename_i xs
      simp only [RepRes, Rep] at h1
      obtain ⟨a, vs, rfl, g1, g2⟩ := h1
      split at e
      · rename_i p ep
        cases e
        obtain ⟨v, ev, rv⟩ := (repL_iff.mp g2).at ep
        exact .inr (.inl ⟨a, vs, k, v, rfl, e2, same_tup hf g1, ev, fin rv rfl⟩)
      · cases e
    · rename_i ns
      simp only [RepRes, Rep] at h1
      obtain ⟨a, rfl, g1⟩ := h1
      split at e
      · rename_i p ep
        cases e
        refine .inl ⟨a, _, k, .int p, rfl, e2, hf.seq g1, ?_, fin rep_int rfl⟩
        unfold atI at ep ⊢
        rw [List.length_map]
        cases q : ixN ns.length k with
        | none => rw [q] at ep; cases ep
        | some j =>
          rw [q] at ep
          show (ns.map V.int)[j]? = _
          rw [List.getElem?_map, show ns[j]? = some p from ep]; rfl
      · cases e
    · rename_i z
      have g1 : v1 = .str z := see_str hs h1 rfl
      subst g1
      split at e
      · rename_i hl
        split at e
        · rename_i c ec
          cases e
          exact .inr (.inr ⟨z, k, c, rfl, e2, hl, ec, fin rep_str rfl⟩)
        · cases e
      · cases e
    · rename_i n xs
      obtain ⟨a, vs, rfl, g1, g2⟩ := h1
      split at e
      · rename_i p ep
        obtain ⟨v, ev, rv⟩ := AllR.at g2 ep
        refine .inl ⟨a, vs, k, v, rfl, e2, SqL.of (hs _ _ g1), ev, q _ F H1 (.refl hf) ?_⟩
        unfold elB at e
        split at e
        · cases e; exact rv
        · cases e; exact rv
        · cases e
      · cases e
    · rename_i n xs
      obtain ⟨a, vs, rfl, g1, g2⟩ := h1
      split at e
      · rename_i p ep
        obtain ⟨v, ev, rv⟩ := AllR.at g2 ep
        refine .inl ⟨a, vs, k, v, rfl, e2, SqL.of g1, ev, q _ F H1 (.refl hf) ?_⟩
        unfold elL at e
        split at e
        · cases e; exact rv
        · cases e; exact rv
        · cases e
      · cases e
    · rename_i n xs
      obtain ⟨L, g0, _⟩ := h1
      obtain ⟨a, vs, rfl, g1, g2⟩ := g0.read
      split at e
      · rename_i p ep
        obtain ⟨v, ev, rv⟩ := AllR.at g2 ep
        refine .inl ⟨a, vs, k, v, rfl, e2, SqL.of g1, ev, q _ F H1 (.refl hf) ?_⟩
        unfold elL at e
        split at e
        · cases e; exact rv
        · cases e; exact rv
        · cases e
      · cases e
    · cases e
  · cases e
theorem nox_elB {n : Nat} {p : PV} {x : XV} : elB n p ≠ .exc x := by
  intro e
  unfold elB at e
  split at e <;> cases e
theorem nox_elL {n : Nat} {p : PV} {x : XV} : elL n p ≠ .exc x := by
  intro e
  unfold elL at e
  split at e <;> cases e
theorem nox_ix : NoX2 ixV := by
  intro r1 r2 x e
  unfold ixV at e
  split at e
  · split at e
    · split at e <;> cases e
    · split at e <;> cases e
    · split at e <;> cases e
    · split at e
      · split at e <;> cases e
      · cases e
    · split at e
      · exact nox_elB e
      · cases e
    · split at e
      · exact nox_elL e
      · cases e
    · split at e
      · exact nox_elL e
      · cases e
    · cases e
  · cases e
end

structure OV (X : Cx) (B : Bx) (W : WX) (e : Option Expr) (f : Env → R (Option Int)) : Prop where
  run : PO X e (fun σ H Q => ∃ F ρ, SR X.K X.mg B F ρ σ H ∧ match f ρ with
    | .ok i => ∀ F' H', Ext F H F' H' → Q i H'
    | .exc x => ∀ c d F' H', Ext F H F' H' → RepX X.K X.mg F' H' x c d → W c d σ H'
    | .bad => False)
def noB : Env → R (Option Int) := fun _ => .ok none
def intB (f : VE) : Env → R (Option Int) := fun ρ => f ρ >>= fun r => match r.pv with | .int i => .ok (some i) | _ => .bad
theorem po_imp {X : Cx} {e : Option Expr} {t t' : TO} (h : PO X e t) (k : ∀ σ H Q, t' σ H Q → t σ H Q) : PO X e t' :=
  ⟨fun pins s σ H Q I q => h.run pins s σ H Q I (k σ H Q q)⟩
theorem o_none {X : Cx} {B : Bx} {W : WX} : OV X B W none noB := ⟨po_imp po_none fun σ H Q ⟨F, ρ, S, w⟩ => w F H (.refl S.ext.s)⟩
theorem o_some {X : Cx} {B : Bx} {W : WX} {e : Expr} {f : VE} (h : EV X B W e f) : OV X B W (some e) (intB f) := by
  refine ⟨po_imp (po_some h.run) fun σ H Q ⟨F, ρ, S, w⟩ => ⟨F, ρ, S, ?_⟩⟩
  unfold intB at w
  cases q : f ρ with
  | ok r =>
    rw [q] at w
    intro v F' H' x rr
    have w : (match (match r.pv with | .int i => R.ok (some i) | _ => .bad : R (Option Int)) with
      | .ok i => ∀ F' H', Ext F H F' H' → Q i H'
      | .exc x => ∀ c d F' H', Ext F H F' H' → RepX X.K X.mg F' H' x c d → W c d σ H'
      | .bad => False) := w
    cases ep : r.pv with
    | int i =>
      rw [ep] at w
      exact ⟨i, see_int (S.ext.h.trans x.h) rr ep, w F' H' x⟩
    | _ => rw [ep] at w; exact w.elim
  | exc y => rw [q] at w; exact w
  | bad => rw [q] at w; exact w.elim
def cutP {α : Type} (xs : List α) (lo hi : Option Int) : List α := (xs.drop (HT.sIx xs.length 0 lo)).take (HT.sIx xs.length xs.length hi - HT.sIx xs.length 0 lo)
def sliceV (x : Res) (lo hi : Option Int) : R Res := match x.pv with
  | .tup xs => .ok (.val (.tup (cutP xs lo hi)))
  | .lst _ => match x.flat with
    | some xs => .ok (.new 0 (cutP xs lo hi))
    | none => .bad
  | _ => .bad
abbrev rSlAll (K : PySem.W.Frag) : V → Option Int → Option Int → Hp → VK → Prop := fun x lo hi H Q => rSlA K x lo hi H Q ∨ rSlL K x lo hi H Q
theorem AllR.cut {K : PySem.W.Frag} {mg : MG} {F : Hp} {xs : List PV} {vs : List V} (h : AllR (Rep K mg F) xs vs) (lo hi : Option Int) : AllR (Rep K mg F) (cutP xs lo hi) (cutV vs lo hi) := by
  unfold cutP cutV
  rw [h.length]
  exact (h.drop _).take _
def sl3 (fa : VE) (fl fh : Env → R (Option Int)) : VE := fun ρ => fa ρ >>= fun x => fl ρ >>= fun l => fh ρ >>= fun h => sliceV x l h
theorem e_slice {X : Cx} {B : Bx} {W : WX} {a : Expr} {lo hi : Option Expr} {p2 pos : Pos} {fa : VE} {fl fh : Env → R (Option Int)} (ha : EV X B W a fa) (hl : OV X B W lo fl) (hh : OV X B W hi fh) :
    EV X B W (.Subscript a (.Slice lo hi none p2) pos) (sl3 fa fl fh) := by
  refine .of (pe_slice (r := rSlAll X.K) (sl_tupA.or sl_list) ha.run hl.run hh.run) fun σ H Q h => ?_
  refine want1 (k := fun ρ x => fl ρ >>= fun l => fh ρ >>= fun h => sliceV x l h) h fun F F1 H1 ρ r v S x rr w => ⟨F1, ρ, S.go x, ?_⟩
  cases q1 : fl ρ with
  | exc y => rw [q1] at w; intro c d F2 H2 x2 rx; exact w c d F2 H2 (x.trans x2) rx
  | bad => rw [q1] at w; exact w.elim
  | ok l =>
    rw [q1] at w
    intro F2 H2 x2
    refine ⟨F2, ρ, S.go (x.trans x2), ?_⟩
    cases q2 : fh ρ with
    | exc y => rw [q2] at w; intro c d F3 H3 x3 rx; exact w c d F3 H3 (x.trans (x2.trans x3)) rx
    | bad => rw [q2] at w; exact w.elim
    | ok u =>
      rw [q2] at w
      intro F3 H3 x3
      have x13 := x2.trans x3
      have rr3 := rr.ext x13
      have x03 := x.trans x13
      have hs : Same B.H0 H3 := S.ext.h.trans x03.h
      have w : WantE X.K X.mg B W F H σ Q (sliceV r l u) := w
      unfold sliceV at w
      split at w
      · rename_i xs e1
        obtain ⟨_, b, vs, rfl, s1, a1⟩ := see_tup hs rr3 e1
        refine .inl ⟨b, vs, rfl, same_tup x03.s s1, fun hc => ?_, fun _ p hp => ?_⟩
        · refine w _ F3 H3 x03 ?_
          simp only [RepRes, Rep]
          refine ⟨b, vs, rfl, s1, repL_iff.mpr ?_⟩
          have e : cutV vs l u = vs := by
            unfold cutV
            rw [hc.1, hc.2, List.drop_zero, Nat.sub_zero, List.take_length]
          rw [← e]
          exact a1.cut l u
        · exact fin_tup x03.s (a1.cut l u) (fun v F' H' x' rr' => w v F' H' (x03.trans x') (rr'.old x03.h)) p hp
      · rename_i xs e1
        split at w
        · rename_i ys f1
          obtain ⟨b, vs, rfl, a1, s1⟩ := see_flat hs x03.s rr3 f1
          rcases s1 with ⟨_, s1⟩ | ⟨z, _⟩
          · exact .inr ⟨b, vs, rfl, SqL.of s1, fun p hp => fin_lst x03.s (a1.cut l u) (fun v F' H' x' rr' => w v F' H' (x03.trans x') (rr'.old x03.h)) p hp⟩
          · rw [z] at e1; cases e1
        · exact w.elim
      · exact w.elim

abbrev VA := Env → R (List Res)
def WantA (K : PySem.W.Frag) (mg : MG) (B : Bx) (W : WX) (F H : Hp) (σ : L2.St) (Q : List V → Hp → Prop) : R (List Res) → Prop
  | .ok rs => ∀ vs F' H', Ext F H F' H' → AllR (RepRes K mg B F' H H') rs vs → Q vs H'
  | .exc x => ∀ c d F' H', Ext F H F' H' → RepX K mg F' H' x c d → W c d σ H'
  | .bad => False
def tVA (K : PySem.W.Frag) (mg : MG) (B : Bx) (W : WX) (f : VA) : TA := fun σ H Q => ∃ F ρ, SR K mg B F ρ σ H ∧ WantA K mg B W F H σ Q (f ρ)
structure AV (X : Cx) (B : Bx) (W : WX) (es : List Expr) (f : VA) : Prop where
  run : PA X es (tVA X.K X.mg B W f)
theorem pa_imp {X : Cx} {e : List Expr} {t t' : TA} (h : PA X e t) (k : ∀ σ H Q, t' σ H Q → t σ H Q) : PA X e t' :=
  ⟨fun pos pins s σ H Q I q => h.run pos pins s σ H Q I (k σ H Q q)⟩
def aNil : VA := fun _ => .ok []
def aCons (f : VE) (g : VA) : VA := fun ρ => f ρ >>= fun r => g ρ >>= fun rs => .ok (r :: rs)
section
variable {X : Cx} {B : Bx} {W : WX} {e : Expr} {es : List Expr} {f : VE} {g : VA} {pos : Pos}
theorem a_nil : AV X B W [] aNil := ⟨pa_imp pa_nil fun σ H Q ⟨F, ρ, S, w⟩ => w [] F H (.refl S.ext.s) rfl⟩
theorem a_cons (h : EV X B W e f) (hs : AV X B W es g) (hst : starEach (e :: es) X.env = (false, eval e X.env) :: starEach es X.env := by rfl) : AV X B W (e :: es) (aCons f g) := by
  refine ⟨pa_imp (pa_cons h.run hs.run hst) fun σ H Q ⟨F, ρ, S, w⟩ => ⟨F, ρ, S, ?_⟩⟩
  unfold aCons at w
  cases q : f ρ with
  | exc y => rw [q] at w; exact w
  | bad => rw [q] at w; exact w.elim
  | ok r =>
    rw [q] at w
    intro v F1 H1 x rr
    refine ⟨F1, ρ, S.go x, ?_⟩
    have w : WantA X.K X.mg B W F H σ Q (g ρ >>= fun rs => .ok (r :: rs)) := w
    cases q2 : g ρ with
    | exc y => rw [q2] at w; intro c d F2 H2 x2 rx; exact w c d F2 H2 (x.trans x2) rx
    | bad => rw [q2] at w; exact w.elim
    | ok rs =>
      rw [q2] at w
      intro vs F2 H2 x2 rr2
      exact w (v :: vs) F2 H2 (x.trans x2) ⟨v, vs, rfl, rr.ext x2, rr2.imp fun _ _ h => h.old x.h⟩
end
def stR : Res → R PV
  | .val p => .ok p
  | .new _ xs => .ok (.lst xs)
  | _ => .bad
def stAll : List Res → R (List PV)
  | [] => .ok []
  | r :: rs => stR r >>= fun p => stAll rs >>= fun ps => .ok (p :: ps)
def argR : Res → Res
  | .val p => .val p
  | .bor n xs => .bor n xs
  | .lend n xs => .bor n xs
  | .new _ xs => .val (.lst xs)
def RepArg (K : PySem.W.Frag) (mg : MG) (F H : Hp) : Res → V → Prop
  | .val p, v => Rep K mg F p v
  | .bor n xs, v => RepE K mg F H (n + 1) (.lst xs) v
  | _, _ => False
section
variable {K : PySem.W.Frag} {mg : MG} {B : Bx} {F H F1 H1 : Hp}
theorem fz_args (x : Ext F H F1 H1) (hs : Same B.H0 H1) : ∀ {rs : List Res} {vs : List V}, AllR (RepRes K mg B F1 H H1) rs vs →
    ∃ L : List Addr, (∀ a ∈ L, F1 a = none ∧ H a = none) ∧ ∀ G, Same F1 G → (∀ a ∈ L, ∀ o, H1 a = some o → G a = some o) → AllR (RepArg K mg G H1) (rs.map argR) vs
  | [], _, e => ⟨[], by simp, fun G _ _ => e⟩
  | r :: rs, _, ⟨v, vr, e, h1, h2⟩ => by
    obtain ⟨L, l1, l2⟩ := fz_args x hs h2
    subst e
    cases r with
    | val p => exact ⟨L, l1, fun G g1 g2 => ⟨v, vr, rfl, Rep.mono g1 h1, l2 G g1 g2⟩⟩
    | bor n xs => exact ⟨L, l1, fun G g1 g2 => ⟨v, vr, rfl, RepE.mono g1 hs h1, l2 G g1 g2⟩⟩
    | lend n xs => exact ⟨L, l1, fun G g1 g2 => ⟨v, vr, rfl, RepE.mono g1 (.refl _) h1, l2 G g1 g2⟩⟩
    | new n xs =>
      obtain ⟨M, m1, m2, m3⟩ := h1
      refine ⟨M ++ L, fun a ha => ?_, fun G g1 g2 => ⟨v, vr, rfl, m1.frozen g1 fun a ha o => g2 a (List.mem_append_left _ ha) o, l2 G g1 fun a ha o => g2 a (List.mem_append_right _ ha) o⟩⟩
      rcases List.mem_append.mp ha with ha | ha
      · exact m3 a ha
      · exact l1 a ha
theorem fz_store (x : Ext F H F1 H1) : ∀ {rs : List Res} {ps : List PV} {vs : List V}, stAll rs = .ok ps → AllR (RepRes K mg B F1 H H1) rs vs →
    ∃ L : List Addr, (∀ a ∈ L, F1 a = none ∧ H a = none) ∧ ∀ G, Same F1 G → (∀ a ∈ L, ∀ o, H1 a = some o → G a = some o) → AllR (Rep K mg G) ps vs
  | [], _, _, e0, e => by cases e0; exact ⟨[], by simp, fun G _ _ => e⟩
  | r :: rs, ps, _, e0, ⟨v, vr, e, h1, h2⟩ => by
    unfold stAll at e0
    cases q1 : stR r with
    | exc y => rw [q1] at e0; cases e0
    | bad => rw [q1] at e0; cases e0
    | ok p =>
      rw [q1] at e0
      have e0 : (stAll rs >>= fun ps => R.ok (p :: ps)) = .ok ps := e0
      cases q2 : stAll rs with
      | exc y => rw [q2] at e0; cases e0
      | bad => rw [q2] at e0; cases e0
      | ok qs =>
        rw [q2] at e0
        cases e0
        obtain ⟨L, l1, l2⟩ := fz_store x q2 h2
        subst e
        cases r with
        | val p' => cases q1; exact ⟨L, l1, fun G g1 g2 => ⟨v, vr, rfl, Rep.mono g1 h1, l2 G g1 g2⟩⟩
        | bor n xs => cases q1
        | lend n xs => cases q1
        | new n xs =>
          cases q1
          obtain ⟨M, m1, m2, m3⟩ := h1
          refine ⟨M ++ L, fun a ha => ?_, fun G g1 g2 => ⟨v, vr, rfl, m1.frozen g1 fun a ha o => g2 a (List.mem_append_left _ ha) o, l2 G g1 fun a ha o => g2 a (List.mem_append_right _ ha) o⟩⟩
          rcases List.mem_append.mp ha with ha | ha
          · exact m3 a ha
          · exact l1 a ha
theorem fz_do (x : Ext F H F1 H1) {L : List Addr} (l1 : ∀ a ∈ L, F1 a = none ∧ H a = none) : ∃ G, Ext F H G H1 ∧ Same F1 G ∧ ∀ a ∈ L, ∀ o, H1 a = some o → G a = some o :=
  ⟨frz F1 H1 L, x.frz l1, frz_same fun a ha => (l1 a ha).1, fun a ha o e => by rw [frz_in ha]; exact e⟩
theorem want_noxA {α β : Type} {f : R α} {x : XV} {k : α → R β} (h : f = .exc x) : (f >>= k) = .exc x := by rw [h]; rfl
end
def tupD (g : VA) : VE := fun ρ => g ρ >>= fun rs => stAll rs >>= fun ps => if ps.length ≤ sizeLine then .ok (.val (.tup ps)) else .bad
def lstD (g : VA) : VE := fun ρ => g ρ >>= fun rs => stAll rs >>= fun ps => if ps.length ≤ sizeLine then .ok (.new 0 ps) else .bad
theorem stR_nox {r : Res} {x : XV} : stR r ≠ .exc x := by cases r <;> intro e <;> cases e
theorem stAll_nox : ∀ {rs : List Res} {x : XV}, stAll rs ≠ .exc x
  | [], _ => by intro e; cases e
  | r :: rs, x => by
    intro e
    unfold stAll at e
    cases q1 : stR r with
    | exc y => exact stR_nox q1
    | bad => rw [q1] at e; cases e
    | ok p =>
      rw [q1] at e
      have e : (stAll rs >>= fun ps => R.ok (p :: ps)) = .exc x := e
      cases q2 : stAll rs with
      | exc y => exact stAll_nox q2
      | bad => rw [q2] at e; cases e
      | ok ps => rw [q2] at e; cases e
section
variable {X : Cx} {B : Bx} {W : WX} {e : Expr} {es : List Expr} {g : VA} {pos : Pos}
theorem want_list {K : PySem.W.Frag} {mg : MG} {k : List Res → R Res} {σ : L2.St} {H : Hp} {Q : VK} {T : List V → Hp → Prop}
    (h : tV K mg B W (fun ρ => g ρ >>= k) σ H Q)
    (step : ∀ F F1 H1 ρ rs vs, SR K mg B F ρ σ H → Ext F H F1 H1 → AllR (RepRes K mg B F1 H H1) rs vs → WantE K mg B W F H σ Q (k rs) → T vs H1) : tVA K mg B W g σ H T := by
  obtain ⟨F, ρ, S, w⟩ := h
  have w : WantE K mg B W F H σ Q (g ρ >>= k) := w
  refine ⟨F, ρ, S, ?_⟩
  cases q : g ρ with
  | ok r =>
    rw [q] at w
    intro v F1 H1 x rr
    exact step F F1 H1 ρ r v S x rr w
  | exc x => rw [q] at w; exact w
  | bad => rw [q] at w; exact w
theorem e_tup {x1} (h : AV X B W es g) : EV X B W (.Tuple es x1 pos) (tupD g) := by
  refine .of (pe_tup h.run) fun σ H Q h => want_list (k := fun rs => stAll rs >>= fun ps => if ps.length ≤ sizeLine then .ok (.val (.tup ps)) else .bad) h fun F F1 H1 ρ rs vs S x rr w => ?_
  cases q : stAll rs with
  | exc y => exact (stAll_nox q).elim
  | bad => rw [q] at w; exact w.elim
  | ok ps =>
    rw [q] at w
    have w : WantE X.K X.mg B W F H σ Q (if ps.length ≤ sizeLine then .ok (.val (.tup ps)) else .bad) := w
    split at w
    · rename_i hl
      obtain ⟨L, l1, l2⟩ := fz_store x q rr
      obtain ⟨G, x2, g1, g2⟩ := fz_do x l1
      have a1 := l2 G g1 g2
      refine ⟨by rw [a1.length]; exact hl, fun p hp => fin_tup x2.s a1 (fun v F' H' x' rr' => w v F' H' (x2.trans x') (rr'.old x.h)) p hp⟩
    · exact w.elim
theorem e_lst (h : AV X B W es g) : EV X B W (.List es pos) (lstD g) := by
  refine .of (pe_lst h.run) fun σ H Q h => want_list (k := fun rs => stAll rs >>= fun ps => if ps.length ≤ sizeLine then .ok (.new 0 ps) else .bad) h fun F F1 H1 ρ rs vs S x rr w => ?_
  cases q : stAll rs with
  | exc y => exact (stAll_nox q).elim
  | bad => rw [q] at w; exact w.elim
  | ok ps =>
    rw [q] at w
    have w : WantE X.K X.mg B W F H σ Q (if ps.length ≤ sizeLine then .ok (.new 0 ps) else .bad) := w
    split at w
    · rename_i hl
      obtain ⟨L, l1, l2⟩ := fz_store x q rr
      obtain ⟨G, x2, g1, g2⟩ := fz_do x l1
      have a1 := l2 G g1 g2
      refine ⟨by rw [a1.length]; exact hl, fun p hp => fin_lst x2.s a1 (fun v F' H' x' rr' => w v F' H' (x2.trans x') (rr'.old x.h)) p hp⟩
    · exact w.elim
def OpN (K : PySem.W.Frag) (mg : MG) (B : Bx) (r : List V → Hp → VK → Prop) (k : List Res → R Res) : Prop :=
  ∀ (F H H1 : Hp) (rs : List Res) (vs : List V) (Q : VK), Same B.H0 H1 → Same F H1 → Same H H1 → AllR (RepRes K mg B F H H1) rs vs →
    ∀ r3, k rs = .ok r3 → (∀ v F' H', Ext F H1 F' H' → RepRes K mg B F' H1 H' r3 v → Q v H') → r vs H1 Q
def NoXN (k : List Res → R Res) : Prop := ∀ rs x, k rs ≠ .exc x
def callN (k : List Res → R Res) (g : VA) : VE := fun ρ => g ρ >>= k
theorem e_calln {r : List V → Hp → VK → Prop} {k : List Res → R Res} (hp : PE X e (tCB r (tVA X.K X.mg B W g))) (o : OpN X.K X.mg B r k) (nx : NoXN k) : EV X B W e (callN k g) :=
  .of hp fun σ H Q h => want_list (k := k) h fun F F1 H1 ρ rs vs S x rr w => by
    cases q : k rs with
    | ok r3 =>
      rw [q] at w
      exact o F1 H H1 rs vs Q (S.ext.h.trans x.h) x.s x.h rr r3 q fun v F' H' x' rr' => w v F' H' (x.trans x') (rr'.old x.h)
    | exc y => exact absurd q (nx rs y)
    | bad => rw [q] at w; exact w.elim
theorem e_bfn {x : Str} {id : String} {p : Pos} {a : Expr} {r : List V → Hp → VK → Prop} {k : List Res → R Res} (hc : CallR X (.builtin id) r) (o : OpN X.K X.mg B r k) (nx : NoXN k) (hg : Gl X x) (hm : X.mg x = none) (hv : bootBuiltins x = some (.builtin id)) (ha : AV X B W (a :: es) g)
    (hn : x ≠ "__name__" := by decide) (hdb : (x == ("__debug__" : Str)) = false := by decide) (he : starEach (a :: es) X.env = (false, eval a X.env) :: starEach es X.env := by rfl) (hpl : (backTo pos (starEach es X.env)).any (·.1) = false := by rfl) :
    EV X B W (.Call (.Name x p) (a :: es) [] pos) (callN k g) := e_calln (pe_callB hc hg hm hv ha.run hn hdb he hpl) o nx
theorem e_bty {x : Str} {T : String} {p : Pos} {a : Expr} {r : List V → Hp → VK → Prop} {k : List Res → R Res} (hc : CallR X (.type T) r) (o : OpN X.K X.mg B r k) (nx : NoXN k) (hg : Gl X x) (hm : X.mg x = none) (hv : bootBuiltins x = some (.type T)) (ha : AV X B W (a :: es) g)
    (hn : x ≠ "__name__" := by decide) (hdb : (x == ("__debug__" : Str)) = false := by decide) (he : starEach (a :: es) X.env = (false, eval a X.env) :: starEach es X.env := by rfl) (hpl : (backTo pos (starEach es X.env)).any (·.1) = false := by rfl) :
    EV X B W (.Call (.Name x p) (a :: es) [] pos) (callN k g) := e_calln (pe_callTy hc hg hm hv ha.run hn hdb he hpl) o nx
theorem e_bgl {x : Str} {id : String} {p : Pos} {a : Expr} {r : List V → Hp → VK → Prop} {k : List Res → R Res} (hc : CallR X (.builtin id) r) (o : OpN X.K X.mg B r k) (nx : NoXN k) (hg : Gl X x) (hm : X.mg x = some (.builtin id)) (ha : AV X B W (a :: es) g)
    (hdb : (x == ("__debug__" : Str)) = false := by decide) (he : starEach (a :: es) X.env = (false, eval a X.env) :: starEach es X.env := by rfl) (hpl : (backTo pos (starEach es X.env)).any (·.1) = false := by rfl) :
    EV X B W (.Call (.Name x p) (a :: es) [] pos) (callN k g) := e_calln (pe_callBfun hc hg hm ha.run hdb he hpl) o nx
end
end
end Pv
namespace Pv
open PySem PySem.Spec L2
noncomputable section

def intsOf : List PV → Option (List Int)
  | [] => some []
  | .int i :: r => (intsOf r).map (i :: ·)
  | _ :: _ => none
theorem intsOf_map : ∀ ns : List Int, intsOf (ns.map PV.int) = some ns
  | [] => rfl
  | n :: r => by rw [List.map_cons, intsOf, intsOf_map r]; rfl
theorem intsOf_eq : ∀ {xs : List PV} {ns : List Int}, intsOf xs = some ns → xs = ns.map PV.int
  | [], ns, e => by cases e; rfl
  | .int i :: r, ns, e => by
    unfold intsOf at e
    cases q : intsOf r with
    | none => rw [q] at e; cases e
    | some ms => rw [q] at e; cases e; rw [List.map_cons, intsOf_eq q]
  | .non :: _, _, e => by cases e
  | .bl _ :: _, _, e => by cases e
  | .str _ :: _, _, e => by cases e
  | .tup _ :: _, _, e => by cases e
  | .lst _ :: _, _, e => by cases e
  | .scr _ :: _, _, e => by cases e
  | .ins _ _ :: _, _, e => by cases e
theorem AllR.ints {K : PySem.W.Frag} {mg : MG} {F : Hp} : ∀ {ns : List Int} {vs : List V}, AllR (Rep K mg F) (ns.map PV.int) vs → vs = ns.map V.int
  | [], _, e => e
  | n :: r, _, ⟨v, w, e, h1, h2⟩ => by
    simp only [Rep] at h1
    rw [e, h1, AllR.ints h2]; rfl
def Res.ints (r : Res) : Option (List Int) := match r with
  | .val (.scr ns) => some ns
  | r => r.flat.bind intsOf
theorem see_ints {K : PySem.W.Frag} {mg : MG} {B : Bx} {F H H1 : Hp} {r : Res} {v : V} {ns : List Int} (hs : Same B.H0 H1) (hf : Same F H1) (h : RepRes K mg B F H H1 r v) (e : r.ints = some ns) :
    ∃ a, v = .ref a ∧ (SqL K H1 a (ns.map V.int) ∨ SqT K H1 a (ns.map V.int)) := by
  have key : r.flat.bind intsOf = some ns → ∃ a, v = .ref a ∧ (SqL K H1 a (ns.map V.int) ∨ SqT K H1 a (ns.map V.int)) := fun e => by
    cases q : r.flat with
    | none => rw [q] at e; cases e
    | some xs =>
      rw [q] at e
      have e2 := intsOf_eq e
      subst e2
      obtain ⟨a, vs, rfl, a1, s1⟩ := see_flat hs hf h q
      rw [a1.ints] at s1
      rcases s1 with ⟨_, s1⟩ | ⟨_, s1⟩
      · exact ⟨a, rfl, .inl (SqL.of s1)⟩
      · exact ⟨a, rfl, .inr (same_tup hf s1)⟩
  cases r with
  | val p =>
    cases p with
    | scr ms =>
      cases e
      obtain ⟨a, rfl, s1⟩ := see_scr hs h rfl
      exact ⟨a, rfl, .inl (hf.seq s1)⟩
    | _ => exact key e
  | _ => exact key e

def PV.len : PV → Option Nat
  | .lst xs => some xs.length
  | .tup xs => some xs.length
  | .scr ns => some ns.length
  | .str s => if s.length ≤ sizeLine then some s.length else none
  | _ => none
def lenV : List Res → R Res
  | [r] => match r.pv.len with
    | some n => .ok (.val (.int n))
    | none => .bad
  | _ => .bad
def intV : List Res → R Res
  | [r] => match r.pv with
    | .int i => .ok (.val (.int i))
    | .bl b => .ok (.val (.int (if b then 1 else 0)))
    | _ => .bad
  | _ => .bad
def absV' : List Res → R Res
  | [r] => match r.pv with
    | .int i => .ok (.val (.int (if i < 0 then -i else i)))
    | _ => .bad
  | _ => .bad
def maxV : List Res → R Res
  | [r] => match r.ints with
    | some (n :: ns) => .ok (.val (.int (ns.foldl max n)))
    | _ => .bad
  | [r, s] => match r.pv, s.pv with
    | .int i, .int j => .ok (.val (.int (if j > i then j else i)))
    | _, _ => .bad
  | _ => .bad
def minV : List Res → R Res
  | [r] => match r.ints with
    | some (n :: ns) => .ok (.val (.int (ns.foldl min n)))
    | _ => .bad
  | [r, s] => match r.pv, s.pv with
    | .int i, .int j => .ok (.val (.int (if j < i then j else i)))
    | _, _ => .bad
  | _ => .bad
def sumV : List Res → R Res
  | [r] => match r.pv with
    | .tup _ => .bad
    | _ => match r.ints with
      | some ns => .ok (.val (.int ns.sum))
      | none => .bad
  | _ => .bad
def gcdV : List Res → R Res
  | [r, s] => match r.pv, s.pv with
    | .int i, .int j => .ok (.val (.int ((Nat.gcd i.natAbs j.natAbs : Nat) : Int)))
    | _, _ => .bad
  | _ => .bad
def listV : List Res → R Res
  | [r] => match r with
    | .val (.scr ns) => .ok (.new 0 (ns.map PV.int))
    | r => match r.flat with
      | some xs => .ok (.new 0 xs)
      | none => .bad
  | _ => .bad
def tupleV : List Res → R Res
  | [r] => match r.flat with
      | some xs => .ok (.val (.tup xs))
      | none => .bad
  | _ => .bad
section
variable {X : Cx}
theorem call_gcd : CallR X (.builtin "math.gcd") rGcd := cr_gcd
def rMM (K : PySem.W.Frag) (f : Int → Int → Int) : List V → Hp → VK → Prop := fun vs H Q => ∃ (a : Addr) (n : Int) (ns : List Int), vs = [V.ref a] ∧ (SqL K H a ((n :: ns).map V.int) ∨ SqT K H a ((n :: ns).map V.int)) ∧ Q (.int (ns.foldl f n)) H
theorem reads_ints {h : Heap} : ∀ {ns : List Int} {us : List Value}, Vals (ns.map V.int) us → ∃ as, ReadsAll h us (ns.map PyData.int) as
  | [], _, r => by cases r; exact ⟨_, .nil⟩
  | n :: ns, _, r => by
    cases r with
    | cons r1 r2 =>
      obtain ⟨t, rfl⟩ := r1
      obtain ⟨as, q⟩ := reads_ints (h := h) r2
      exact ⟨_, .cons (.int n t) q⟩
theorem alike_ints (ns : List Int) : PySem.W.AlikeAll (ns.map PyData.int) := PySem.W.alikeAll_datum ns
theorem depth_ints : ∀ ns : List Int, PyData.depthAll (ns.map PyData.int) = 0
  | [] => rfl
  | n :: r => by rw [List.map_cons, PyData.depthAll, PyData.depth, depth_ints r]; rfl
theorem reads_int {h : Heap} {v : Value} {i : Int} {bs : List Addr} (r : Reads h v (.int i) bs) : ∃ t, v = .int i t := by cases r; exact ⟨_, rfl⟩
theorem call_min1 (hc : X.calm = true) (hu : X.A.units + 64 < cLine) : CallR X (.builtin "min") (rMM X.K min) := by
  intro pins s σ H vs us Q I r h
  obtain ⟨a, n, ns, rfl, hq, q⟩ := h
  obtain ⟨u, rfl, rx⟩ := vals1 r
  cases rx
  have hu2 : X.A.units + 1 + PyData.depthAll (PyData.int n :: ns.map PyData.int) < cLine := by
    have e := depth_ints (n :: ns)
    rw [List.map_cons] at e
    rw [e]; omega
  rcases hq with hq | hq
  · obtain ⟨its, rv, hl, _⟩ := I.list hq
    obtain ⟨as, ra⟩ := reads_ints (h := s.heap) rv
    refine PySem.W.min_list_data (x := .int n) (xs := ns.map .int) (I.ok.hd hc) hl.isList (by simpa using ra) (alike_ints (n :: ns)) hu2 fun i v h' tk bs _ r2 hk => ?_
    rw [PySem.W.minD_ints] at r2
    obtain ⟨t, rfl⟩ := reads_int r2
    exact ⟨.int _, H, I.kept hk, ⟨_, rfl⟩, q⟩
  · obtain ⟨its, rv, hl, _⟩ := I.tuple hq
    obtain ⟨as, ra⟩ := reads_ints (h := s.heap) rv
    refine PySem.W.min_tuple_data (x := .int n) (xs := ns.map .int) (I.ok.hd hc) hl (by simpa using ra) (alike_ints (n :: ns)) hu2 fun i v h' tk bs _ r2 hk => ?_
    rw [PySem.W.minD_ints] at r2
    obtain ⟨t, rfl⟩ := reads_int r2
    exact ⟨.int _, H, I.kept hk, ⟨_, rfl⟩, q⟩
theorem call_max1 (hc : X.calm = true) (hu : X.A.units + 64 < cLine) : CallR X (.builtin "max") (rMM X.K max) := by
  intro pins s σ H vs us Q I r h
  obtain ⟨a, n, ns, rfl, hq, q⟩ := h
  obtain ⟨u, rfl, rx⟩ := vals1 r
  cases rx
  have hu2 : X.A.units + 1 + PyData.depthAll (PyData.int n :: ns.map PyData.int) < cLine := by
    have e := depth_ints (n :: ns)
    rw [List.map_cons] at e
    rw [e]; omega
  rcases hq with hq | hq
  · obtain ⟨its, rv, hl, _⟩ := I.list hq
    obtain ⟨as, ra⟩ := reads_ints (h := s.heap) rv
    refine PySem.W.max_list_data (x := .int n) (xs := ns.map .int) (I.ok.hd hc) hl.isList (by simpa using ra) (alike_ints (n :: ns)) hu2 fun i v h' tk bs _ r2 hk => ?_
    rw [PySem.W.maxD_ints] at r2
    obtain ⟨t, rfl⟩ := reads_int r2
    exact ⟨.int _, H, I.kept hk, ⟨_, rfl⟩, q⟩
  · obtain ⟨its, rv, hl, _⟩ := I.tuple hq
    obtain ⟨as, ra⟩ := reads_ints (h := s.heap) rv
    refine PySem.W.max_tuple_data (x := .int n) (xs := ns.map .int) (I.ok.hd hc) hl (by simpa using ra) (alike_ints (n :: ns)) hu2 fun i v h' tk bs _ r2 hk => ?_
    rw [PySem.W.maxD_ints] at r2
    obtain ⟨t, rfl⟩ := reads_int r2
    exact ⟨.int _, H, I.kept hk, ⟨_, rfl⟩, q⟩
end
section
variable {K : PySem.W.Frag} {mg : MG} {B : Bx}
abbrev rLenAll (K : PySem.W.Frag) : List V → Hp → VK → Prop := fun xs H Q => (∃ p ys, xs = [.ref p] ∧ (SqL K H p ys ∨ SqT K H p ys) ∧ Q (.int ys.length) H) ∨ (∃ z, xs = [.str z] ∧ z.length ≤ sizeLine ∧ Q (.int z.length) H)
theorem opn_len : OpN K mg B (rLenAll K) lenV := by
  intro F H H1 rs vs Q hs hf hh h r3 e q
  unfold lenV at e
  split at e
  · rename_i r
    obtain ⟨v, w, rfl, h1, rfl⟩ := h
    split at e
    · rename_i n en
      cases e
      unfold PV.len at en
      split at en
      · rename_i xs ep
        cases en
        obtain ⟨a, vs, rfl, g1, g2⟩ := see_lst hs hf h1 ep
        exact .inl ⟨a, vs, rfl, .inl (SqL.of g1), by rw [g2]; exact fin_int hf q⟩
      · rename_i xs ep
        cases en
        obtain ⟨_, a, vs, rfl, g1, g2⟩ := see_tup hs h1 ep
        exact .inl ⟨a, vs, rfl, .inr (same_tup hf g1), by rw [g2.length]; exact fin_int hf q⟩
      · rename_i ns ep
        cases en
        obtain ⟨a, rfl, g1⟩ := see_scr hs h1 ep
        exact .inl ⟨a, _, rfl, .inl (hf.seq g1), by rw [List.length_map]; exact fin_int hf q⟩
      · rename_i z ep
        split at en
        · rename_i hl
          cases en
          cases see_str hs h1 ep
          exact .inr ⟨z, rfl, hl, fin_int hf q⟩
        · cases en
      · cases en
    · cases e
  · cases e
theorem cr_len {X : Cx} : CallR X (.builtin "len") (rLenAll X.K) := call_len_seq.or call_len_str
theorem noxn_len : NoXN lenV := by
  intro rs x e
  unfold lenV at e
  split at e
  · split at e <;> cases e
  · cases e
abbrev rInt1 : List V → Hp → VK → Prop := fun xs H Q => (∃ i, xs = [.int i] ∧ Q (.int i) H) ∨ ∃ k, xs = [.bl k] ∧ Q (.int (if k then 1 else 0)) H
theorem opn_int : OpN K mg B rInt1 intV := by
  intro F H H1 rs vs Q hs hf hh h r3 e q
  unfold intV at e
  split at e
  · rename_i r
    obtain ⟨v, w, rfl, h1, rfl⟩ := h
    split at e
    · rename_i i ei
      cases e
      exact .inl ⟨i, by rw [see_int hs h1 ei], fin_int hf q⟩
    · rename_i i ei
      cases e
      exact .inr ⟨i, by rw [see_bl hs h1 ei], fin_int hf q⟩
    · cases e
  · cases e
theorem noxn_int : NoXN intV := by
  intro rs x e
  unfold intV at e
  split at e
  · split at e <;> cases e
  · cases e
theorem opn_abs : OpN K mg B (fun xs H Q => ∃ i, xs = [.int i] ∧ Q (.int (if i < 0 then -i else i)) H) absV' := by
  intro F H H1 rs vs Q hs hf hh h r3 e q
  unfold absV' at e
  split at e
  · rename_i r
    obtain ⟨v, w, rfl, h1, rfl⟩ := h
    split at e
    · rename_i i ei
      cases e
      exact ⟨i, by rw [see_int hs h1 ei], fin_int hf q⟩
    · cases e
  · cases e
theorem noxn_abs : NoXN absV' := by
  intro rs x e
  unfold absV' at e
  split at e
  · split at e <;> cases e
  · cases e
abbrev rMaxAll (K : PySem.W.Frag) : List V → Hp → VK → Prop := fun xs H Q => (∃ i j, xs = [.int i, .int j] ∧ Q (.int (if j > i then j else i)) H) ∨ rMM K max xs H Q
abbrev rMinAll (K : PySem.W.Frag) : List V → Hp → VK → Prop := fun xs H Q => (∃ i j, xs = [.int i, .int j] ∧ Q (.int (if j < i then j else i)) H) ∨ rMM K min xs H Q
theorem cr_maxA {X : Cx} (hc : X.calm = true) (hu : X.A.units + 64 < cLine) : CallR X (.builtin "max") (rMaxAll X.K) := (call_max2 hc).or (call_max1 hc hu)
theorem cr_minA {X : Cx} (hc : X.calm = true) (hu : X.A.units + 64 < cLine) : CallR X (.builtin "min") (rMinAll X.K) := (call_min2 hc).or (call_min1 hc hu)
theorem opn_max : OpN K mg B (rMaxAll K) maxV := by
  intro F H H1 rs vs Q hs hf hh h r3 e q
  unfold maxV at e
  split at e
  · rename_i r
    obtain ⟨v, w, rfl, h1, rfl⟩ := h
    split at e
    · rename_i n ns en
      cases e
      obtain ⟨a, rfl, g⟩ := see_ints hs hf h1 en
      exact .inr ⟨a, n, ns, rfl, g, fin_int hf q⟩
    · cases e
  · rename_i r s
    obtain ⟨v, w, rfl, h1, v2, w2, rfl, h2, rfl⟩ := h
    split at e
    · rename_i i j e1 e2
      cases e
      exact .inl ⟨i, j, by rw [see_int hs h1 e1, see_int hs h2 e2], fin_int hf q⟩
    · cases e
  · cases e
theorem opn_min : OpN K mg B (rMinAll K) minV := by
  intro F H H1 rs vs Q hs hf hh h r3 e q
  unfold minV at e
  split at e
  · rename_i r
    obtain ⟨v, w, rfl, h1, rfl⟩ := h
    split at e
    · rename_i n ns en
      cases e
      obtain ⟨a, rfl, g⟩ := see_ints hs hf h1 en
      exact .inr ⟨a, n, ns, rfl, g, fin_int hf q⟩
    · cases e
  · rename_i r s
    obtain ⟨v, w, rfl, h1, v2, w2, rfl, h2, rfl⟩ := h
    split at e
    · rename_i i j e1 e2
      cases e
      exact .inl ⟨i, j, by rw [see_int hs h1 e1, see_int hs h2 e2], fin_int hf q⟩
    · cases e
  · cases e
theorem noxn_max : NoXN maxV := by
  intro rs x e
  unfold maxV at e
  split at e
  · split at e <;> cases e
  · split at e <;> cases e
  · cases e
theorem noxn_min : NoXN minV := by
  intro rs x e
  unfold minV at e
  split at e
  · split at e <;> cases e
  · split at e <;> cases e
  · cases e
theorem opn_sum : OpN K mg B (rSum K) sumV := by
  intro F H H1 rs vs Q hs hf hh h r3 e q
  unfold sumV at e
  split at e
  · rename_i r
    obtain ⟨v, w, rfl, h1, rfl⟩ := h
    split at e
    · cases e
    · rename_i hnt
      split at e
      · rename_i ns en
        cases e
        have key : ∃ a, v = .ref a ∧ SqL K H1 a (ns.map V.int) := by
          have k2 : r.flat.bind intsOf = some ns → ∃ a, v = .ref a ∧ SqL K H1 a (ns.map V.int) := fun en => by
            cases fl : r.flat with
            | none => rw [fl] at en; cases en
            | some xs =>
              rw [fl] at en
              have e2 := intsOf_eq en
              subst e2
              obtain ⟨a, vs, rfl, a1, s1⟩ := see_flat hs hf h1 fl
              rw [a1.ints] at s1
              rcases s1 with ⟨_, s1⟩ | ⟨z, _⟩
              · exact ⟨a, rfl, SqL.of s1⟩
              · exact absurd z (hnt _)
          cases r with
          | val p =>
            cases p with
            | scr ms =>
              cases en
              obtain ⟨a, rfl, s1⟩ := see_scr hs h1 rfl
              exact ⟨a, rfl, hf.seq s1⟩
            | _ => exact k2 en
          | _ => exact k2 en
        obtain ⟨a, rfl, g⟩ := key
        exact ⟨a, ns, rfl, g, fin_int hf q⟩
      · cases e
  · cases e
theorem noxn_sum : NoXN sumV := by
  intro rs x e
  unfold sumV at e
  split at e
  · split at e
    · cases e
    · split at e <;> cases e
  · cases e
theorem opn_gcd : OpN K mg B rGcd gcdV := by
  intro F H H1 rs vs Q hs hf hh h r3 e q
  unfold gcdV at e
  split at e
  · rename_i r s
    obtain ⟨v, w, rfl, h1, v2, w2, rfl, h2, rfl⟩ := h
    split at e
    · rename_i i j e1 e2
      cases e
      exact ⟨i, j, by rw [see_int hs h1 e1, see_int hs h2 e2], fin_int hf q⟩
    · cases e
  · cases e
theorem noxn_gcd : NoXN gcdV := by
  intro rs x e
  unfold gcdV at e
  split at e
  · split at e <;> cases e
  · cases e
theorem allR_ints {F : Hp} : ∀ ns : List Int, AllR (Rep K mg F) (ns.map PV.int) (ns.map V.int)
  | [] => rfl
  | n :: r => ⟨.int n, _, rfl, rep_int, allR_ints r⟩
theorem opn_list : OpN K mg B (fun xs H Q => ∃ p ys, xs = [.ref p] ∧ (SqL K H p ys ∨ SqT K H p ys) ∧ ∀ l, H l = none → Q (.ref l) (upd H l (.lst ys))) listV := by
  intro F H H1 rs vs Q hs hf hh h r3 e q
  have key : ∀ (r : Res) (v : V) (xs : List PV), RepRes K mg B F H H1 r v → r.flat = some xs → r3 = .new 0 xs → ∃ p ys, [v] = [.ref p] ∧ (SqL K H1 p ys ∨ SqT K H1 p ys) ∧ ∀ l, H1 l = none → Q (.ref l) (upd H1 l (.lst ys)) := fun r v xs h1 fl e3 => by
    subst e3
    obtain ⟨a, vs, rfl, a1, s1⟩ := see_flat hs hf h1 fl
    refine ⟨a, vs, rfl, ?_, fin_lst hf a1 q⟩
    rcases s1 with ⟨_, s1⟩ | ⟨_, s1⟩
    · exact .inl (SqL.of s1)
    · exact .inr (same_tup hf s1)
  unfold listV at e
  split at e
  · rename_i r
    obtain ⟨v, w, rfl, h1, rfl⟩ := h
    split at e
    · rename_i ns
      cases e
      obtain ⟨a, rfl, s1⟩ := see_scr hs h1 rfl
      exact ⟨a, _, rfl, .inl (hf.seq s1), fin_lst hf (allR_ints ns) q⟩
    · split at e
      · rename_i xs fl
        cases e
        exact key _ _ _ h1 fl rfl
      · cases e
  · cases e
theorem noxn_list : NoXN listV := by
  intro rs x e
  unfold listV at e
  split at e
  · split at e
    · cases e
    · split at e <;> cases e
  · cases e
theorem opn_tuple : OpN K mg B (fun xs H Q => ∃ p ys, xs = [.ref p] ∧ ((SqL K H p ys ∧ ∀ l, H l = none → Q (.ref l) (upd H l (.tup ys))) ∨ (SqT K H p ys ∧ Q (.ref p) H))) tupleV := by
  intro F H H1 rs vs Q hs hf hh h r3 e q
  unfold tupleV at e
  split at e
  · rename_i r
    obtain ⟨v, w, rfl, h1, rfl⟩ := h
    split at e
    · rename_i xs fl
      cases e
      obtain ⟨a, vs, rfl, a1, s1⟩ := see_flat hs hf h1 fl
      rcases s1 with ⟨_, s1⟩ | ⟨_, s1⟩
      · exact ⟨a, vs, rfl, .inl ⟨SqL.of s1, fin_tup hf a1 q⟩⟩
      · refine ⟨a, vs, rfl, .inr ⟨same_tup hf s1, q _ F H1 (.refl hf) ?_⟩⟩
        simp only [RepRes, Rep]
        exact ⟨a, vs, rfl, s1, repL_iff.mpr a1⟩
    · cases e
  · cases e
theorem noxn_tuple : NoXN tupleV := by
  intro rs x e
  unfold tupleV at e
  split at e
  · split at e <;> cases e
  · cases e
end
def PV.ty : PV → Option String
  | .non => some "NoneType"
  | .bl _ => some "bool"
  | .int _ => some "int"
  | .str _ => some "str"
  | .tup _ => some "tuple"
  | .lst _ => some "list"
  | .scr _ => some "list"
  | .ins _ _ => none
def isTy (T : String) (p : PV) : Option Bool := p.ty.bind fun t => kitB t T
def isV (T : String) (r : Res) : R Res := match isTy T r.pv with
  | some b => .ok (.val (.bl b))
  | none => .bad
section
variable {X : Cx} {B : Bx} {W : WX} {e c : Expr} {f : VE} {p pos : Pos}
theorem see_ty {K : PySem.W.Frag} {mg : MG} {F H H1 : Hp} {r : Res} {v : V} {t : String} (hs : Same B.H0 H1) (hf : Same F H1) (h : RepRes K mg B F H H1 r v) (e : r.pv.ty = some t) : TyX K H1 v (.type t) := by
  cases q : r.pv with
  | non => rw [q] at e; cases e; cases see_non hs h q; exact .base .non
  | bl b => rw [q] at e; cases e; cases see_bl hs h q; exact .base (.bl b)
  | int i => rw [q] at e; cases e; cases see_int hs h q; exact .base (.int i)
  | str i => rw [q] at e; cases e; cases see_str hs h q; exact .base (.str i)
  | tup xs =>
    rw [q] at e; cases e
    obtain ⟨_, a, vs, rfl, s1, _⟩ := see_tup hs h q
    rcases same_tup hf s1 with (s1 | ⟨o, s1⟩) | ⟨o, its, n, s1, s2, _⟩
    · exact .base (.tup s1)
    · exact .fTuple s1
    · exact .kTuple s1 s2
  | lst xs =>
    rw [q] at e; cases e
    obtain ⟨a, vs, rfl, s1, _⟩ := see_lst hs hf h q
    exact .base (.lst s1)
  | scr ns =>
    rw [q] at e; cases e
    obtain ⟨a, rfl, s1⟩ := see_scr hs h q
    rcases hf.seq s1 with (s1 | ⟨o, s1⟩) | ⟨o, its, n, s1, s2, _⟩
    · exact .base (.lst s1)
    · exact .base (.frz s1)
    · exact .kList s1 s2
  | ins c fs => rw [q] at e; cases e
theorem e_isty {T : String} (h : EV X B W e f) (hg : Gl X "isinstance") (hm : X.mg "isinstance" = none) (hcl : PE X c (tC (.ty T))) (hst : starEach [e, c] X.env = (false, eval e X.env) :: starEach [c] X.env := by rfl) (hst2 : starEach [c] X.env = (false, eval c X.env) :: starEach [] X.env := by rfl)
    (hpl : (backTo pos (starEach [c] X.env)).any (·.1) = false := by rfl) :
    EV X B W (.Call (.Name "isinstance" p) [e, c] [] pos) (un1 (isV T) f) := by
  refine .of (pe_callB (r := rIsi X.K) call_isi hg hm (by decide +kernel) (pa_cons h.run (pa_cons hcl pa_nil hst2) hst) (by decide) (by decide) hst hpl) fun σ H Q h => ?_
  refine want1 (k := fun _ => isV T) h fun F F1 H1 ρ r v S x rr w => ?_
  unfold isV isTy at w
  cases q : r.pv.ty with
  | none => rw [q] at w; exact w.elim
  | some t =>
    rw [q] at w
    have w : WantE X.K X.mg B W F H σ Q (match kitB t T with | some b => .ok (.val (.bl b)) | none => .bad) := w
    cases q2 : kitB t T with
    | none => rw [q2] at w; exact w.elim
    | some b =>
      rw [q2] at w
      exact ⟨v, .ty T, .type t, .type T, b, rfl, .ty T, see_ty (S.ext.h.trans x.h) x.s rr q, kit_ty q2, w _ F1 H1 x (rep_bl (K := X.K) (mg := X.mg) (F := F1))⟩
end
end
end Pv
namespace Pv
open PySem PySem.Spec L2
noncomputable section

abbrev VT := Env → R Bool
def WantT (K : PySem.W.Frag) (mg : MG) (B : Bx) (W : WX) (F H : Hp) (σ : L2.St) (Q : Bool → Hp → Prop) : R Bool → Prop
  | .ok b => ∀ F' H', Ext F H F' H' → Q b H'
  | .exc x => ∀ c d F' H', Ext F H F' H' → RepX K mg F' H' x c d → W c d σ H'
  | .bad => False
def tVT (K : PySem.W.Frag) (mg : MG) (B : Bx) (W : WX) (f : VT) : TT := fun σ H Q => ∃ F ρ, SR K mg B F ρ σ H ∧ WantT K mg B W F H σ Q (f ρ)
structure TV (X : Cx) (B : Bx) (W : WX) (e : Expr) (f : VT) : Prop where
  run : PT X e (tVT X.K X.mg B W f)
structure WV (X : Cx) (B : Bx) (W : WX) (e : Expr) (f : VT) : Prop where
  run : PW X e (tVT X.K X.mg B W f)
theorem pt_imp {X : Cx} {e : Expr} {t t' : TT} (h : PT X e t) (k : ∀ σ H Q, t' σ H Q → t σ H Q) : PT X e t' :=
  ⟨fun pins s σ H Q I q => h.run pins s σ H Q I (k σ H Q q)⟩
theorem pw_imp {X : Cx} {e : Expr} {t t' : TT} (h : PW X e t) (k : ∀ σ H Q, t' σ H Q → t σ H Q) : PW X e t' :=
  ⟨fun wh pins s σ H Q I q => h.run wh pins s σ H Q I (k σ H Q q)⟩
def boolR (r : Res) : R Bool := match r.pv with
  | .bl b => .ok b
  | _ => .bad
def boolOf (f : VE) : VT := fun ρ => f ρ >>= boolR
def andT (f g : VT) : VT := fun ρ => f ρ >>= fun c => if c = true then g ρ else .ok false
def orT (f g : VT) : VT := fun ρ => f ρ >>= fun c => if c = true then .ok true else g ρ
def notT (f : VT) : VT := fun ρ => f ρ >>= fun c => .ok (!c)
def andV (f g : VE) : VE := fun ρ => f ρ >>= fun r => boolR r >>= fun c => if c = true then g ρ else .ok (.val (.bl false))
def orV (f g : VE) : VE := fun ρ => f ρ >>= fun r => boolR r >>= fun c => if c = true then .ok (.val (.bl true)) else g ρ
def ifV (c : VT) (f g : VE) : VE := fun ρ => c ρ >>= fun b => if b = true then f ρ else g ρ
section
variable {X : Cx} {B : Bx} {W : WX} {a b c e : Expr} {fa fb fc : VE} {ta tb tc : VT} {pos : Pos}
theorem see_bool {K : PySem.W.Frag} {mg : MG} {F H H1 : Hp} {r : Res} {v : V} {k : Bool} (hs : Same B.H0 H1) (h : RepRes K mg B F H H1 r v) (e : boolR r = .ok k) : v = .bl k := by
  unfold boolR at e
  split at e
  · rename_i b eb
    cases e
    exact see_bl hs h eb
  · cases e
theorem boolR_nox {r : Res} {x : XV} : boolR r ≠ .exc x := by
  intro e
  unfold boolR at e
  split at e <;> cases e
theorem want_bool {K : PySem.W.Frag} {mg : MG} {f : VE} {σ : L2.St} {H : Hp} {Q : Bool → Hp → Prop} (h : tVT K mg B W (boolOf f) σ H Q) : tV K mg B W f σ H fun x H1 => ∃ k, x = .bl k ∧ Q k H1 := by
  obtain ⟨F, ρ, S, w⟩ := h
  refine ⟨F, ρ, S, ?_⟩
  have w : WantT K mg B W F H σ Q (f ρ >>= boolR) := w
  cases q : f ρ with
  | exc x => rw [q] at w; exact w
  | bad => rw [q] at w; exact w
  | ok r =>
    rw [q] at w
    have w : WantT K mg B W F H σ Q (boolR r) := w
    intro v F1 H1 x rr
    cases q2 : boolR r with
    | exc x => exact (boolR_nox q2).elim
    | bad => rw [q2] at w; exact w.elim
    | ok k =>
      rw [q2] at w
      exact ⟨k, see_bool (S.ext.h.trans x.h) rr q2, w F1 H1 x⟩
theorem t_val (h : EV X B W e fa) (he : ∀ whole, isTrue e X.env whole = (do let v ← whole; standAt e.pos; holding [v] (truthy v)) := by intro _; rfl) : TV X B W e (boolOf fa) :=
  ⟨pt_imp (pt_val h.run he) fun σ H Q h => want_bool h⟩
theorem t_cmp {op : CmpOp} {r : R2} {k : Res → Res → R Res} (ho : OpR X (compareOp op) r) (o : Op2 X.K X.mg B r k) (nx : NoX2 k) (hm : behindInMarks op b = false) (ha : EV X B W a fa) (hb : EV X B W b fb) : TV X B W (.Compare a [op] [b] pos) (boolOf (bin2 k fa fb)) := by
  refine ⟨pt_imp (pt_cmpR ho ha.run hb.run hm) fun σ H Q h => ?_⟩
  exact want2 (k := fun _ => k) (want_bool h) fun F F1 H1 ρ r1 r2 v1 v2 S x h1 h2 w => o.use nx S x h1 h2 w
theorem t_not (h : TV X B W a ta) : TV X B W (.UnaryOp .Not a pos) (notT ta) := by
  refine ⟨pt_imp (pt_not h.run) fun σ H Q ⟨F, ρ, S, w⟩ => ⟨F, ρ, S, ?_⟩⟩
  have w : WantT X.K X.mg B W F H σ Q (ta ρ >>= fun c => .ok (!c)) := w
  cases q : ta ρ with
  | exc x => rw [q] at w; exact w
  | bad => rw [q] at w; exact w
  | ok c => rw [q] at w; exact w
theorem WV.tv (h : WV X B W e ta) : TV X B W e ta := ⟨h.run.pt⟩
theorem w_and1 (h : TV X B W a ta) : WV X B W (.BoolOp .And [a] pos) ta := ⟨pw_and1 h.run⟩
theorem w_or1 (h : TV X B W a ta) : WV X B W (.BoolOp .Or [a] pos) ta := ⟨pw_or1 h.run⟩
theorem w_and {rest : List Expr} (ha : TV X B W a ta) (hb : WV X B W (.BoolOp .And (b :: rest) pos) tb) : WV X B W (.BoolOp .And (a :: b :: rest) pos) (andT ta tb) := by
  refine ⟨pw_imp (pw_and ha.run hb.run) fun σ H Q ⟨F, ρ, S, w⟩ => ⟨F, ρ, S, ?_⟩⟩
  have w : WantT X.K X.mg B W F H σ Q (ta ρ >>= fun c => if c = true then tb ρ else .ok false) := w
  cases q : ta ρ with
  | exc x => rw [q] at w; exact w
  | bad => rw [q] at w; exact w
  | ok c =>
    rw [q] at w
    intro F1 H1 x
    cases c with
    | false => rw [if_neg Bool.false_ne_true]; exact w F1 H1 x
    | true =>
      rw [if_pos rfl]
      have w : WantT X.K X.mg B W F H σ Q (tb ρ) := w
      refine ⟨F1, ρ, S.go x, ?_⟩
      cases q2 : tb ρ with
      | exc y => rw [q2] at w; intro c d F2 H2 x2 rx; exact w c d F2 H2 (x.trans x2) rx
      | bad => rw [q2] at w; exact w
      | ok k => rw [q2] at w; intro F2 H2 x2; exact w F2 H2 (x.trans x2)
theorem w_or {rest : List Expr} (ha : TV X B W a ta) (hb : WV X B W (.BoolOp .Or (b :: rest) pos) tb) : WV X B W (.BoolOp .Or (a :: b :: rest) pos) (orT ta tb) := by
  refine ⟨pw_imp (pw_or ha.run hb.run) fun σ H Q ⟨F, ρ, S, w⟩ => ⟨F, ρ, S, ?_⟩⟩
  have w : WantT X.K X.mg B W F H σ Q (ta ρ >>= fun c => if c = true then .ok true else tb ρ) := w
  cases q : ta ρ with
  | exc x => rw [q] at w; exact w
  | bad => rw [q] at w; exact w
  | ok c =>
    rw [q] at w
    intro F1 H1 x
    cases c with
    | true => rw [if_pos rfl]; exact w F1 H1 x
    | false =>
      rw [if_neg Bool.false_ne_true]
      have w : WantT X.K X.mg B W F H σ Q (tb ρ) := w
      refine ⟨F1, ρ, S.go x, ?_⟩
      cases q2 : tb ρ with
      | exc y => rw [q2] at w; intro c d F2 H2 x2 rx; exact w c d F2 H2 (x.trans x2) rx
      | bad => rw [q2] at w; exact w
      | ok k => rw [q2] at w; intro F2 H2 x2; exact w F2 H2 (x.trans x2)
theorem want_next {K : PySem.W.Frag} {mg : MG} {f : VE} {σ : L2.St} {ρ : Env} {F F1 H H1 : Hp} {Q : VK} (S : SR K mg B F ρ σ H) (x : Ext F H F1 H1) (w : WantE K mg B W F H σ Q (f ρ)) : tV K mg B W f σ H1 Q := by
  refine ⟨F1, ρ, S.go x, ?_⟩
  cases q : f ρ with
  | exc y => rw [q] at w; intro c d F2 H2 x2 rx; exact w c d F2 H2 (x.trans x2) rx
  | bad => rw [q] at w; exact w
  | ok r => rw [q] at w; intro v F2 H2 x2 rr; exact w v F2 H2 (x.trans x2) (rr.old x.h)
theorem e_one {op} (h : EV X B W a fa) : EV X B W (.BoolOp op [a] pos) fa := ⟨pe_one h.run⟩
theorem e_and {rest : List Expr} (ha : EV X B W a fa) (hb : EV X B W (.BoolOp .And (b :: rest) pos) fb) : EV X B W (.BoolOp .And (a :: b :: rest) pos) (andV fa fb) := by
  refine .of (pe_and ha.run hb.run) fun σ H Q h => ?_
  refine want1 (k := fun ρ r => boolR r >>= fun c => if c = true then fb ρ else .ok (.val (.bl false))) h fun F F1 H1 ρ r v S x rr w => ?_
  cases q : boolR r with
  | exc y => exact (boolR_nox q).elim
  | bad => rw [q] at w; exact w.elim
  | ok c =>
    rw [q] at w
    refine ⟨c, see_bool (S.ext.h.trans x.h) rr q, ?_⟩
    cases c with
    | true => rw [if_pos rfl]; exact want_next S x w
    | false => rw [if_neg Bool.false_ne_true]; exact w _ F1 H1 x (rep_bl (K := X.K) (mg := X.mg) (F := F1))
theorem e_or {rest : List Expr} (ha : EV X B W a fa) (hb : EV X B W (.BoolOp .Or (b :: rest) pos) fb) : EV X B W (.BoolOp .Or (a :: b :: rest) pos) (orV fa fb) := by
  refine .of (pe_or ha.run hb.run) fun σ H Q h => ?_
  refine want1 (k := fun ρ r => boolR r >>= fun c => if c = true then .ok (.val (.bl true)) else fb ρ) h fun F F1 H1 ρ r v S x rr w => ?_
  cases q : boolR r with
  | exc y => exact (boolR_nox q).elim
  | bad => rw [q] at w; exact w.elim
  | ok c =>
    rw [q] at w
    refine ⟨c, see_bool (S.ext.h.trans x.h) rr q, ?_⟩
    cases c with
    | false => rw [if_neg Bool.false_ne_true]; exact want_next S x w
    | true => rw [if_pos rfl]; exact w _ F1 H1 x (rep_bl (K := X.K) (mg := X.mg) (F := F1))
def notE (f : VE) : VE := fun ρ => f ρ >>= fun r => boolR r >>= fun c => .ok (.val (.bl (!c)))
theorem e_not (ha : EV X B W a fa) : EV X B W (.UnaryOp .Not a pos) (notE fa) := by
  refine .of (pe_not ha.run) fun σ H Q h => ?_
  refine want1 (k := fun _ r => boolR r >>= fun c => .ok (.val (.bl (!c)))) h fun F F1 H1 ρ r v S x rr w => ?_
  cases q : boolR r with
  | exc y => exact (boolR_nox q).elim
  | bad => rw [q] at w; exact w.elim
  | ok c =>
    rw [q] at w
    exact ⟨c, see_bool (S.ext.h.trans x.h) rr q, w _ F1 H1 x (rep_bl (K := X.K) (mg := X.mg) (F := F1))⟩
theorem e_if (hc : TV X B W c tc) (ha : EV X B W a fa) (hb : EV X B W b fb) : EV X B W (.IfExp c a b pos) (ifV tc fa fb) := by
  refine .of (pe_ifExp hc.run ha.run hb.run) fun σ H Q ⟨F, ρ, S, w⟩ => ⟨F, ρ, S, ?_⟩
  have w : WantE X.K X.mg B W F H σ Q (tc ρ >>= fun b => if b = true then fa ρ else fb ρ) := w
  cases q : tc ρ with
  | exc y => rw [q] at w; exact w
  | bad => rw [q] at w; exact w
  | ok k =>
    rw [q] at w
    intro F1 H1 x
    cases k with
    | true => rw [if_pos rfl]; exact want_next S x w
    | false => rw [if_neg Bool.false_ne_true]; exact want_next S x w
def chn (k k' : Res → Res → R Res) (fa fb fc : VE) : VE := fun ρ => fa ρ >>= fun x => fb ρ >>= fun y => k x y >>= fun z => boolR z >>= fun c => if c = true then (fc ρ >>= fun u => k' y u) else .ok (.val (.bl false))
theorem want_chain {K : PySem.W.Frag} {mg : MG} {r r' : R2} {k k' : Res → Res → R Res} (o : Op2 K mg B r k) (nx : NoX2 k) (o' : Op2 K mg B r' k') (nx' : NoX2 k') {σ : L2.St} {H : Hp} {Q : VK} (h : tV K mg B W (chn k k' fa fb fc) σ H Q) :
    tChain r r' (tV K mg B W fa) (tV K mg B W fb) (tV K mg B W fc) σ H Q := by
  refine want2 (k := fun ρ x y => k x y >>= fun z => boolR z >>= fun c => if c = true then (fc ρ >>= fun u => k' y u) else .ok (.val (.bl false))) h fun F F1 H1 ρ r1 r2 v1 v2 S x h1 h2 w => ?_
  cases q : k r1 r2 with
  | exc y => exact absurd q (nx _ _ _)
  | bad => rw [q] at w; exact w.elim
  | ok z =>
    rw [q] at w
    refine o F1 H H1 r1 r2 v1 v2 _ (S.ext.h.trans x.h) x.s x.h h1 h2 z q fun v F2 H2 x2 rz => ?_
    have w : WantE K mg B W F H σ Q (boolR z >>= fun c => if c = true then (fc ρ >>= fun u => k' r2 u) else .ok (.val (.bl false))) := w
    cases q2 : boolR z with
    | exc y => exact (boolR_nox q2).elim
    | bad => rw [q2] at w; exact w.elim
    | ok c =>
      rw [q2] at w
      have x02 := x.trans x2
      refine ⟨c, see_bool (S.ext.h.trans x02.h) rz q2, ?_⟩
      cases c with
      | false => rw [if_neg Bool.false_ne_true]; exact w _ F2 H2 x02 (rep_bl (K := K) (mg := mg) (F := F2))
      | true =>
        rw [if_pos rfl]
        have w : WantE K mg B W F H σ Q (fc ρ >>= fun u => k' r2 u) := w
        refine ⟨F2, ρ, S.go x02, ?_⟩
        cases q3 : fc ρ with
        | exc y => rw [q3] at w; intro c d F3 H3 x3 rx; exact w c d F3 H3 (x02.trans x3) rx
        | bad => rw [q3] at w; exact w
        | ok u =>
          rw [q3] at w
          intro v3 F3 H3 x3 r3
          exact o'.use nx' S (x02.trans x3) (h2.ext (x2.trans x3)) (r3.old x02.h) w
theorem e_chain {op op' : CmpOp} {r r' : R2} {k k' : Res → Res → R Res} (ho : OpR X (compareOp op) r) (ho' : OpR X (compareOp op') r') (o : Op2 X.K X.mg B r k) (nx : NoX2 k) (o' : Op2 X.K X.mg B r' k') (nx' : NoX2 k')
    (ha : EV X B W a fa) (hb : EV X B W b fb) (hc : EV X B W c fc) (hm : lastMarks [op, op'] [b, c] = false := by with_unfolding_all rfl) : EV X B W (.Compare a [op, op'] [b, c] pos) (chn k k' fa fb fc) :=
  .of (pe_chain ho ho' ha.run hb.run hc.run hm) fun σ H Q h => want_chain o nx o' nx' h
theorem t_chain {op op' : CmpOp} {r r' : R2} {k k' : Res → Res → R Res} (ho : OpR X (compareOp op) r) (ho' : OpR X (compareOp op') r') (o : Op2 X.K X.mg B r k) (nx : NoX2 k) (o' : Op2 X.K X.mg B r' k') (nx' : NoX2 k')
    (ha : EV X B W a fa) (hb : EV X B W b fb) (hc : EV X B W c fc) (hm : lastMarks [op, op'] [b, c] = false := by with_unfolding_all rfl) : TV X B W (.Compare a [op, op'] [b, c] pos) (boolOf (chn k k' fa fb fc)) :=
  ⟨pt_imp (pt_chain ho ho' ha.run hb.run hc.run hm) fun σ H Q h => want_chain o nx o' nx' (want_bool h)⟩
end
end
end Pv
namespace Pv
open PySem PySem.Spec L2
noncomputable section

inductive Fl where
  | next (ρ : Env) | ret (r : Res) | brk (ρ : Env) | cont (ρ : Env) | exc (x : XV) (ρ : Env) | bad
abbrev VS := Env → Fl
def RepRet (K : PySem.W.Frag) (mg : MG) (B : Bx) (F' H' : Hp) (r : Res) (v : V) : Prop := match r with
  | .val p => Rep K mg F' p v
  | .new n xs => ∃ L, RepO K mg F' H' (n + 1) (.lst xs) v L ∧ L.Nodup ∧ ∀ a ∈ L, F' a = none ∧ B.H0 a = none
  | _ => False
def WantS (K : PySem.W.Frag) (mg : MG) (B : Bx) (W : WX) (G : Hp) (D : Ends) : Fl → Prop
  | .next ρ => ∀ F σ H, Same G F → SR K mg B F ρ σ H → D.nx σ H
  | .brk ρ => ∀ F σ H, Same G F → SR K mg B F ρ σ H → D.bk σ H
  | .cont ρ => ∀ F σ H, Same G F → SR K mg B F ρ σ H → D.ct σ H
  | .ret r => ∀ v F H, Ext B.F0 B.H0 F H → RepRet K mg B F H r v → D.rt v H
  | .exc x ρ => ∀ c d F σ H, Same G F → SR K mg B F ρ σ H → RepX K mg F H x c d → W c d σ H
  | .bad => False
theorem WantS.mono {K : PySem.W.Frag} {mg : MG} {B : Bx} {W : WX} {G G' : Hp} {D : Ends} {e : Fl} (s : Same G G') (w : WantS K mg B W G D e) : WantS K mg B W G' D e := by
  cases e with
  | next ρ => exact fun F σ H k => w F σ H (s.trans k)
  | brk ρ => exact fun F σ H k => w F σ H (s.trans k)
  | cont ρ => exact fun F σ H k => w F σ H (s.trans k)
  | ret r => exact w
  | exc x ρ => exact fun c d F σ H k => w c d F σ H (s.trans k)
  | bad => exact w
def tVS (K : PySem.W.Frag) (mg : MG) (B : Bx) (W : WX) (f : VS) : TS := fun D σ H => ∃ F ρ, SR K mg B F ρ σ H ∧ WantS K mg B W F D (f ρ)
structure SV (X : Cx) (B : Bx) (W : WX) (st : Stmt) (f : VS) : Prop where
  run : PS X st (tVS X.K X.mg B W f)
structure BV (X : Cx) (B : Bx) (W : WX) (st : List Stmt) (f : VS) : Prop where
  run : PSs X st (tVS X.K X.mg B W f)
theorem ps_imp {X : Cx} {e : Stmt} {t t' : TS} (h : PS X e t) (k : ∀ D σ H, t' D σ H → t D σ H) : PS X e t' :=
  ⟨fun pins s σ H Q I q => h.run pins s σ H Q I (k Q σ H q)⟩
theorem pss_imp {X : Cx} {e : List Stmt} {t t' : TS} (h : PSs X e t) (k : ∀ D σ H, t' D σ H → t D σ H) : PSs X e t' :=
  ⟨fun pins s σ H Q I q => h.run pins s σ H Q I (k Q σ H q)⟩
def onE (f : VE) (k : Res → VS) : VS := fun ρ => match f ρ with
  | .ok r => k r ρ
  | .exc x => .exc x ρ
  | .bad => .bad
def onT (f : VT) (k : Bool → VS) : VS := fun ρ => match f ρ with
  | .ok r => k r ρ
  | .exc x => .exc x ρ
  | .bad => .bad
def seqS (f g : VS) : VS := fun ρ => match f ρ with
  | .next ρ' => g ρ'
  | e => e
def nilS : VS := fun ρ => .next ρ
def brkS : VS := fun ρ => .brk ρ
def contS : VS := fun ρ => .cont ρ
def ifS (c : VT) (f g : VS) : VS := onT c fun b => if b = true then f else g
def dropS (f : VE) : VS := onE f fun _ ρ => .next ρ
def retR (r : Res) : Fl := match r with
  | .val p => .ret (.val p)
  | .new n xs => .ret (.new n xs)
  | _ => .bad
def retS (f : VE) : VS := onE f fun r _ => retR r
def retN : VS := fun _ => .ret (.val .non)
def retOwn (i : Nat) : VS := fun ρ => match ρ[i]? with
  | some (.own n xs) => .ret (.new n xs)
  | some (.val p) => .ret (.val p)
  | _ => .bad
def asg (i : Nat) (r : Res) (ρ : Env) : Fl := match r with
  | .val p => .next (ρ.set i (.val p))
  | .bor n xs => .next (ρ.set i (.bor n xs))
  | .new n xs => .next (ρ.set i (.own n xs))
  | .lend _ _ => .bad
def setS (i : Nat) (f : VE) : VS := onE f fun r => asg i r
section
variable {X : Cx} {B : Bx} {W : WX} {e c : Expr} {st : Stmt} {sts : List Stmt} {f : VE} {g h : VS} {pos : Pos}
theorem want_onE {K : PySem.W.Frag} {mg : MG} {k : Res → VS} {D : Ends} {σ : L2.St} {H : Hp} {T : V → Hp → Prop} (hw : tVS K mg B W (onE f k) D σ H)
    (step : ∀ F F1 H1 ρ r v, SR K mg B F ρ σ H → Ext F H F1 H1 → RepRes K mg B F1 H H1 r v → WantS K mg B W F D (k r ρ) → T v H1) : tV K mg B W f σ H T := by
  obtain ⟨F, ρ, S, w⟩ := hw
  unfold onE at w
  refine ⟨F, ρ, S, ?_⟩
  cases q : f ρ with
  | ok r => rw [q] at w; intro v F1 H1 x rr; exact step F F1 H1 ρ r v S x rr w
  | exc y => rw [q] at w; intro c d F1 H1 x rx; exact w c d F1 σ H1 x.f (S.go x) rx
  | bad => rw [q] at w; exact w
theorem want_onT {K : PySem.W.Frag} {mg : MG} {f : VT} {k : Bool → VS} {D : Ends} {σ : L2.St} {H : Hp} {T : Bool → Hp → Prop} (hw : tVS K mg B W (onT f k) D σ H)
    (step : ∀ F F1 H1 ρ r, SR K mg B F ρ σ H → Ext F H F1 H1 → WantS K mg B W F D (k r ρ) → T r H1) : tVT K mg B W f σ H T := by
  obtain ⟨F, ρ, S, w⟩ := hw
  unfold onT at w
  refine ⟨F, ρ, S, ?_⟩
  cases q : f ρ with
  | ok r => rw [q] at w; intro F1 H1 x; exact step F F1 H1 ρ r S x w
  | exc y => rw [q] at w; intro c d F1 H1 x rx; exact w c d F1 σ H1 x.f (S.go x) rx
  | bad => rw [q] at w; exact w
theorem b_nil : BV X B W [] nilS := ⟨pss_imp pss_nil fun D σ H ⟨F, ρ, S, w⟩ => w F σ H (.refl _) S⟩
theorem want_seq {K : PySem.W.Frag} {mg : MG} {D : Ends} {σ : L2.St} {H : Hp} (hw : tVS K mg B W (seqS g h) D σ H) : tVS K mg B W g { D with nx := tVS K mg B W h D } σ H := by
  obtain ⟨F, ρ, S, w⟩ := hw
  unfold seqS at w
  refine ⟨F, ρ, S, ?_⟩
  cases q : g ρ with
  | next ρ' => rw [q] at w; intro F1 σ1 H1 k S1; exact ⟨F1, ρ', S1, w.mono k⟩
  | ret r => rw [q] at w; exact w
  | brk ρ' => rw [q] at w; exact w
  | cont ρ' => rw [q] at w; exact w
  | exc x ρ' => rw [q] at w; exact w
  | bad => rw [q] at w; exact w
theorem b_cons (h1 : SV X B W st g) (h2 : BV X B W sts h) : BV X B W (st :: sts) (seqS g h) := ⟨pss_imp (pss_cons h1.run h2.run) fun D σ H hw => want_seq hw⟩
theorem b_one (h1 : SV X B W st g) : BV X B W [st] g := ⟨pss_one h1.run⟩
theorem s_pass : SV X B W (.Pass pos) nilS := ⟨ps_imp ps_pass fun D σ H ⟨F, ρ, S, w⟩ => w F σ H (.refl _) S⟩
theorem s_break : SV X B W (.Break pos) brkS := ⟨ps_imp ps_break fun D σ H ⟨F, ρ, S, w⟩ => w F σ H (.refl _) S⟩
theorem s_continue : SV X B W (.Continue pos) contS := ⟨ps_imp ps_continue fun D σ H ⟨F, ρ, S, w⟩ => w F σ H (.refl _) S⟩
theorem s_expr (he : EV X B W e f) (hs : swapsWith e none pos.line X.env = pure false := by rfl) : SV X B W (.Expr e pos) (dropS f) :=
  ⟨ps_imp (ps_expr he.run hs) fun D σ H hw => want_onE (k := fun _ ρ => .next ρ) hw fun F F1 H1 ρ r v S x rr w => w F1 σ H1 x.f (S.go x)⟩
theorem SR.old {K : PySem.W.Frag} {mg : MG} {F F1 H H1 : Hp} {ρ : Env} {σ : L2.St} (S : SR K mg B F ρ σ H) (x : Ext F H F1 H1) : Ext B.F0 B.H0 F1 H1 := S.ext.trans x
theorem ret_ok {K : PySem.W.Frag} {mg : MG} {F1 H H1 : Hp} {r : Res} {v : V} {D : Ends} (y : Ext B.F0 B.H0 F1 H1) (h : Same B.H0 H) (rr : RepRes K mg B F1 H H1 r v) {G : Hp} (w : WantS K mg B W G D (retR r)) : D.rt v H1 := by
  cases r with
  | val p => exact w v F1 H1 y rr
  | bor n xs => exact w.elim
  | lend n xs => exact w.elim
  | new n xs =>
    obtain ⟨L, l1, l2, l3⟩ := rr
    exact w v F1 H1 y ⟨L, l1, l2, fun a ha => ⟨(l3 a ha).1, h.free (l3 a ha).2⟩⟩
theorem s_ret (he : EV X B W e f) : SV X B W (.Return (some e) pos) (retS f) :=
  ⟨ps_imp (ps_ret he.run) fun D σ H hw => want_onE (k := fun r _ => retR r) hw fun F F1 H1 ρ r v S x rr w => ret_ok (H := H) (S.ext.trans x) S.ext.h rr w⟩
theorem s_retN : SV X B W (.Return none pos) retN := ⟨ps_imp ps_retN fun D σ H ⟨F, ρ, S, w⟩ => w .non F H S.ext (rep_non (K := X.K) (mg := X.mg) (F := F))⟩
theorem s_retOwn {i : Nat} {x : Str} {p : Pos} (hx : PE X (.Name x p) (tVar i)) : SV X B W (.Return (some (.Name x p)) pos) (retOwn i) := by
  refine ⟨ps_imp (ps_ret hx) fun D σ H ⟨F, ρ, S, w⟩ => ?_⟩
  obtain ⟨fp, h1, h2, h3, h4⟩ := S.slots
  unfold retOwn at w
  cases q : ρ[i]? with
  | none => rw [q] at w; exact w.elim
  | some s =>
    rw [q] at w
    have hs := h1 i s q
    cases s with
    | own n xs =>
      obtain ⟨v, e, r⟩ := hs
      exact ⟨v, e, w v F H S.ext ⟨fp i, r, h2 i, fun a ha => ⟨(h4 i a ha).1, (h4 i a ha).2.1⟩⟩⟩
    | val p => obtain ⟨_, v, e, r⟩ := hs; exact ⟨v, e, w v F H S.ext r⟩
    | unset => exact w.elim
    | bor n xs => exact w.elim
    | obj c fs => exact w.elim
    | exc x => exact w.elim
theorem s_if {tc : VT} {a b : List Stmt} (hc : TV X B W c tc) (ha : BV X B W a g) (hb : BV X B W b h) : SV X B W (.If c a b pos) (ifS tc g h) := by
  refine ⟨ps_imp (ps_if hc.run ha.run hb.run) fun D σ H hw => ?_⟩
  refine want_onT (k := fun b => if b = true then g else h) hw fun F F1 H1 ρ r S x w => ?_
  cases r with
  | true => rw [if_pos rfl] at w ⊢; exact ⟨F1, ρ, S.go x, w.mono x.f⟩
  | false => rw [if_neg Bool.false_ne_true] at w ⊢; exact ⟨F1, ρ, S.go x, w.mono x.f⟩
def swp (i : Nat) (L : List Addr) (fp : Nat → List Addr) : Nat → List Addr := fun j => if j = i then L else fp j
theorem swp_self {i : Nat} {L : List Addr} {fp : Nat → List Addr} : swp i L fp i = L := if_pos rfl
theorem swp_ne {i j : Nat} {L : List Addr} {fp : Nat → List Addr} (h : j ≠ i) : swp i L fp j = fp j := if_neg h
theorem SR.core {K : PySem.W.Frag} {mg : MG} {F H : Hp} {ρ : Env} {σ : L2.St} (ext : Ext B.F0 B.H0 F H) (len : ρ.length = σ.length) {fp : Nat → List Addr} (h1 : ∀ i s, ρ[i]? = some s → SlotR K mg B F H s (σ[i]?) (fp i)) (h2 : ∀ i, (fp i).Nodup)
    (h3 : ∀ i j a, a ∈ fp i → a ∈ fp j → i = j) (h4 : ∀ i a, a ∈ fp i → F a = none ∧ B.H0 a = none ∧ ∃ o, H a = some o) (i : Nat) {s : Slot} {o : Option V} {L : List Addr} (hs : SlotR K mg B F H s (some o) L) (nd : L.Nodup)
    (hL : ∀ a ∈ L, F a = none ∧ B.H0 a = none ∧ ∃ o, H a = some o) (hd : ∀ j a, j ≠ i → a ∈ L → a ∉ fp j) : SR K mg B F (ρ.set i s) (σ.set i o) H := by
  by_cases hi : i < σ.length
  case neg =>
    rw [List.set_eq_of_length_le (by rw [len]; omega), List.set_eq_of_length_le (by omega)]
    exact ⟨ext, len, fp, h1, h2, h3, h4⟩
  refine ⟨ext, by rw [List.length_set, List.length_set]; exact len, swp i L fp, fun j t e => ?_, fun j => ?_, fun j k a ha hk => ?_, fun j a ha => ?_⟩
  · by_cases hj : j = i
    · subst hj
      have hl : j < ρ.length := by rw [len]; exact hi
      rw [List.getElem?_set_self hl] at e
      cases e
      rw [List.getElem?_set_self hi, swp_self]
      exact hs
    · rw [List.getElem?_set_ne (Ne.symm hj)] at e
      rw [List.getElem?_set_ne (Ne.symm hj), swp_ne hj]
      exact h1 j t e
  · by_cases hj : j = i
    · rw [hj, swp_self]; exact nd
    · rw [swp_ne hj]; exact h2 j
  · by_cases hj : j = i
    · by_cases hk2 : k = i
      · rw [hj, hk2]
      · rw [hj, swp_self] at ha; rw [swp_ne hk2] at hk; exact absurd hk (hd k a hk2 ha)
    · by_cases hk2 : k = i
      · rw [swp_ne hj] at ha; rw [hk2, swp_self] at hk; exact absurd ha (hd j a hj hk)
      · rw [swp_ne hj] at ha; rw [swp_ne hk2] at hk; exact h3 j k a ha hk
  · by_cases hj : j = i
    · rw [hj, swp_self] at ha; exact hL a ha
    · rw [swp_ne hj] at ha; exact h4 j a ha
theorem SR.putNew {K : PySem.W.Frag} {mg : MG} {F F1 H H1 : Hp} {ρ : Env} {σ : L2.St} (S : SR K mg B F ρ σ H) (x : Ext F H F1 H1) (i : Nat) {s : Slot} {o : Option V} {L : List Addr} (hs : SlotR K mg B F1 H1 s (some o) L) (nd : L.Nodup)
    (hL : ∀ a ∈ L, F1 a = none ∧ H a = none ∧ ∃ o, H1 a = some o) : SR K mg B F1 (ρ.set i s) (σ.set i o) H1 := by
  obtain ⟨fp, h1, h2, h3, h4⟩ := S.slots
  refine SR.core (S.ext.trans x) S.len (fp := fp) (fun j t e => (h1 j t e).mono x.f x.h) h2 h3 (fun j a ha => ?_) i hs nd (fun a ha => ?_) (fun j a _ ha hj => ?_)
  · obtain ⟨a1, a2, o, a3⟩ := h4 j a ha
    refine ⟨?_, a2, o, x.h _ _ a3⟩
    cases q : F1 a with
    | none => rfl
    | some u =>
      have := x.n a u q a1
      rw [a3] at this; cases this
  · obtain ⟨a1, a2, a3⟩ := hL a ha
    exact ⟨a1, S.ext.h.free a2, a3⟩
  · obtain ⟨_, _, o, ho⟩ := h4 j a hj
    rw [(hL a ha).2.1] at ho; cases ho
theorem put_res {K : PySem.W.Frag} {mg : MG} {F F1 H H1 : Hp} {ρ ρ' : Env} {σ : L2.St} {r : Res} {v : V} {i : Nat} (S : SR K mg B F ρ σ H) (x : Ext F H F1 H1) (rr : RepRes K mg B F1 H H1 r v) (e : asg i r ρ = .next ρ') :
    SR K mg B F1 ρ' (σ.set i (some v)) H1 := by
  cases r with
  | val p => cases e; exact S.putNew x i (L := []) ⟨rfl, v, rfl, rr⟩ List.nodup_nil (by simp)
  | bor n xs => cases e; exact S.putNew x i (L := []) ⟨rfl, v, rfl, rr⟩ List.nodup_nil (by simp)
  | lend n xs => cases e
  | new n xs =>
    cases e
    obtain ⟨L, l1, l2, l3⟩ := rr
    exact S.putNew x i (L := L) ⟨v, rfl, l1⟩ l2 fun a ha => ⟨(l3 a ha).1, (l3 a ha).2, l1.there a ha⟩
theorem asg_next {i : Nat} {r : Res} {ρ : Env} : (∃ ρ', asg i r ρ = .next ρ') ∨ asg i r ρ = .bad := by
  cases r with
  | val p => exact .inl ⟨_, rfl⟩
  | bor n xs => exact .inl ⟨_, rfl⟩
  | lend n xs => exact .inr rfl
  | new n xs => exact .inl ⟨_, rfl⟩
theorem s_set {i : Nat} {x : Str} {p : Pos} (hN : X.N.Nodup) (hi : X.N[i]? = some x) (hx : Loc X.env.scope x) (he : EV X B W e f) (hs : swapsWith e (some (.Name x p)) pos.line X.env = pure false := by rfl) (hf : X.fn x = true ∨ X.env.scope.names.lookup x = some .local := by first | exact .inl rfl | exact .inr rfl | assumption) :
    SV X B W (.Assign [.Name x p] e pos) (setS i f) := by
  refine ⟨ps_imp (ps_set hN hi hx he.run hs hf) fun D σ H hw => want_onE (k := fun r => asg i r) hw fun F F1 H1 ρ r v S x rr w => ?_⟩
  rcases asg_next (i := i) (r := r) (ρ := ρ) with ⟨ρ', e⟩ | e
  · rw [e] at w; exact w F1 _ H1 x.f (put_res S x rr e)
  · rw [e] at w; exact w.elim
end
end
end Pv
namespace Pv
open PySem PySem.Spec L2
noncomputable section

abbrev VG := Res → Env → Fl
def Kept (ts : List Nat) (σ σ' : L2.St) : Prop := σ'.length = σ.length ∧ ∀ j, j ∉ ts → σ'[j]? = σ[j]?
theorem Kept.trans {ts us : List Nat} {σ σ1 σ2 : L2.St} (a : Kept ts σ σ1) (b : Kept us σ1 σ2) : Kept (ts ++ us) σ σ2 :=
  ⟨b.1.trans a.1, fun j hj => (b.2 j fun z => hj (List.mem_append_right _ z)).trans (a.2 j fun z => hj (List.mem_append_left _ z))⟩
theorem kept_set {i : Nat} {o : Option V} {σ : L2.St} : Kept [i] σ (σ.set i o) := ⟨List.length_set, fun j hj => List.getElem?_set_ne fun z => hj (by simp [z])⟩
theorem kept_refl {σ : L2.St} : Kept [] σ σ := ⟨rfl, fun _ _ => rfl⟩
theorem wipe_get {σ : L2.St} {j : Nat} : ∀ {vs : List Nat}, (wipe σ vs)[j]? = if j ∈ vs then (if j < σ.length then some none else none) else σ[j]?
  | [] => by simp [wipe]
  | v :: vs => by
    unfold wipe
    by_cases h : v = j
    · subst h
      rw [if_pos List.mem_cons_self]
      by_cases hl : v < (wipe σ vs).length
      · rw [List.getElem?_set_self hl, if_pos (by rw [← wipe_length σ vs]; exact hl)]
      · rw [List.getElem?_eq_none (by rw [List.length_set]; omega), if_neg (by rw [← wipe_length σ vs]; exact hl)]
    · rw [List.getElem?_set_ne h, wipe_get]
      have e : j ∈ v :: vs ↔ j ∈ vs := by
        rw [List.mem_cons]
        exact ⟨fun z => z.elim (fun q => absurd q.symm h) id, .inr⟩
      simp only [e]
theorem kept_wipe {ts vs : List Nat} {σ σ' : L2.St} (k : Kept ts σ σ') (h : ∀ j ∈ ts, j ∈ vs) : wipe σ' vs = wipe σ vs := by
  apply List.ext_getElem?
  intro j
  rw [wipe_get, wipe_get, k.1]
  by_cases hj : j ∈ vs
  · rw [if_pos hj, if_pos hj]
  · rw [if_neg hj, if_neg hj]; exact k.2 j fun z => hj (h j z)
def tVG (K : PySem.W.Frag) (mg : MG) (B : Bx) (ts : List Nat) (g : VG) : TG := fun v σ H Q => ∃ F Hs F1 ρ r ρ', SR K mg B F ρ σ Hs ∧ Ext F Hs F1 H ∧ RepRes K mg B F1 Hs H r v ∧ g r ρ = .next ρ' ∧ ∀ F2 σ' H', Ext F1 H F2 H' → Kept ts σ σ' → SR K mg B F2 ρ' σ' H' → Q σ' H'
structure GV (X : Cx) (B : Bx) (tg : Expr) (ts : List Nat) (g : VG) : Prop where
  run : PG X tg (tVG X.K X.mg B ts g)
theorem pg_imp {X : Cx} {e : Expr} {t t' : TG} (h : PG X e t) (k : ∀ v σ H Q, t' v σ H Q → t v σ H Q) : PG X e t' :=
  ⟨fun pins s σ H v u Q I r q => h.run pins s σ H v u Q I r (k v σ H Q q)⟩
theorem pgs_imp {X : Cx} {e : List Expr} {t t' : TGs} (h : PGs X e t) (k : ∀ v σ H Q, t' v σ H Q → t v σ H Q) : PGs X e t' :=
  ⟨fun pins s σ H v u Q I r q => h.run pins s σ H v u Q I r (k v σ H Q q)⟩
abbrev VGs := List PV → Env → Fl
def tVGs (K : PySem.W.Frag) (mg : MG) (B : Bx) (ts : List Nat) (g : VGs) : TGs := fun vs σ H Q => ∃ F ρ ps ρ', SR K mg B F ρ σ H ∧ AllR (Rep K mg F) ps vs ∧ g ps ρ = .next ρ' ∧ ∀ F2 σ' H', Ext F H F2 H' → Kept ts σ σ' → SR K mg B F2 ρ' σ' H' → Q σ' H'
structure GsV (X : Cx) (B : Bx) (tgs : List Expr) (ts : List Nat) (g : VGs) : Prop where
  run : PGs X tgs (tVGs X.K X.mg B ts g)
def gnil : VGs := fun ps ρ => match ps with
  | [] => .next ρ
  | _ => .bad
def gcons (g : VG) (gs : VGs) : VGs := fun ps ρ => match ps with
  | p :: r => (match g (.val p) ρ with
    | .next ρ' => gs r ρ'
    | _ => .bad)
  | [] => .bad
def gtup (n : Nat) (gs : VGs) : VG := fun r ρ => match r with
  | .val (.tup ps) => if ps.length = n then gs ps ρ else .bad
  | _ => .bad
section
variable {X : Cx} {B : Bx} {pos : Pos}
theorem g_name {i : Nat} {x : Str} (hN : X.N.Nodup) (hi : X.N[i]? = some x) (hx : Loc X.env.scope x) (hf : X.fn x = true ∨ X.env.scope.names.lookup x = some .local := by first | exact .inl rfl | exact .inr rfl | assumption) : GV X B (.Name x pos) [i] (asg i) :=
  ⟨pg_imp (pg_name hN hi hx hf) fun v σ H Q ⟨F, Hs, F1, ρ, r, ρ', S, x, rr, e, w⟩ => w F1 _ H (.refl x.s) kept_set (put_res S x rr e)⟩
theorem gs_nil : GsV X B [] [] gnil := ⟨pgs_imp pgs_nil fun vs σ H Q ⟨F, ρ, ps, ρ', S, a, e, w⟩ => by
  cases ps with
  | nil => cases e; exact ⟨a, w F σ H (.refl S.ext.s) kept_refl S⟩
  | cons p r => cases e⟩
theorem gs_cons {t : Expr} {ts : List Expr} {us vs : List Nat} {g : VG} {gs : VGs} (h : GV X B t us g) (hs : GsV X B ts vs gs) (hst : (assignEach (t :: ts) X.env).map (·.2) = assign t X.env :: (assignEach ts X.env).map (·.2) := by rfl) : GsV X B (t :: ts) (us ++ vs) (gcons g gs) := by
  refine ⟨pgs_imp (pgs_cons h.run hs.run hst) fun vs σ H Q ⟨F, ρ, ps, ρ', S, a, e, w⟩ => ?_⟩
  cases ps with
  | nil => cases e
  | cons p r =>
    obtain ⟨v, vr, rfl, h1, h2⟩ := a
    have e : (match g (.val p) ρ with | .next ρ' => gs r ρ' | _ => .bad) = Fl.next ρ' := e
    cases q : g (.val p) ρ with
    | next ρ1 =>
      rw [q] at e
      refine ⟨v, vr, rfl, F, H, F, ρ, .val p, ρ1, S, .refl S.ext.s, h1, q, fun F2 σ2 H2 x2 k2 S2 => ?_⟩
      exact ⟨F2, ρ1, r, ρ', S2, h2.imp fun _ _ z => Rep.mono x2.f z, e, fun F3 σ3 H3 x3 k3 S3 => w F3 σ3 H3 (x2.trans x3) (k2.trans k3) S3⟩
    | ret _ => rw [q] at e; cases e
    | brk _ => rw [q] at e; cases e
    | cont _ => rw [q] at e; cases e
    | exc _ _ => rw [q] at e; cases e
    | bad => rw [q] at e; cases e
theorem g_tup {es : List Expr} {k n : Nat} {us : List Nat} {gs : VGs} (hc : X.calm = true) (h : GsV X B es us gs) (hn : (assignEach es X.env).length = n := by rfl) (hst : (assignEach es X.env).findIdx? (·.1) = none := by rfl) : GV X B (.Tuple es k pos) us (gtup n gs) := by
  refine ⟨pg_imp (pg_tup hc h.run hn hst) fun v σ H Q ⟨F, Hs, F1, ρ, r, ρ', S, x, rr, e, w⟩ => ?_⟩
  unfold gtup at e
  split at e
  · rename_i ps
    split at e
    · rename_i hl
      simp only [RepRes, Rep] at rr
      obtain ⟨a, vs, rfl, s1, a1⟩ := rr
      have a1 := repL_iff.mp a1
      exact ⟨a, vs, rfl, same_tup x.s s1, by rw [a1.length]; exact hl, F1, ρ, ps, ρ', S.go x, a1, e, w⟩
    · cases e
  · cases e
theorem s_asg {W : WX} {tg e : Expr} {us : List Nat} {f : VE} {g : VG} (he : EV X B W e f) (hg : GV X B tg us g) (ng : ∀ r ρ, (∃ ρ', g r ρ = .next ρ') ∨ g r ρ = .bad) (hs : swapsWithSole [tg] e pos.line X.env = pure false := by rfl) (hw : swappedStores [tg] e X.env = pure none := by rfl)
    (h1 : (assignEach [tg] X.env).map (·.2) = [assign tg X.env] := by rfl) : SV X B W (.Assign [tg] e pos) (onE f g) := by
  refine ⟨ps_imp (ps_asg he.run hg.run hs hw h1) fun D σ H hw => want_onE (k := g) hw fun F F1 H1 ρ r v S x rr w => ?_⟩
  rcases ng r ρ with ⟨ρ', e⟩ | e
  · rw [e] at w
    exact ⟨F, H, F1, ρ, r, ρ', S, x, rr, e, fun F2 σ' H' x2 _ S2 => w F2 σ' H' (x.f.trans x2.f) S2⟩
  · rw [e] at w; exact w.elim
def Tame (g : VG) : Prop := ∀ r ρ, (∃ ρ', g r ρ = .next ρ') ∨ g r ρ = .bad
def Tames (g : VGs) : Prop := ∀ r ρ, (∃ ρ', g r ρ = .next ρ') ∨ g r ρ = .bad
theorem tame_name {i : Nat} : Tame (asg i) := fun _ _ => asg_next
theorem tames_nil : Tames gnil := fun r ρ => by
  cases r with
  | nil => exact .inl ⟨_, rfl⟩
  | cons => exact .inr rfl
theorem tames_cons {g : VG} {gs : VGs} (h : Tame g) (hs : Tames gs) : Tames (gcons g gs) := fun r ρ => by
  cases r with
  | nil => exact .inr rfl
  | cons p r =>
    unfold gcons
    rcases h (.val p) ρ with ⟨ρ', e⟩ | e
    · simp only [e]; exact hs r ρ'
    · simp only [e]; exact .inr trivial
theorem tame_tup {n : Nat} {gs : VGs} (h : Tames gs) : Tame (gtup n gs) := fun r ρ => by
  unfold gtup
  split
  · split
    · exact h _ _
    · exact .inr rfl
  · exact .inr rfl
end

theorem res_int {K : PySem.W.Frag} {mg : MG} {B : Bx} {F H H' : Hp} {i : Int} : RepRes K mg B F H H' (.val (.int i)) (.int i) := rep_int (K := K) (mg := mg) (F := F)
def Walks (K : PySem.W.Frag) (mg : MG) (B : Bx) (J : It) (items : List Res) (F : Hp) : Prop := ∀ (i : Nat) (F' H' : Hp), Same F F' → Same F' H' → Same B.H0 H' →
  (i < items.length → J.go i H' ∧ ∀ v H3, J.yld i H' v H3 → ∃ F3 r, Ext F' H' F3 H3 ∧ items[i]? = some r ∧ RepRes K mg B F3 H' H3 r v) ∧ (items.length ≤ i → J.stop i H')
def tVI (K : PySem.W.Frag) (mg : MG) (B : Bx) (W : WX) (src : VA) : TI := fun σ H R => ∃ F ρ, SR K mg B F ρ σ H ∧ match src ρ with
  | .ok items => ∀ J F' H', Ext F H F' H' → Walks K mg B J items F' → R J H'
  | .exc x => ∀ c d F' H', Ext F H F' H' → RepX K mg F' H' x c d → W c d σ H'
  | .bad => False
structure IV (X : Cx) (B : Bx) (W : WX) (tg iter : Expr) (src : VA) : Prop where
  run : PI X tg iter (tVI X.K X.mg B W src)
theorem pi_imp {X : Cx} {tg e : Expr} {t t' : TI} (h : PI X tg e t) (k : ∀ σ H Q, t' σ H Q → t σ H Q) : PI X tg e t' :=
  ⟨fun pins s σ H Q I q => h.run pins s σ H Q I (k σ H Q q)⟩
def Res.items : Res → Option (List Res)
  | .val (.lst xs) => some (xs.map .val)
  | .val (.tup xs) => some (xs.map .val)
  | .val (.scr ns) => some (ns.map fun n => .val (.int n))
  | .bor 0 xs => some (xs.map .val)
  | .bor (n + 1) xs => xs.mapM fun p => match p with
    | .lst ys => some (.bor n ys)
    | _ => none
  | .new _ xs => some (xs.map .val)
  | _ => none
def walkOf (f : VE) : VA := fun ρ => f ρ >>= fun r => match r.items with
  | some xs => .ok xs
  | none => .bad
def rangeR (lo hi st : Int) : List Res := (List.range ((if st > 0 then (hi - lo + st - 1) / st else (lo - hi + (-st) - 1) / (-st))).toNat).map fun (k : Nat) => .val (.int (lo + k * st))
def smallI (i : Int) : Prop := -(2 ^ 62) ≤ i ∧ i < 2 ^ 62
instance (i : Int) : Decidable (smallI i) := Classical.propDecidable _
def rng1 (j : Int) : List Res := (List.range j.toNat).map fun (k : Nat) => .val (.int (k : Int))
def rng2 (i j : Int) : List Res := (List.range (j - i).toNat).map fun (k : Nat) => .val (.int (i + (k : Int)))
def walkR1 (f : VE) : VA := fun ρ => f ρ >>= fun r => match r.pv with
  | .int j => if smallI j then .ok (rng1 j) else .bad
  | _ => .bad
def walkR2 (f g : VE) : VA := fun ρ => f ρ >>= fun r => g ρ >>= fun s => match r.pv, s.pv with
  | .int i, .int j => if smallI i ∧ smallI j then .ok (rng2 i j) else .bad
  | _, _ => .bad
def rng3 (i c : Int) (n : Nat) : List Res := (List.range n).map fun (k : Nat) => .val (.int (i + (k : Int) * c))
section
variable {K : PySem.W.Frag} {mg : MG} {B : Bx}
theorem walks_range {lo : Int} {n : Nat} {F : Hp} {items : List Res} (e : items = (List.range n).map fun (k : Nat) => .val (.int (lo + (k : Int)))) : Walks K mg B (Itr lo n) items F := by
  intro i F' H' _ hs _
  subst e
  rw [List.length_map, List.length_range]
  refine ⟨fun hi => ⟨hi, fun v H3 ⟨e1, e2⟩ => ?_⟩, fun hi => hi⟩
  subst e1 e2
  refine ⟨F', .val (.int (lo + (i : Int))), .refl hs, ?_, res_int⟩
  rw [List.getElem?_map, List.getElem?_range hi]; rfl
theorem walks_list {a : Addr} {items : List Res} {F : Hp} (h : ∀ F' H', Same F F' → Same F' H' → Same B.H0 H' → ∃ vs, SqL K H' a vs ∧ vs.length = items.length ∧ ∀ (i : Nat) (v : V), vs[i]? = some v → ∃ r, items[i]? = some r ∧ RepRes K mg B F' H' H' r v) : Walks K mg B (Itl K a) items F := by
  intro i F' H' h1 h2 h3
  obtain ⟨vs, s, l, k⟩ := h F' H' h1 h2 h3
  refine ⟨fun hi => ?_, fun hi => ⟨vs, s, by rw [l]; exact hi⟩⟩
  have hv : vs[i]? = some vs[i] := List.getElem?_eq_getElem (by rw [l]; exact hi)
  refine ⟨⟨vs, _, s, hv⟩, fun v H3 ⟨e1, e2⟩ => ?_⟩
  subst e1
  have e3 := e2 vs s
  obtain ⟨r, g1, g2⟩ := k i v e3
  exact ⟨F', r, .refl h2, g1, g2⟩
theorem walks_tup {a : Addr} {items : List Res} {F : Hp} (h : ∀ F' H', Same F F' → Same F' H' → Same B.H0 H' → ∃ vs, SqT K H' a vs ∧ vs.length = items.length ∧ ∀ (i : Nat) (v : V), vs[i]? = some v → ∃ r, items[i]? = some r ∧ RepRes K mg B F' H' H' r v) : Walks K mg B (Itt K a) items F := by
  intro i F' H' h1 h2 h3
  obtain ⟨vs, s, l, k⟩ := h F' H' h1 h2 h3
  refine ⟨fun hi => ?_, fun hi => ⟨vs, s, by rw [l]; exact hi⟩⟩
  have hv : vs[i]? = some vs[i] := List.getElem?_eq_getElem (by rw [l]; exact hi)
  refine ⟨⟨vs, _, s, hv⟩, fun v H3 ⟨e1, e2⟩ => ?_⟩
  subst e1
  have e3 := e2 vs s
  obtain ⟨r, g1, g2⟩ := k i v e3
  exact ⟨F', r, .refl h2, g1, g2⟩
inductive Lies (K : PySem.W.Frag) (mg : MG) (B : Bx) (items : List Res) (F : Hp) (a : Addr) : Prop
  | lst (h : ∀ F' H', Same F F' → Same F' H' → Same B.H0 H' → ∃ vs, SqL K H' a vs ∧ vs.length = items.length ∧ ∀ (i : Nat) (v : V), vs[i]? = some v → ∃ r, items[i]? = some r ∧ RepRes K mg B F' H' H' r v)
  | tup (h : ∀ F' H', Same F F' → Same F' H' → Same B.H0 H' → ∃ vs, SqT K H' a vs ∧ vs.length = items.length ∧ ∀ (i : Nat) (v : V), vs[i]? = some v → ∃ r, items[i]? = some r ∧ RepRes K mg B F' H' H' r v)
theorem items_val {F' H' : Hp} {xs : List PV} {vs : List V} (h : AllR (Rep K mg F') xs vs) : vs.length = (xs.map Res.val).length ∧ ∀ (i : Nat) (v : V), vs[i]? = some v → ∃ r, (xs.map Res.val)[i]? = some r ∧ RepRes K mg B F' H' H' r v := by
  refine ⟨by rw [List.length_map]; exact h.length, fun i v e => ?_⟩
  obtain ⟨p, e1, e2⟩ := h.get' e
  exact ⟨.val p, by rw [List.getElem?_map, e1]; rfl, e2⟩
theorem mapM_items {F' H' : Hp} {n : Nat} : ∀ {xs : List PV} {vs : List V} {items : List Res}, (xs.mapM fun p => match p with | .lst ys => some (Res.bor n ys) | _ => none) = some items → AllR (RepE K mg F' B.H0 (n + 1)) xs vs →
    vs.length = items.length ∧ ∀ (i : Nat) (v : V), vs[i]? = some v → ∃ r, items[i]? = some r ∧ RepRes K mg B F' H' H' r v
  | [], _, items, e, h => by
    have h : _ = [] := h
    subst h
    rw [List.mapM_nil] at e
    cases e
    exact ⟨rfl, fun i v e => by simp at e⟩
  | p :: xs, _, items, e, ⟨v, vr, e1, h1, h2⟩ => by
    subst e1
    rw [List.mapM_cons] at e
    cases p with
    | lst ys =>
      have e : ((xs.mapM fun p => match p with | .lst ys => some (Res.bor n ys) | _ => none) >>= fun r => some (Res.bor n ys :: r)) = some items := e
      cases q : (xs.mapM fun p => match p with | .lst ys => some (Res.bor n ys) | _ => none) with
      | none => rw [q] at e; cases e
      | some r =>
        rw [q] at e
        cases e
        obtain ⟨l, k⟩ := mapM_items (H' := H') q h2
        refine ⟨by rw [List.length_cons, List.length_cons, l], fun i w ew => ?_⟩
        cases i with
        | zero => simp at ew; subst ew; exact ⟨_, rfl, h1⟩
        | succ i =>
          obtain ⟨r, g1, g2⟩ := k i w (by simpa using ew)
          exact ⟨r, by simpa using g1, g2⟩
    | _ => cases e
theorem lies_of {F H F1 H1 : Hp} {r : Res} {v : V} {items : List Res} (x : Ext F H F1 H1) (hs : Same B.H0 H1) (rr : RepRes K mg B F1 H H1 r v) (e : r.items = some items) : ∃ G a, Ext F H G H1 ∧ Same F1 G ∧ v = .ref a ∧ Lies K mg B items G a := by
  cases r with
  | val p =>
    cases p with
    | lst xs =>
      cases e
      simp only [RepRes, Rep] at rr
      obtain ⟨a, vs, rfl, h1, h2⟩ := rr
      refine ⟨F1, a, x, .refl _, rfl, .lst fun F' H' k1 k2 k3 => ⟨vs, SqL.of (k2 _ _ (k1 _ _ h1)), ?_⟩⟩
      exact items_val ((repL_iff.mp h2).imp fun _ _ z => Rep.mono k1 z)
    | tup xs =>
      cases e
      simp only [RepRes, Rep] at rr
      obtain ⟨a, vs, rfl, h1, h2⟩ := rr
      refine ⟨F1, a, x, .refl _, rfl, .tup fun F' H' k1 k2 k3 => ⟨vs, same_tup k2 (same_tup k1 h1), ?_⟩⟩
      exact items_val ((repL_iff.mp h2).imp fun _ _ z => Rep.mono k1 z)
    | scr ns =>
      cases e
      simp only [RepRes, Rep] at rr
      obtain ⟨a, rfl, h1⟩ := rr
      refine ⟨F1, a, x, .refl _, rfl, .lst fun F' H' k1 k2 k3 => ⟨_, k2.seq (k1.seq h1), by rw [List.length_map, List.length_map], fun i v e => ?_⟩⟩
      rw [List.getElem?_map] at e
      cases q : ns[i]? with
      | none => rw [q] at e; cases e
      | some n =>
        rw [q] at e
        cases e
        exact ⟨.val (.int n), by rw [List.getElem?_map, q]; rfl, res_int⟩
    | _ => cases e
  | bor n xs =>
    obtain ⟨a, vs, rfl, h1, h2⟩ := rr
    cases n with
    | zero =>
      cases e
      refine ⟨F1, a, x, .refl _, rfl, .lst fun F' H' k1 k2 k3 => ⟨vs, SqL.of (k3 _ _ h1), ?_⟩⟩
      exact items_val (h2.imp fun _ _ z => Rep.mono k1 z)
    | succ n =>
      have e : (xs.mapM fun p => match p with | .lst ys => some (Res.bor n ys) | _ => none) = some items := e
      refine ⟨F1, a, x, .refl _, rfl, .lst fun F' H' k1 k2 k3 => ⟨vs, SqL.of (k3 _ _ h1), ?_⟩⟩
      exact mapM_items e (h2.imp fun _ _ z => RepE.mono k1 (.refl _) z)
  | lend n xs => cases n <;> cases e
  | new n xs =>
    cases e
    obtain ⟨L, l1, l2, l3⟩ := rr
    obtain ⟨G, x2, g1, g2⟩ := fz_do x l3
    have l4 := l1.frozen g1 g2
    simp only [Rep] at l4
    obtain ⟨a, vs, rfl, h1, h2⟩ := l4
    refine ⟨G, a, x2, g1, rfl, .lst fun F' H' k1 k2 k3 => ⟨vs, SqL.of (k2 _ _ (k1 _ _ h1)), ?_⟩⟩
    exact items_val ((repL_iff.mp h2).imp fun _ _ z => Rep.mono k1 z)
end
theorem pi_seq {X : Cx} {tg l : Expr} {tl : TE} (hl : PE X l tl) : PI X tg l (fun σ H R => tl σ H fun x H1 => ∃ a, x = .ref a ∧ (((∃ xs, SqL X.K H1 a xs) ∧ R (Itl X.K a) H1) ∨ ((∃ xs, SqT X.K H1 a xs) ∧ R (Itt X.K a) H1))) := by
  refine ⟨fun pins s σ H R I h => ?_⟩
  refine thn (hl.run pins s σ H _ I h) fun v s1 ⟨x, H1, I1, r1, q1⟩ => ?_
  obtain ⟨a, e, q⟩ := q1
  subst e
  cases r1
  rcases q with ⟨⟨xs, hq⟩, q⟩ | ⟨⟨xs, hq⟩, q⟩
  · obtain ⟨its, rv, p, hz⟩ := I1.list hq
    refine wpAny_pyIter_list p.isList ?_
    refine ⟨s1.heap.objs.size, [s1.heap.objs.size], _, _, H1, rfl, I1.kept (t' := s1.toks) fun b o e => Heap.get?_push_of_some _ e, turn_list a _, ⟨_, Heap.get?_push_size _ rfl, rfl, rfl⟩, fun b hb => ?_, q⟩
    have e : b = s1.heap.objs.size := by simpa using hb
    subst e
    exact I1.fpOk (Nat.le_refl _) (I1.hok.fresh (Nat.le_refl _))
  · obtain ⟨its, rv, p, hz⟩ := I1.tuple hq
    refine wpAny_pyIter_tuple (show s1.heap.IsTuple a its.toArray from p) ?_
    refine ⟨s1.heap.objs.size, [s1.heap.objs.size], _, _, H1, rfl, I1.kept (t' := s1.toks) fun b o e => Heap.get?_push_of_some _ e, turn_tuple a _, ⟨_, Heap.get?_push_size _ rfl, rfl, rfl⟩, fun b hb => ?_, q⟩
    have e : b = s1.heap.objs.size := by simpa using hb
    subst e
    exact I1.fpOk (Nat.le_refl _) (I1.hok.fresh (Nat.le_refl _))
section
variable {X : Cx} {B : Bx} {W : WX} {tg iter : Expr} {f g : VE} {pos : Pos}
theorem want_walk {K : PySem.W.Frag} {mg : MG} {k : Env → Res → R (List Res)} {σ : L2.St} {H : Hp} {Rr : It → Hp → Prop} {T : V → Hp → Prop} (h : tVI K mg B W (fun ρ => f ρ >>= k ρ) σ H Rr)
    (step : ∀ F F1 H1 ρ r v, SR K mg B F ρ σ H → Ext F H F1 H1 → RepRes K mg B F1 H H1 r v → (match k ρ r with
      | .ok items => ∀ J F' H', Ext F H F' H' → Walks K mg B J items F' → Rr J H'
      | .exc x => ∀ c d F' H', Ext F H F' H' → RepX K mg F' H' x c d → W c d σ H'
      | .bad => False) → T v H1) : tV K mg B W f σ H T := by
  obtain ⟨F, ρ, S, w⟩ := h
  refine ⟨F, ρ, S, ?_⟩
  cases q : f ρ with
  | ok r => simp only [q] at w; intro v F1 H1 x rr; exact step F F1 H1 ρ r v S x rr w
  | exc y => simp only [q] at w; exact w
  | bad => simp only [q] at w; exact w
theorem i_seq (h : EV X B W iter f) : IV X B W tg iter (walkOf f) := by
  refine ⟨pi_imp (pi_seq h.run) fun σ H Rr hw => ?_⟩
  refine want_walk (k := fun _ r => match r.items with | some xs => .ok xs | none => .bad) hw fun F F1 H1 ρ r v S x rr w => ?_
  cases q : r.items with
  | none => simp only [q] at w
  | some items =>
    simp only [q] at w
    obtain ⟨G, a, x2, g1, rfl, l⟩ := lies_of x (S.ext.h.trans x.h) rr q
    refine ⟨a, rfl, ?_⟩
    cases l with
    | lst l =>
      obtain ⟨vs, s, _⟩ := l G H1 (.refl _) x2.s (S.ext.h.trans x.h)
      exact .inl ⟨⟨vs, s⟩, w _ G H1 x2 (walks_list l)⟩
    | tup l =>
      obtain ⟨vs, s, _⟩ := l G H1 (.refl _) x2.s (S.ext.h.trans x.h)
      exact .inr ⟨⟨vs, s⟩, w _ G H1 x2 (walks_tup l)⟩
theorem i_range1 {a : Expr} {p : Pos} (hg : Gl X "range") (hm : X.mg "range" = none) (h : EV X B W a f) (hst : starEach [a] X.env = (false, eval a X.env) :: starEach [] X.env := by rfl) (hs : starEach [a] X.env = [(false, eval a X.env)] := by rfl) : IV X B W tg (.Call (.Name "range" p) [a] [] pos) (walkR1 f) := by
  refine ⟨pi_imp (pi_range1 hg hm (pa_cons h.run pa_nil hst) hs) fun σ H Rr hw => ?_⟩
  refine want_walk (k := fun _ r => match r.pv with | .int j => if smallI j then .ok (rng1 j) else .bad | _ => .bad) hw fun F F1 H1 ρ r v S x rr w => ?_
  cases q : r.pv with
  | int j =>
    simp only [q] at w
    split at w
    · rename_i items hi
      split at hi
      · rename_i hj
        cases hi
        refine ⟨j, by rw [see_int (S.ext.h.trans x.h) rr q], hj.1, hj.2, w _ F1 H1 x (walks_range ?_)⟩
        unfold rng1
        simp only [Int.zero_add]
      · cases hi
    · rename_i hi
      split at hi <;> cases hi
    · exact w.elim
  | _ => simp only [q] at w
theorem i_range2 {a b : Expr} {p : Pos} (hg : Gl X "range") (hm : X.mg "range" = none) (h : EV X B W a f) (h2 : EV X B W b g) (hst : starEach [a, b] X.env = (false, eval a X.env) :: starEach [b] X.env := by rfl) (hst2 : starEach [b] X.env = (false, eval b X.env) :: starEach [] X.env := by rfl)
    (hs : starEach [a, b] X.env = [(false, eval a X.env), (false, eval b X.env)] := by rfl) (hs2 : starEach [b] X.env = [(false, eval b X.env)] := by rfl) : IV X B W tg (.Call (.Name "range" p) [a, b] [] pos) (walkR2 f g) := by
  refine ⟨pi_imp (pi_range2 hg hm (pa_cons h.run (pa_cons h2.run pa_nil hst2) hst) hs hs2) fun σ H Rr hw => ?_⟩
  refine want_walk (k := fun ρ r => g ρ >>= fun s => match r.pv, s.pv with | .int i, .int j => if smallI i ∧ smallI j then .ok (rng2 i j) else .bad | _, _ => .bad) hw fun F F1 H1 ρ r v S x rr w => ⟨F1, ρ, S.go x, ?_⟩
  cases q : g ρ with
  | exc y => simp only [q] at w; intro c d F2 H2 x2 rx; exact w c d F2 H2 (x.trans x2) rx
  | bad => simp only [q] at w; exact w
  | ok s =>
    intro v2 F2 H2 x2 rr2
    have w : (match (match r.pv, s.pv with | .int i, .int j => if smallI i ∧ smallI j then .ok (rng2 i j) else .bad | _, _ => .bad : Pv.R (List Res)) with
      | .ok items => ∀ J F' H', Ext F H F' H' → Walks X.K X.mg B J items F' → Rr J H'
      | .exc x => ∀ c d F' H', Ext F H F' H' → RepX X.K X.mg F' H' x c d → W c d σ H'
      | .bad => False) := by simp only [q] at w; exact w
    have x02 := x.trans x2
    have hs0 := S.ext.h.trans x02.h
    split at w
    · rename_i items hi
      split at hi
      · rename_i i j e1 e2
        split at hi
        · rename_i hj
          cases hi
          exact ⟨i, j, by rw [see_int hs0 (rr.ext x2) e1, see_int hs0 rr2 e2], ⟨hj.1.1, hj.1.2, hj.2.1, hj.2.2⟩, w _ F2 H2 x02 (walks_range rfl)⟩
        · cases hi
      · cases hi
    · rename_i hi
      split at hi
      · split at hi <;> cases hi
      · cases hi
    · exact w.elim
end
def runFor (g : VG) (body : VS) : List Res → VS
  | [], ρ => .next ρ
  | r :: rs, ρ => match g r ρ with
    | .next ρ1 => (match body ρ1 with
      | .next ρ2 => runFor g body rs ρ2
      | .cont ρ2 => runFor g body rs ρ2
      | .brk ρ2 => .next ρ2
      | e => e)
    | _ => .bad
def forS (src : VA) (g : VG) (body : VS) : VS := fun ρ => match src ρ with
  | .ok items => runFor g body items ρ
  | .exc x => .exc x ρ
  | .bad => .bad
section
variable {X : Cx} {B : Bx} {W : WX} {tg iter : Expr} {src : VA} {us : List Nat} {g : VG} {body : VS} {sts : List Stmt} {pos : Pos}
theorem s_for (hp : PassesOwn (model X.prog X.w) X.A X.env X.xe) (hc : X.calm = true) (hi : IV X B W tg iter src) (hg : GV X B tg us g) (hb : BV X B W sts body) (hs : ∀ x, foldedSetIterable iter X.env x = pure x := by intro _; rfl) :
    SV X B W (.For tg iter sts [] pos) (forS src g body) := by
  refine ⟨ps_imp (ps_for hp hc hi.run hg.run hb.run hs) fun D σ H ⟨F, ρ, S, w⟩ => ⟨F, ρ, S, ?_⟩⟩
  unfold forS at w
  cases q : src ρ with
  | exc y => rw [q] at w; intro c d F1 H1 x rx; exact w c d F1 σ H1 x.f (S.go x) rx
  | bad => rw [q] at w; exact w
  | ok items =>
    rw [q] at w
    intro J F1 H1 x wk
    refine ⟨fun i m σ H => m = items.length - i ∧ i ≤ items.length ∧ ∃ F' ρ', Same F1 F' ∧ SR X.K X.mg B F' ρ' σ H ∧ WantS X.K X.mg B W F' D (runFor g body (items.drop i) ρ'), ⟨_, rfl, Nat.zero_le _, F1, ρ, .refl _, S.go x, w.mono x.f⟩, ?_⟩
    rintro i m σ2 H2 ⟨rfl, hle, F2, ρ2, s2, S2, w2⟩
    have k := wk i F2 H2 s2 S2.ext.s S2.ext.h
    by_cases hlt : i < items.length
    · obtain ⟨k1, k2⟩ := k.1 hlt
      have ed : items.drop i = items[i] :: items.drop (i + 1) := (List.drop_eq_getElem_cons hlt)
      rw [ed] at w2
      unfold runFor at w2
      refine .inr ⟨k1, fun σ' H' => ∃ F' ρ', Same F1 F' ∧ SR X.K X.mg B F' ρ' σ' H' ∧ WantS X.K X.mg B W F' D (runFor g body (items.drop (i + 1)) ρ'), fun σ' H' hn => ⟨items.length - (i + 1), by omega, rfl, hlt, hn⟩, fun v H3 hy => ?_⟩
      obtain ⟨F3, r, x3, er, rr⟩ := k2 v H3 hy
      have er2 : items[i] = r := by rw [List.getElem?_eq_getElem hlt] at er; exact Option.some.inj er
      rw [er2] at w2
      cases q1 : g r ρ2 with
      | next ρ3 =>
        rw [q1] at w2
        refine ⟨F2, H2, F3, ρ2, r, ρ3, S2, x3, rr, q1, fun F4 σ4 H4 x4 _ S4 => ⟨F4, ρ3, S4, ?_⟩⟩
        have s24 : Same F2 F4 := x3.f.trans x4.f
        have s4 : Same F1 F4 := s2.trans s24
        cases q2 : body ρ3 with
        | next ρ5 =>
          simp only [q2] at w2
          exact fun F5 σ5 H5 k5 S5 => ⟨F5, ρ5, s4.trans k5, S5, w2.mono (s24.trans k5)⟩
        | cont ρ5 =>
          simp only [q2] at w2
          exact fun F5 σ5 H5 k5 S5 => ⟨F5, ρ5, s4.trans k5, S5, w2.mono (s24.trans k5)⟩
        | brk ρ5 =>
          simp only [q2] at w2
          exact fun F5 σ5 H5 k5 S5 => w2 F5 σ5 H5 (s24.trans k5) S5
        | ret r => simp only [q2] at w2; exact w2
        | exc y ρ5 => simp only [q2] at w2; exact fun c d F5 σ5 H5 k5 => w2 c d F5 σ5 H5 (s24.trans k5)
        | bad => simp only [q2] at w2; exact w2.elim
      | ret _ => rw [q1] at w2; exact w2.elim
      | brk _ => rw [q1] at w2; exact w2.elim
      | cont _ => rw [q1] at w2; exact w2.elim
      | exc _ _ => rw [q1] at w2; exact w2.elim
      | bad => rw [q1] at w2; exact w2.elim
    · refine .inl ⟨k.2 (by omega), ?_⟩
      rw [List.drop_eq_nil_of_le (by omega)] at w2
      exact w2 F2 σ2 H2 (.refl _) S2
end
end
end Pv
namespace Pv
open PySem PySem.Spec L2
noncomputable section

abbrev WF : WX := fun _ _ _ _ => False
def stD (d : Nat) (r : Res) : R PV := match d with
  | 0 => stR r
  | d + 1 => match r with
    | .new n xs => if n = d then .ok (.lst xs) else .bad
    | _ => .bad
def runLc (d : Nat) (g : VG) (tt : VT) (te : VE) : List Res → Env → R (List PV)
  | [], _ => .ok []
  | r :: rs, ρ => match g r ρ with
    | .next ρ1 => tt ρ1 >>= fun b => if b = true then (te ρ1 >>= fun y => stD d y >>= fun p => runLc d g tt te rs ρ >>= fun ps => .ok (p :: ps)) else runLc d g tt te rs ρ
    | _ => .bad
def noX {α : Type} : R α → R α
  | .ok a => .ok a
  | _ => .bad
def wipeE (ρ : Env) : List Nat → Env
  | [] => ρ
  | v :: vs => (wipeE ρ vs).set v .unset
def lcV (d : Nat) (src : VA) (g : VG) (tt : VT) (te : VE) (vs : List Nat) : VE := fun ρ => src ρ >>= fun items => noX (runLc d g tt te items (wipeE ρ vs)) >>= fun ps => if ps.length ≤ sizeLine then .ok (.new d ps) else .bad
def yesT : VT := fun _ => .ok true
structure TsV (X : Cx) (B : Bx) (W : WX) (ifs : List Expr) (f : VT) : Prop where
  run : PTs X ifs (tVT X.K X.mg B W f)
theorem pts_imp {X : Cx} {e : List Expr} {t t' : TT} (h : PTs X e t) (k : ∀ σ H Q, t' σ H Q → t σ H Q) : PTs X e t' :=
  ⟨fun pins s σ H Q I q => h.run pins s σ H Q I (k σ H Q q)⟩
theorem ts_nil {X : Cx} {B : Bx} {W : WX} : TsV X B W [] yesT := ⟨pts_imp pts_nil fun σ H Q ⟨F, ρ, S, w⟩ => w F H (.refl S.ext.s)⟩
theorem ts_one {X : Cx} {B : Bx} {W : WX} {c : Expr} {f : VT} (h : TV X B W c f) : TsV X B W [c] f := ⟨pts_one h.run⟩
section
variable {K : PySem.W.Frag} {mg : MG} {B : Bx}
theorem SR.wipe {F H : Hp} {ρ : Env} {σ : L2.St} (S : SR K mg B F ρ σ H) : ∀ vs : List Nat, SR K mg B F (wipeE ρ vs) (L2.wipe σ vs) H
  | [] => S
  | v :: vs => by
    unfold wipeE L2.wipe
    exact (SR.wipe S vs).putNew (.refl S.ext.s) v (s := .unset) (L := []) rfl List.nodup_nil (by simp)
theorem AllO.snoc {R : PV → V → List Addr → Prop} {p : PV} {v : V} {L2 : List Addr} (h : R p v L2) : ∀ {xs : List PV} {vs : List V} {L : List Addr}, AllO R xs vs L → AllO R (xs ++ [p]) (vs ++ [v]) (L ++ L2)
  | [], _, _, ⟨e1, e2⟩ => ⟨v, [], L2, [], by rw [e1]; rfl, by rw [e2]; simp, h, rfl, rfl⟩
  | x :: xs, _, _, ⟨w, r, M1, M2, e1, e2, h1, h2⟩ => ⟨w, r ++ [v], M1, M2 ++ L2, by rw [e1]; rfl, by rw [e2, List.append_assoc], h1, AllO.snoc h h2⟩
theorem AllO.length {R : PV → V → List Addr → Prop} : ∀ {xs : List PV} {vs : List V} {L : List Addr}, AllO R xs vs L → vs.length = xs.length
  | [], _, _, ⟨e, _⟩ => by rw [e]; rfl
  | x :: xs, _, _, ⟨w, r, M1, M2, e1, e2, h1, h2⟩ => by rw [e1, List.length_cons, List.length_cons, AllO.length h2]
theorem stD_ok {F H F1 H1 : Hp} {d : Nat} {r : Res} {v : V} {p : PV} (x : Ext F H F1 H1) (rr : RepRes K mg B F1 H H1 r v) (e : stD d r = .ok p) :
    ∃ G L, Ext F H G H1 ∧ Same F1 G ∧ RepO K mg G H1 d p v L ∧ L.Nodup ∧ (∀ a ∈ L, G a = none ∧ H a = none) ∧ ∀ a o, G a = some o → F1 a = none → H a = none := by
  cases d with
  | zero =>
    have e : stR r = .ok p := e
    cases r with
    | val q => cases e; exact ⟨F1, [], x, .refl _, ⟨rfl, rr⟩, List.nodup_nil, by simp, fun a o e n => by rw [n] at e; cases e⟩
    | bor n xs => cases e
    | lend n xs => cases e
    | new n xs =>
      cases e
      obtain ⟨M, m1, m2, m3⟩ := rr
      refine ⟨Pv.frz F1 H1 M, [], x.frz m3, frz_same fun a ha => (m3 a ha).1, ⟨rfl, m1.frozen (frz_same fun a ha => (m3 a ha).1) fun a ha o e => by rw [frz_in ha]; exact e⟩, List.nodup_nil, by simp, fun a o e n => ?_⟩
      by_cases ha : a ∈ M
      · exact (m3 a ha).2
      · rw [frz_out ha, n] at e; cases e
  | succ d =>
    cases r with
    | new n xs =>
      have e : (if n = d then R.ok (PV.lst xs) else .bad) = .ok p := e
      split at e
      · rename_i hn
        cases e
        subst hn
        obtain ⟨M, m1, m2, m3⟩ := rr
        exact ⟨F1, M, x, .refl _, m1, m2, m3, fun a o e n => by rw [n] at e; cases e⟩
      · cases e
    | _ => cases e
end
section
variable {X : Cx} {B : Bx} {W : WX} {elt tg iter : Expr} {ifs : List Expr} {scope : Scope} {own : List (Str × Nat)} {src : VA} {us : List Nat} {g : VG} {tt : VT} {te : VE} {d : Nat} {pos : Pos}
theorem want_lc {K : PySem.W.Frag} {mg : MG} {σ : L2.St} {H : Hp} {Q : VK} {vs : List Nat} (hu : ∀ j ∈ us, j ∈ vs) (h : tV K mg B W (lcV d src g tt te vs) σ H Q) :
    tLc (tVI K mg B W src) (tVG K mg B us g) (tVT K mg B WF tt) (tV K mg B WF te) vs σ H Q := by
  obtain ⟨F, ρ, S, w⟩ := h
  have w : WantE K mg B W F H σ Q (src ρ >>= fun items => noX (runLc d g tt te items (wipeE ρ vs)) >>= fun ps => if ps.length ≤ sizeLine then .ok (.new d ps) else .bad) := w
  refine ⟨F, ρ, S, ?_⟩
  cases q : src ρ with
  | exc y => rw [q] at w; exact w
  | bad => rw [q] at w; exact w.elim
  | ok items =>
    rw [q] at w
    have w : WantE K mg B W F H σ Q (noX (runLc d g tt te items (wipeE ρ vs)) >>= fun ps => if ps.length ≤ sizeLine then .ok (.new d ps) else .bad) := w
    cases q2 : runLc d g tt te items (wipeE ρ vs) with
    | exc y => rw [q2] at w; exact w.elim
    | bad => rw [q2] at w; exact w.elim
    | ok all =>
      rw [q2] at w
      have w : WantE K mg B W F H σ Q (if all.length ≤ sizeLine then .ok (.new d all) else .bad) := w
      split at w
      case isFalse => exact w.elim
      rename_i hsz
      intro J F1 H1 x wk D hD
      have hDF : F1 D = none := x.s.free hD
      refine ⟨fun i m H2 => m = items.length - i ∧ i ≤ items.length ∧ ∃ F2 acc ps L qs, Ext F1 H1 F2 H2 ∧ F2 D = none ∧ H2 D = some (.lst acc) ∧ AllO (RepO K mg F2 H2 d) ps acc L ∧ (D :: L).Nodup ∧ (∀ a ∈ L, F2 a = none ∧ H1 a = none) ∧ runLc d g tt te (items.drop i) (wipeE ρ vs) = .ok qs ∧ all = ps ++ qs,
        ⟨_, rfl, Nat.zero_le _, F1, [], [], [], all, Ext.lay x.s hD, hDF, upd_same, ⟨rfl, rfl⟩, by simp, by simp, q2, rfl⟩, ?_⟩
      rintro i m H2 ⟨rfl, hle, F2, acc, ps, L, qs, x2, d1, d2, a1, a2, a3, r1, ea⟩
      have x02 := x.trans x2
      have S2 := S.go x02
      have k := wk i F2 H2 x2.f x2.s S2.ext.h
      by_cases hlt : i < items.length
      · obtain ⟨k1, k2⟩ := k.1 hlt
        rw [List.drop_eq_getElem_cons hlt] at r1
        unfold runLc at r1
        refine .inr ⟨k1, fun H2 => ∃ F2 acc ps L qs, Ext F1 H1 F2 H2 ∧ F2 D = none ∧ H2 D = some (.lst acc) ∧ AllO (RepO K mg F2 H2 d) ps acc L ∧ (D :: L).Nodup ∧ (∀ a ∈ L, F2 a = none ∧ H1 a = none) ∧ runLc d g tt te (items.drop (i + 1)) (wipeE ρ vs) = .ok qs ∧ all = ps ++ qs,
          fun H' hn => ⟨items.length - (i + 1), by omega, rfl, hlt, hn⟩, fun v H3 hy => ?_⟩
        obtain ⟨F3, r, x3, er, rr⟩ := k2 v H3 hy
        have er2 : items[i] = r := by rw [List.getElem?_eq_getElem hlt] at er; exact Option.some.inj er
        rw [er2] at r1
        have S2w := S2.wipe vs
        cases q3 : g r (wipeE ρ vs) with
        | next ρ3 =>
          rw [q3] at r1
          refine ⟨F2, H2, F3, wipeE ρ vs, r, ρ3, S2w, x3, rr, q3, fun F4 σ4 H4 x4 kp S4 => ⟨by rw [kept_wipe kp hu]; exact kept_wipe (ts := vs) ⟨wipe_length σ vs, fun j hj => by rw [wipe_get, if_neg hj]⟩ (fun j h => h), F4, ρ3, S4, ?_⟩⟩
          have x24 := x3.trans x4
          have r1 : (tt ρ3 >>= fun b => if b = true then (te ρ3 >>= fun y => stD d y >>= fun p => runLc d g tt te (items.drop (i + 1)) (wipeE ρ vs) >>= fun ps => .ok (p :: ps)) else runLc d g tt te (items.drop (i + 1)) (wipeE ρ vs)) = R.ok qs := r1
          cases q4 : tt ρ3 with
          | exc y => rw [q4] at r1; cases r1
          | bad => rw [q4] at r1; cases r1
          | ok b =>
            rw [q4] at r1
            have r1 : (if b = true then (te ρ3 >>= fun y => stD d y >>= fun p => runLc d g tt te (items.drop (i + 1)) (wipeE ρ vs) >>= fun ps => .ok (p :: ps)) else runLc d g tt te (items.drop (i + 1)) (wipeE ρ vs)) = R.ok qs := r1
            intro F5 H5 x5
            have x25 := x24.trans x5
            have noD : ∀ {G' G : Hp} {H' : Hp}, Ext F2 H2 G' H' → G' D = none := fun {G' G H'} y => by
              cases z : G' D with
              | none => rfl
              | some u =>
                have := y.n D u z d1
                rw [d2] at this; cases this
            have noL : ∀ {G' : Hp} {H' : Hp}, Ext F2 H2 G' H' → ∀ a ∈ L, G' a = none ∧ H1 a = none := fun {G' H'} y a ha => by
              refine ⟨?_, (a3 a ha).2⟩
              cases z : G' a with
              | none => rfl
              | some u =>
                have z2 := y.n a u z (a3 a ha).1
                obtain ⟨o, ho⟩ := AllO.there (H := H2) (fun _ _ _ h => RepO.there h) a1 a ha
                rw [z2] at ho; cases ho
            cases b with
            | false =>
              rw [if_neg Bool.false_ne_true] at r1 ⊢
              refine ⟨F5, acc, ps, L, qs, x2.trans x25, noD (G := F5) x25, x25.h _ _ d2, AllO.imp (fun p v L' hs h => RepO.mono x25.f (fun a ha o e => x25.h a o e) h) a1, a2, noL x25, r1, ea⟩
            | true =>
              rw [if_pos rfl] at r1 ⊢
              refine ⟨F5, ρ3, S4.go x5, ?_⟩
              cases q5 : te ρ3 with
              | exc y => rw [q5] at r1; cases r1
              | bad => rw [q5] at r1; cases r1
              | ok y =>
                rw [q5] at r1
                intro vy F6 H6 x6 ry
                have r1 : (stD d y >>= fun p => runLc d g tt te (items.drop (i + 1)) (wipeE ρ vs) >>= fun ps => .ok (p :: ps)) = R.ok qs := r1
                cases q6 : stD d y with
                | exc z => rw [q6] at r1; cases r1
                | bad => rw [q6] at r1; cases r1
                | ok p =>
                  rw [q6] at r1
                  have r1 : (runLc d g tt te (items.drop (i + 1)) (wipeE ρ vs) >>= fun ps => .ok (p :: ps)) = R.ok qs := r1
                  cases q7 : runLc d g tt te (items.drop (i + 1)) (wipeE ρ vs) with
                  | exc z => rw [q7] at r1; cases r1
                  | bad => rw [q7] at r1; cases r1
                  | ok rest =>
                    rw [q7] at r1
                    cases r1
                    obtain ⟨G, M, xg, g1, g2, g3, g4, _⟩ := stD_ok x6 ry q6
                    have x2g := x25.trans xg
                    have hD6 : H6 D = some (.lst acc) := x2g.h _ _ d2
                    have hal : acc.length = ps.length := a1.length
                    refine ⟨acc, hD6, ?_, ?_⟩
                    · rw [hal]
                      rw [ea, List.length_append, List.length_cons] at hsz
                      omega
                    · have a1' : AllO (RepO K mg G (upd H6 D (.lst (acc ++ [vy]))) d) ps acc L := AllO.imp (fun p v L' hs h => RepO.mono x2g.f (fun a ha o e => by
                          rw [upd_ne]
                          · exact x2g.h a o e
                          · intro z
                            rw [z] at ha
                            exact (List.nodup_cons.mp a2).1 (hs D ha)) h) a1
                      have hMD : ∀ a ∈ M, a ≠ D := fun a ha z => by
                        have := (g4 a ha).2
                        rw [z, x25.h _ _ d2] at this; cases this
                      have g2' : RepO K mg G (upd H6 D (.lst (acc ++ [vy]))) d p vy M := g2.mono (.refl _) fun a ha o e => by rw [upd_ne (hMD a ha)]; exact e
                      have xx : Ext F1 H1 G (upd H6 D (.lst (acc ++ [vy]))) := by
                        have y := x2.trans x2g
                        refine ⟨y.f, fun a o e => ?_, fun a o e => ?_, y.n⟩
                        · rw [upd_ne (ne_of_none e hD)]; exact y.h a o e
                        · rw [upd_ne (ne_of_none e (noD (G := G) x2g))]; exact y.s a o e
                      refine ⟨G, acc ++ [vy], ps ++ [p], L ++ M, rest, xx, noD (G := G) x2g, upd_same, AllO.snoc g2' a1', ?_, fun a ha => ?_, rfl, by rw [List.append_assoc]; exact ea⟩
                      · rw [← List.cons_append, List.nodup_append]
                        refine ⟨a2, g3, fun a ha b hb e => ?_⟩
                        subst e
                        rcases List.mem_cons.mp ha with z | ha
                        · exact hMD a hb z
                        · have z := (g4 a hb).2
                          obtain ⟨o, ho⟩ := AllO.there (H := H2) (fun _ _ _ h => RepO.there h) a1 a ha
                          rw [x25.h _ _ ho] at z; cases z
                      · rcases List.mem_append.mp ha with ha | ha
                        · exact noL x2g a ha
                        · exact ⟨(g4 a ha).1, (x2.h.trans x25.h).free (g4 a ha).2⟩
        | ret _ => rw [q3] at r1; cases r1
        | brk _ => rw [q3] at r1; cases r1
        | cont _ => rw [q3] at r1; cases r1
        | exc _ _ => rw [q3] at r1; cases r1
        | bad => rw [q3] at r1; cases r1
      · refine .inl ⟨k.2 (by omega), ?_⟩
        rw [List.drop_eq_nil_of_le (by omega)] at r1
        cases r1
        rw [List.append_nil] at ea
        subst ea
        refine w _ F2 H2 x02 ⟨D :: L, ⟨D, acc, L, rfl, d2, rfl, a1⟩, a2, fun a ha => ?_⟩
        rcases List.mem_cons.mp ha with rfl | ha
        · exact ⟨d1, x.h.free hD⟩
        · exact ⟨(a3 a ha).1, x.h.free (a3 a ha).2⟩
theorem e_lc (hc : X.calm = true) (hN : X.N.Nodup) (hi : IV X B W tg iter src) (ok : BlkOk X.N X.env.scope scope own) (hu : ∀ j ∈ us, j ∈ own.map (·.2))
    (hg : ∀ (s : Shared) (H : Hp) (C : Addr) (cl : List (Str × Addr)) (fp : List Addr), GV (X.blk s H scope (compEnvC scope cl C X.env) fp) B tg us g)
    (ht : ∀ (s : Shared) (H : Hp) (C : Addr) (cl : List (Str × Addr)) (fp : List Addr), TsV (X.blk s H scope (compEnvC scope cl C X.env) fp) B WF ifs tt)
    (he : ∀ (s : Shared) (H : Hp) (C : Addr) (cl : List (Str × Addr)) (fp : List Addr), EV (X.blk s H scope (compEnvC scope cl C X.env) fp) B WF elt te) (hs : ∀ x, foldedSetIterable iter X.env x = pure x := by intro _; rfl) :
    EV X B W (.ListComp elt [⟨tg, iter, ifs, 0⟩] scope pos) (lcV d src g tt te (own.map (·.2))) :=
  (.of (pe_lc (g := tVG X.K X.mg B us g) (tt := tVT X.K X.mg B WF tt) (te := tV X.K X.mg B WF te) hc hN hi.run ok (fun s H C cl fp => (hg s H C cl fp).run) (fun s H C cl fp => (ht s H C cl fp).run) (fun s H C cl fp => (he s H C cl fp).run) hs) fun σ H Q h => want_lc hu h)
theorem s_setLc {i : Nat} {y : Str} {py spos : Pos} (hc : X.calm = true) (hN : X.N.Nodup) (hy : X.N[i]? = some y) (hyl : X.env.scope.names.lookup y = some .local)
    (hsw : swapsWith (.ListComp elt [⟨tg, iter, ifs, 0⟩] scope pos) (some (.Name y py)) spos.line X.env = pure true) (hi : IV X B W tg iter src) (ok : BlkOk X.N X.env.scope scope own) (hu : ∀ j ∈ us, j ∈ own.map (·.2))
    (hg : ∀ (s : Shared) (H : Hp) (C : Addr) (cl : List (Str × Addr)) (fp : List Addr), GV (X.blk s H scope (compEnvC scope cl C X.env) fp) B tg us g)
    (ht : ∀ (s : Shared) (H : Hp) (C : Addr) (cl : List (Str × Addr)) (fp : List Addr), TsV (X.blk s H scope (compEnvC scope cl C X.env) fp) B WF ifs tt)
    (he : ∀ (s : Shared) (H : Hp) (C : Addr) (cl : List (Str × Addr)) (fp : List Addr), EV (X.blk s H scope (compEnvC scope cl C X.env) fp) B WF elt te) (hs : ∀ x, foldedSetIterable iter X.env x = pure x := by intro _; rfl) :
    SV X B W (.Assign [.Name y py] (.ListComp elt [⟨tg, iter, ifs, 0⟩] scope pos) spos) (setS i (lcV d src g tt te (own.map (·.2)))) := by
  refine ⟨ps_imp (ps_setLc (g := tVG X.K X.mg B us g) (tt := tVT X.K X.mg B WF tt) (te := tV X.K X.mg B WF te) hc hN hy hyl hsw hi.run ok (fun s H C cl fp => (hg s H C cl fp).run) (fun s H C cl fp => (ht s H C cl fp).run) (fun s H C cl fp => (he s H C cl fp).run) hs) fun D σ H hw => ?_⟩
  refine want_lc hu (want_onE (k := fun r => asg i r) hw fun F F1 H1 ρ r v S x rr w => ?_)
  rcases asg_next (i := i) (r := r) (ρ := ρ) with ⟨ρ', e⟩ | e
  · rw [e] at w; exact w F1 _ H1 x.f (put_res S x rr e)
  · rw [e] at w; exact w.elim
end
end
end Pv
namespace Pv
open PySem PySem.Spec L2
noncomputable section

abbrev Fn := List Res → R Res
def spV (K : PySem.W.Frag) (mg : MG) (n : Nat) (fn : Fn) : Sp := fun vs H Q E => ∃ F args, args.length = n ∧ Same F H ∧ AllR (RepArg K mg F H) args vs ∧ match fn args with
  | .ok r => ∀ v F' H', Ext F H F' H' → RepRet K mg ⟨H, F, none, none⟩ F' H' r v → Q v H'
  | .exc x => ∀ c d F' H', Ext F H F' H' → RepX K mg F' H' x c d → E c d H'
  | .bad => False
theorem spV_len {K : PySem.W.Frag} {mg : MG} {n : Nat} {fn : Fn} {vs : List V} {H : Hp} {Q : VK} {E : XK} (h : spV K mg n fn vs H Q E) : vs.length = n := by
  obtain ⟨F, args, hl, _, ha, _⟩ := h
  rw [ha.length]; exact hl
def slotOf : Res → Slot
  | .val p => .val p
  | .bor n xs => .bor n xs
  | _ => .unset
def runFn (N : Nat) (f : VS) : Fn := fun args => match f (args.map slotOf ++ List.replicate (N - args.length) .unset) with
  | .next _ => .ok (.val .non)
  | .ret r => .ok r
  | .exc x _ => .exc x
  | _ => .bad
section
variable {K : PySem.W.Frag} {mg : MG}
theorem start_get {N : List Str} {vs : List V} {args : List Res} {F H : Hp} (h : AllR (RepArg K mg F H) args vs) (i : Nat) (s : Slot) (e : (args.map slotOf ++ List.replicate (N.length - args.length) .unset)[i]? = some s) :
    SlotR K mg ⟨H, F, none, none⟩ F H s ((L2.start N vs)[i]?) [] := by
  unfold L2.start
  by_cases hi : i < args.length
  · rw [List.getElem?_append_left (by rw [List.length_map]; exact hi), List.getElem?_map, List.getElem?_eq_getElem hi] at e
    cases e
    obtain ⟨v, ev, rv⟩ := h.get (i := i) (List.getElem?_eq_getElem hi)
    have hv : (vs.map some ++ List.replicate (N.length - vs.length) none)[i]? = some (some v) := by
      rw [List.getElem?_append_left (by rw [List.length_map, h.length]; exact hi), List.getElem?_map, ev]; rfl
    rw [hv]
    revert rv
    cases args[i] with
    | val p => exact fun rv => ⟨rfl, v, rfl, rv⟩
    | bor n xs => exact fun rv => ⟨rfl, v, rfl, rv⟩
    | lend n xs => exact fun rv => rv.elim
    | new n xs => exact fun rv => rv.elim
  · have e2 : s = .unset := by
      rw [List.getElem?_append_right (by rw [List.length_map]; omega), List.length_map] at e
      exact ((List.getElem?_replicate.symm.trans e |> fun z => by
        by_cases q : i - args.length < N.length - args.length
        · rw [if_pos q] at z; exact (Option.some.inj z).symm
        · rw [if_neg q] at z; cases z))
    subst e2
    rfl
theorem start_sr {N : List Str} {vs : List V} {args : List Res} {F H : Hp} (hs : Same F H) (h : AllR (RepArg K mg F H) args vs) : SR K mg ⟨H, F, none, none⟩ F (args.map slotOf ++ List.replicate (N.length - args.length) .unset) (L2.start N vs) H := by
  refine ⟨.refl hs, ?_, fun _ => [], fun i s e => start_get h i s e, fun _ => List.nodup_nil, by simp, by simp⟩
  unfold L2.start
  simp only [List.length_append, List.length_map, List.length_replicate, h.length]
end
section
variable {P : Program} {w : World} {K : PySem.W.Frag} {mg : Str → Option Value} {base : Heap}
theorem fn_okV {x qual : Str} {params : Arguments} {body : List Stmt} {scope : Scope} {dvs : List V} {kws : List (Str × V)} {f : Addr} {fd : FuncData} {N ps : List Str} {k : Nat} {b : VS}
    (F : FunD K x qual params body scope dvs kws f fd) (S : FnScope N ps scope)
    (hb : ∀ (X : Cx) (B : Bx) (W : WX), X.prog = P → X.w = w → X.K = K → X.mg = mg → X.base = base → X.calm = true → X.N = N → (∃ cd h, X.env = PyProof.Rows.envOfC qual scope h f cd) → X.stack = X.env :: X.outer → X.ex = [] → X.fn = (fun _ => true) → Room k X.A → Takes X W → PassesOwn (model X.prog X.w) X.A X.env X.xe → BV X B W body b) :
    FnOk P w K mg base (L2.CX P w) (k + 1) f fd ps (spV K mg ps.length (runFn N.length b)) := by
  refine F.ok S (fun vs H Q E h => spV_len h) (fun cdv A outer s H vs Q E hr h => ?_)
  obtain ⟨G, args, hl, hs, ha, w0⟩ := h
  have bv := hb (cxOf (L2.CX P w) P w K mg base N qual scope f cdv A outer s H E) ⟨H, G, none, none⟩ (fun c d _ H => E c d H) rfl rfl rfl rfl rfl rfl rfl ⟨cdv, _, rfl⟩ rfl rfl rfl hr (takes_of rfl rfl rfl rfl) (passes_of rfl)
  refine ⟨_, bv.run, G, _, start_sr hs ha, ?_⟩
  unfold runFn at w0
  revert w0
  cases b (args.map slotOf ++ List.replicate (N.length - args.length) .unset) with
  | next ρ => exact fun w0 F' σ' H' _ S' => w0 .non F' H' S'.ext (rep_non (K := K) (mg := mg) (F := F'))
  | ret r => exact fun w0 => w0
  | brk ρ => exact fun w0 => w0.elim
  | cont ρ => exact fun w0 => w0.elim
  | exc y ρ => exact fun w0 c d F' σ' H' _ S' rx => w0 c d F' H' S'.ext rx
  | bad => exact fun w0 => w0
end

def callF (fn : Fn) (dps : List PV) (g : VA) : VE := fun ρ => g ρ >>= fun rs => fn (rs.map argR ++ dps.map .val)
section
variable {X : Cx} {B : Bx} {W : WX} {fn : Fn} {n k : Nat} {f C : Addr} {fd : FuncData} {ps : List Str} {dvs : List V} {ds : List Value} {dps : List PV} {x m : Str} {p pos apos : Pos} {a o : Expr} {es : List Expr} {g : VA} {fo : VE}
theorem RepRet.res {K : PySem.W.Frag} {mg : MG} {F' H H' G H1 : Hp} {r : Res} {v : V} (hs : Same H H1) (h : RepRet K mg ⟨H1, G, none, none⟩ F' H' r v) : RepRes K mg B F' H H' r v := by
  cases r with
  | val p => exact h
  | bor n xs => exact h.elim
  | lend n xs => exact h.elim
  | new n xs => obtain ⟨L, l1, l2, l3⟩ := h; exact ⟨L, l1, l2, fun a ha => ⟨(l3 a ha).1, hs.free (l3 a ha).2⟩⟩
theorem dps_args {K : PySem.W.Frag} {mg : MG} {F H : Hp} : ∀ {dps : List PV} {dvs : List V}, AllR (Rep K mg F) dps dvs → AllR (RepArg K mg F H) (dps.map Res.val) dvs
  | [], _, e => e
  | p :: r, _, ⟨v, w, e, h1, h2⟩ => ⟨v, w, e, h1, dps_args h2⟩
theorem call_sp {K : PySem.W.Frag} {mg : MG} {σ : L2.St} {H : Hp} {Q : VK} {n : Nat} (hd : ∀ F, AllR (Rep K mg F) dps dvs) (F : Hp) (F1 H1 : Hp) (ρ : Env) (rs : List Res) (vs : List V) (S : SR K mg B F ρ σ H) (x : Ext F H F1 H1) (ar : AllR (RepRes K mg B F1 H H1) rs vs)
    (hn : rs.length + dps.length = n) (w : WantE K mg B W F H σ Q (fn (rs.map argR ++ dps.map .val))) : spV K mg n fn (vs ++ dvs) H1 Q (WE W σ) := by
  obtain ⟨L, l1, l2⟩ := fz_args x (S.ext.h.trans x.h) ar
  obtain ⟨G, xg, g1, g2⟩ := fz_do x l1
  have a1 := l2 G g1 g2
  refine ⟨G, rs.map argR ++ dps.map .val, by rw [List.length_append, List.length_map, List.length_map]; exact hn, xg.s, a1.append (dps_args (hd G)), ?_⟩
  revert w
  cases fn (rs.map argR ++ dps.map .val) with
  | ok r => exact fun w v F' H' x' rr => w v F' H' (xg.trans x') (rr.res x.h)
  | exc y => exact fun w c d F' H' x' rx => w c d F' H' (xg.trans x') rx
  | bad => exact fun w => w
def callN' (n : Nat) (fn : Fn) : Fn := fun args => if args.length = n then fn args else .bad
theorem e_call (F : FnOk X.prog X.w X.K X.mg X.base (L2.CX X.prog X.w) k f fd ps (spV X.K X.mg ps.length fn)) (tk : Takes X W) (hr : Room k X.A) (hg : Gl X x) (hm : X.mg x = some (.ref f)) (hk : PySem.W.keepIn X.K (.ref f) = true) (hb : Binds X.K fd ps ds) (hd : Vals dvs ds)
    (hdp : ∀ F, AllR (Rep X.K X.mg F) dps dvs) (ha : AV X B W (a :: es) g) (hn : ∀ ρ rs, g ρ = .ok rs → rs.length + dps.length = ps.length) (hdb : (x == ("__debug__" : Str)) = false := by decide) (he : starEach (a :: es) X.env = (false, eval a X.env) :: starEach es X.env := by rfl) (hpl : (backTo pos (starEach es X.env)).any (·.1) = false := by rfl) :
    EV X B W (.Call (.Name x p) (a :: es) [] pos) (callF fn dps g) := by
  refine .of (pe_callSD F hr hg hm hk hb hd (passAt tk) ha.run hdb he hpl) fun σ H Q h => ?_
  obtain ⟨F0, ρ, S, w⟩ := h
  have w : WantE X.K X.mg B W F0 H σ Q (g ρ >>= fun rs => fn (rs.map argR ++ dps.map .val)) := w
  refine ⟨F0, ρ, S, ?_⟩
  cases q : g ρ with
  | exc y => rw [q] at w; exact w
  | bad => rw [q] at w; exact w
  | ok rs => rw [q] at w; exact fun vs F1 H1 x ar => call_sp hdp F0 F1 H1 ρ rs vs S x ar (hn ρ rs q) w
theorem len_nil : ∀ ρ rs, aNil ρ = .ok rs → rs.length = 0 := fun ρ rs e => by cases e; rfl
theorem len_cons {f : VE} {g : VA} {n : Nat} (h : ∀ ρ rs, g ρ = .ok rs → rs.length = n) : ∀ ρ rs, aCons f g ρ = .ok rs → rs.length = n + 1 := fun ρ rs e => by
  unfold aCons at e
  cases q : f ρ with
  | exc y => rw [q] at e; cases e
  | bad => rw [q] at e; cases e
  | ok r =>
    rw [q] at e
    have e : (g ρ >>= fun rs => R.ok (r :: rs)) = .ok rs := e
    cases q2 : g ρ with
    | exc y => rw [q2] at e; cases e
    | bad => rw [q2] at e; cases e
    | ok rs' => rw [q2] at e; cases e; rw [List.length_cons, h ρ rs' q2]
def fldR (f : Str) (r : Res) : R Res := match r with
  | .val (.ins _ fs) => match fs.lookup f with
    | some p => .ok (.val p)
    | none => .bad
  | _ => .bad
theorem repF_lookup {K : PySem.W.Frag} {mg : MG} {F : Hp} {f : Str} {p : PV} : ∀ {fs : List (Str × PV)} {vs : List (Str × V)}, RepF K mg F fs vs → fs.lookup f = some p → ∃ v, vs.lookup f = some v ∧ Rep K mg F p v
  | [], _, _, e => by cases e
  | (g, q) :: fs, _, h, e => by
    simp only [RepF] at h
    obtain ⟨v, r, rfl, h1, h2⟩ := h
    rw [List.lookup_cons] at e ⊢
    cases z : (f == g) with
    | true => rw [z] at e; cases e; exact ⟨v, rfl, h1⟩
    | false => rw [z] at e; exact repF_lookup h2 e
theorem repF_none {K : PySem.W.Frag} {mg : MG} {F : Hp} {f : Str} : ∀ {fs : List (Str × PV)} {vs : List (Str × V)}, RepF K mg F fs vs → fs.lookup f = none → vs.lookup f = none
  | [], _, h, _ => by simp only [RepF] at h; subst h; rfl
  | (g, q) :: fs, _, h, e => by
    simp only [RepF] at h
    obtain ⟨v, r, rfl, h1, h2⟩ := h
    rw [List.lookup_cons] at e ⊢
    cases z : (f == g) with
    | true => rw [z] at e; cases e
    | false => rw [z] at e; exact repF_none h2 e
structure ClsF (K : PySem.W.Frag) (mg : MG) (c : Str) (C : Addr) (fs : List Str) : Prop where
  mg : mg c = some (.ref C)
  cl : Cls K C
  no : ∀ f ∈ fs, NoAttr K C f
def fldE (c f : Str) (fo : VE) : VE := fun ρ => fo ρ >>= fun r => match r with
  | .val (.ins c' fs) => if c' = c then fldR f (.val (.ins c' fs)) else .bad
  | _ => .bad
theorem e_fld {c f : Str} {fs : List Str} (T : ClsF X.K X.mg c C fs) (hf : f ∈ fs) (ho : EV X B W o fo) (hb : attributeBase o f X.env (eval o X.env) = eval o X.env) : EV X B W (.Attribute o f pos) (fldE c f fo) := by
  refine .of (pe_fld ho.run hb) fun σ H Q h => ?_
  refine want1 (k := fun _ r => match r with | .val (.ins c' fs) => if c' = c then fldR f (.val (.ins c' fs)) else .bad | _ => .bad) h fun F F1 H1 ρ r v S x rr w => ?_
  cases r with
  | val p =>
    cases p with
    | ins c' gs =>
      simp only at w
      split at w
      · rename_i hc
        subst hc
        simp only [RepRes, Rep] at rr
        obtain ⟨b, C', dx, vs, rfl, e1, e2, e3, e4⟩ := rr
        have ec : C' = C := by rw [T.mg] at e1; injection e1 with e1; injection e1 with e1; exact e1.symm
        subst ec
        unfold fldR at w
        simp only at w
        split at w
        · rename_i q eq
          obtain ⟨u, l1, l2⟩ := repF_lookup e4 eq
          exact ⟨b, C', dx, vs, u, rfl, x.s _ _ e2, T.cl, T.no f hf, l1, w u F1 H1 x l2⟩
        · exact w.elim
      · exact w.elim
    | _ => exact w.elim
  | _ => exact w.elim
end
end
end Pv
namespace Pv
open PySem PySem.Spec L2
noncomputable section

section
variable {X : Cx} {B : Bx} {W : WX} {fn : Fn} {n k : Nat} {f C : Addr} {fd : FuncData} {ps : List Str} {dvs : List V} {ds : List Value} {dps : List PV} {x m c : Str} {p pos apos : Pos} {a o e : Expr} {es : List Expr} {g : VA} {fo : VE}
def tMethSD (C : Addr) (m : Str) (sp : Sp) (dvs : List V) (E : L2.St → XK) (ta : TE) (t : TA) : TE := fun σ H Q => ta σ H fun x H1 => ∃ a dx fs, x = .ref a ∧ H1 a = some (.ins C dx fs) ∧ fs.lookup m = none ∧ t σ H1 fun vs H2 => sp (x :: (vs ++ dvs)) H2 Q (E σ)
theorem pe_methSD {sp : Sp} {E : L2.St → XK} {ta : TE} {t : TA} {CXx : CXT} {pl : Sem Bool} (he : PE X o ta) (c : Cls X.K C) (hm : Meth X.K C m f) (F : FnOk X.prog X.w X.K X.mg X.base CXx k f fd ps sp) (hr : Room k X.A) (hb : Binds X.K fd ps ds) (hd : Vals dvs ds) (hx : ∀ σ, PassesAt CXx X σ (E σ)) (ha : PA X (e :: es) t)
    (hst : starEach (e :: es) X.env = (false, eval e X.env) :: starEach es X.env := by rfl) (hpl : (backTo pos (starEach es X.env)).any (·.1) = false := by rfl)
    (ht : eval (.Call (.Attribute o m apos) (e :: es) [] pos) X.env = (do
      let ov ← eval o X.env
      standAt apos.atName
      let (f, first) ← holding [ov] (getMethod ov m pl)
      callWith pos f first (backTo pos (starEach (e :: es) X.env)) (backToKw pos (keywordEach [] X.env))) := by rfl) :
    PE X (.Call (.Attribute o m apos) (e :: es) [] pos) (tMethSD C m sp dvs E ta t) := by
  refine ⟨fun pins s σ H Q I h => ?_⟩
  refine PySem.W.methodCall_KW (pl := pl) (thn (he.run pins s σ H _ I h) fun u s1 ⟨x, H1, I1, rx, a, dx, fs, ex, ea, l, q⟩ => ?_) ht
  subst ex
  obtain rfl : u = Value.ref a := rx
  refine getmeth_ok I1 ea c hm l ?_
  refine PySem.W.callWith_K (first := [.ref a]) (h₀ := X.base) I.ok.mod.kin hm.kp (thn (ha.run pos pins s1 σ H1 _ I1 q) fun us s2 ⟨vs, H2, I2, r, q2⟩ => ⟨I2.kIn, ?_⟩) hst hpl
  exact run_fnSD (us := .ref a :: us) (vs := .ref a :: vs) F hr hb hd (hx σ) I2 (.cons rfl r) q2
theorem pe_methSD0 {sp : Sp} {E : L2.St → XK} {ta : TE} {CXx : CXT} {pl : Sem Bool} (he : PE X o ta) (c : Cls X.K C) (hm : Meth X.K C m f) (F : FnOk X.prog X.w X.K X.mg X.base CXx k f fd ps sp) (hr : Room k X.A) (hb : Binds X.K fd ps ds) (hd : Vals dvs ds) (hx : ∀ σ, PassesAt CXx X σ (E σ))
    (ht : eval (.Call (.Attribute o m apos) [] [] pos) X.env = (do
      let ov ← eval o X.env
      standAt apos.atName
      let (f, first) ← holding [ov] (getMethod ov m pl)
      callWith pos f first (backTo pos (starEach [] X.env)) (backToKw pos (keywordEach [] X.env))) := by rfl) :
    PE X (.Call (.Attribute o m apos) [] [] pos) (tMethSD C m sp dvs E ta tNil) := by
  refine ⟨fun pins s σ H Q I h => ?_⟩
  refine PySem.W.methodCall_KW (pl := pl) (thn (he.run pins s σ H _ I h) fun u s1 ⟨x, H1, I1, rx, a, dx, fs, ex, ea, l, q⟩ => ?_) ht
  subst ex
  obtain rfl : u = Value.ref a := rx
  refine getmeth_ok I1 ea c hm l ?_
  exact PySem.W.callWith_K0 (first := [.ref a]) I1.kIn hm.kp (run_fnSD (us := [.ref a]) (vs := [.ref a]) F hr hb hd (hx σ) I1 (.cons rfl .nil) q)
def isIns (c m : Str) (r : Res) : Bool := match r with
  | .val (.ins c' fs) => decide (c' = c) && (fs.lookup m).isNone
  | _ => false
def methF (c m : Str) (fn : Fn) (dps : List PV) (fo : VE) (g : VA) : VE := fun ρ => fo ρ >>= fun r => if isIns c m r = true then (g ρ >>= fun rs => fn (r :: (rs.map argR ++ dps.map .val))) else .bad
theorem see_ins {K : PySem.W.Frag} {mg : MG} {F H H1 : Hp} {r : Res} {v : V} (hm : mg c = some (.ref C)) (rr : RepRes K mg B F H H1 r v) (e : isIns c m r = true) : ∃ fs b dx vs, r = .val (.ins c fs) ∧ v = .ref b ∧ F b = some (.ins C dx vs) ∧ F dx = some (.own b) ∧ RepF K mg F fs vs ∧ vs.lookup m = none := by
  unfold isIns at e
  split at e
  · rename_i c' fs
    simp only [Bool.and_eq_true, decide_eq_true_eq, Option.isNone_iff_eq_none] at e
    obtain ⟨rfl, e⟩ := e
    simp only [RepRes, Rep] at rr
    obtain ⟨b, C', dx, vs, rfl, e1, e2, e3, e4⟩ := rr
    rw [hm] at e1
    injection e1 with e1
    injection e1 with e1
    subst e1
    exact ⟨fs, b, dx, vs, rfl, rfl, e2, e3, e4, repF_none e4 e⟩
  · cases e
theorem want_meth {K : PySem.W.Frag} {mg : MG} {σ : L2.St} {H : Hp} {Q : VK} {n : Nat} (hm : mg c = some (.ref C)) (hd : ∀ F, AllR (Rep K mg F) dps dvs) (hn : ∀ ρ rs, g ρ = .ok rs → rs.length + dps.length + 1 = n) (h : tV K mg B W (methF c m fn dps fo g) σ H Q) :
    tMethSD C m (spV K mg n fn) dvs (WE W) (tV K mg B W fo) (tVA K mg B W g) σ H Q := by
  refine want1 (k := fun ρ r => if isIns c m r = true then (g ρ >>= fun rs => fn (r :: (rs.map argR ++ dps.map Res.val))) else .bad) h fun F F1 H1 ρ r v S x rr w => ?_
  split at w
  case isFalse => exact w.elim
  rename_i hi
  obtain ⟨fs, b, dx, vs, rfl, rfl, e1, e2, e3, e4⟩ := see_ins (m := m) hm rr hi
  refine ⟨b, dx, vs, rfl, x.s _ _ e1, e4, F1, ρ, S.go x, ?_⟩
  cases q : g ρ with
  | exc y => rw [q] at w; intro c d F2 H2 x2 rx; exact w c d F2 H2 (x.trans x2) rx
  | bad => rw [q] at w; exact w.elim
  | ok rs =>
    rw [q] at w
    intro us F2 H2 x2 ar
    have x02 := x.trans x2
    obtain ⟨L, l1, l2⟩ := fz_args x2 (S.ext.h.trans x02.h) ar
    obtain ⟨G, xg, g1, g2⟩ := fz_do x2 l1
    have a1 := l2 G g1 g2
    have x0g := x.trans xg
    refine ⟨G, .val (.ins c fs) :: (rs.map argR ++ dps.map .val), ?_, xg.s, ⟨.ref b, _, rfl, Rep.mono (x2.f.trans g1) rr, a1.append (dps_args (hd G))⟩, ?_⟩
    · rw [List.length_cons, List.length_append, List.length_map, List.length_map]; exact hn ρ rs q
    · revert w
      show WantE K mg B W F H σ Q (fn (.val (.ins c fs) :: (rs.map argR ++ dps.map .val))) → _
      cases fn (.val (.ins c fs) :: (rs.map argR ++ dps.map .val)) with
      | ok r => exact fun w v F' H' x' rr => w v F' H' (x0g.trans x') (rr.res x02.h)
      | exc y => exact fun w c d F' H' x' rx => w c d F' H' (x0g.trans x') rx
      | bad => exact fun w => w.elim
theorem e_meth {pl : Sem Bool} {fs : List Str} (T : ClsF X.K X.mg c C fs) (hm : Meth X.K C m f) (F : FnOk X.prog X.w X.K X.mg X.base (L2.CX X.prog X.w) k f fd ps (spV X.K X.mg ps.length fn)) (tk : Takes X W) (hr : Room k X.A) (hb : Binds X.K fd ps ds) (hd : Vals dvs ds) (hdp : ∀ F, AllR (Rep X.K X.mg F) dps dvs)
    (ho : EV X B W o fo) (ha : AV X B W (e :: es) g) (hn : ∀ ρ rs, g ρ = .ok rs → rs.length + dps.length + 1 = ps.length) (hst : starEach (e :: es) X.env = (false, eval e X.env) :: starEach es X.env := by rfl) (hpl : (backTo pos (starEach es X.env)).any (·.1) = false := by rfl)
    (ht : eval (.Call (.Attribute o m apos) (e :: es) [] pos) X.env = (do
      let ov ← eval o X.env
      standAt apos.atName
      let (f, first) ← holding [ov] (getMethod ov m pl)
      callWith pos f first (backTo pos (starEach (e :: es) X.env)) (backToKw pos (keywordEach [] X.env))) := by rfl) :
    EV X B W (.Call (.Attribute o m apos) (e :: es) [] pos) (methF c m fn dps fo g) :=
  .of (pe_methSD ho.run T.cl hm F hr hb hd (passAt tk) ha.run hst hpl ht) fun σ H Q h => want_meth T.mg hdp hn h
theorem e_meth0 {pl : Sem Bool} {fs : List Str} (T : ClsF X.K X.mg c C fs) (hm : Meth X.K C m f) (F : FnOk X.prog X.w X.K X.mg X.base (L2.CX X.prog X.w) k f fd ps (spV X.K X.mg ps.length fn)) (tk : Takes X W) (hr : Room k X.A) (hb : Binds X.K fd ps ds) (hd : Vals dvs ds) (hdp : ∀ F, AllR (Rep X.K X.mg F) dps dvs)
    (ho : EV X B W o fo) (hn : dps.length + 1 = ps.length)
    (ht : eval (.Call (.Attribute o m apos) [] [] pos) X.env = (do
      let ov ← eval o X.env
      standAt apos.atName
      let (f, first) ← holding [ov] (getMethod ov m pl)
      callWith pos f first (backTo pos (starEach [] X.env)) (backToKw pos (keywordEach [] X.env))) := by rfl) :
    EV X B W (.Call (.Attribute o m apos) [] [] pos) (methF c m fn dps fo aNil) :=
  .of (pe_methSD0 ho.run T.cl hm F hr hb hd (passAt tk) ht) fun σ H Q h => by
    have w := want_meth (n := ps.length) T.mg hdp (fun ρ rs e => by cases e; simp only [List.length_nil]; omega) h
    obtain ⟨F, ρ, S, w⟩ := w
    refine ⟨F, ρ, S, ?_⟩
    revert w
    cases fo ρ with
    | ok r =>
      intro w v F1 H1 x rr
      obtain ⟨b, dx, vs, e0, e1, e2, F2, ρ2, S2, w2⟩ := w v F1 H1 x rr
      exact ⟨b, dx, vs, e0, e1, e2, w2 [] F2 H1 (.refl S2.ext.s) rfl⟩
    | exc y => exact fun w => w
    | bad => exact fun w => w
def propF (c : Str) (fn : Fn) (fo : VE) : VE := fun ρ => fo ρ >>= fun r => match r with
  | .val (.ins c' fs) => if c' = c then noX (fn [.val (.ins c' fs)]) else .bad
  | _ => .bad
theorem e_prop {q : Addr} {fl : Str} {fs : List Str} (T : ClsF X.K X.mg c C fs) (hp : PropOf X.K C fl q f) (F : FnOk X.prog X.w X.K X.mg X.base (L2.CX X.prog X.w) k f fd ps (spV X.K X.mg 1 fn)) (hr : Room (k + 1) X.A) (hb : Binds X.K fd ps []) (ho : EV X B W o fo)
    (hab : attributeBase o fl X.env (eval o X.env) = eval o X.env) : EV X B W (.Attribute o fl pos) (propF c fn fo) := by
  refine .of (pe_prop ho.run T.cl hp F hr hb .nil passL hab) fun σ H Q h => ?_
  refine want1 (k := fun _ r => match r with | .val (.ins c' fs) => if c' = c then noX (fn [.val (.ins c' fs)]) else .bad | _ => .bad) h fun F F1 H1 ρ r v S x rr w => ?_
  cases r with
  | val p =>
    cases p with
    | ins c' gs =>
      simp only at w
      split at w
      · rename_i hc
        subst hc
        have rr0 := rr
        simp only [RepRes, Rep] at rr
        obtain ⟨b, C', dx, vs, rfl, e1, e2, e3, e4⟩ := rr
        have ec : C' = C := by rw [T.mg] at e1; injection e1 with e1; injection e1 with e1; exact e1.symm
        subst ec
        refine ⟨b, dx, vs, rfl, x.s _ _ e2, F1, [.val (.ins c' gs)], rfl, x.s, ⟨.ref b, [], rfl, rr0, rfl⟩, ?_⟩
        revert w
        cases fn [.val (.ins c' gs)] with
        | ok r => exact fun w v F' H' x' rr => w v F' H' (x.trans x') (rr.res x.h)
        | exc y => exact fun w => w.elim
        | bad => exact fun w => w.elim
      · exact w.elim
    | _ => exact w.elim
  | _ => exact w.elim
end

abbrev FnI := List Res → R (List (Str × PV))
def WantI (K : PySem.W.Frag) (mg : MG) (F H1 : Hp) (x C dx : Addr) (Q : VK) (E : XK) : R (List (Str × PV)) → Prop
  | .ok fs => ∀ F' H' gs, Ext F H1 F' H' → H' x = some (.ins C dx gs) → H' dx = some (.own x) → RepF K mg F' fs gs → F' x = none → F' dx = none → Q .non H'
  | .exc y => ∀ c d F' H', Ext F H1 F' H' → RepX K mg F' H' y c d → E c d H'
  | .bad => False
def spI (K : PySem.W.Frag) (mg : MG) (c : Str) (n : Nat) (fn : FnI) : Sp := fun vs H Q E => ∃ x dx C rest H1 F args, vs = .ref x :: rest ∧ mg c = some (.ref C) ∧ H = upd (upd H1 dx (.own x)) x (.ins C dx []) ∧ H1 x = none ∧ H1 dx = none ∧ dx ≠ x ∧
  args.length + 1 = n ∧ Same F H1 ∧ AllR (RepArg K mg F H1) args rest ∧ WantI K mg F H1 x C dx Q E (fn args)
def objOf (c : Str) (ρ : Env) : R (List (Str × PV)) := match ρ[0]? with
  | some (Slot.obj c' fs) => if c' = c then .ok fs else .bad
  | _ => .bad
def runInit (N : Nat) (c : Str) (f : VS) : FnI := fun args => match f (.obj c [] :: (args.map slotOf ++ List.replicate (N - 1 - args.length) .unset)) with
  | .next ρ => objOf c ρ
  | .exc y _ => .exc y
  | _ => .bad
theorem init_sr {K : PySem.W.Frag} {mg : MG} {N : List Str} {c : Str} {x dx C : Addr} {rest : List V} {args : List Res} {F H1 : Hp} (hm : mg c = some (.ref C)) (h1 : H1 x = none) (h2 : H1 dx = none) (h3 : dx ≠ x) (hs : Same F H1) (ha : AllR (RepArg K mg F H1) args rest) (hN : args.length + 1 ≤ N.length) :
    SR K mg ⟨H1, F, none, some (x, C, dx)⟩ F (.obj c [] :: (args.map slotOf ++ List.replicate (N.length - 1 - args.length) .unset)) (L2.start N (.ref x :: rest)) (upd (upd H1 dx (.own x)) x (.ins C dx [])) := by
  have hx : upd H1 dx (.own x) x = none := by rw [upd_ne (Ne.symm h3)]; exact h1
  have sH : Same H1 (upd (upd H1 dx (.own x)) x (.ins C dx [])) := (upd_same_of h2).trans (upd_same_of hx)
  have xx : Ext F H1 F (upd (upd H1 dx (.own x)) x (.ins C dx [])) := ⟨.refl _, sH, hs.trans sH, fun a o e n => by rw [n] at e; cases e⟩
  have es : ∀ j : Nat, (L2.start N (.ref x :: rest))[j + 1]? = (rest.map some ++ List.replicate (N.length - 1 - rest.length) none)[j]? := fun j => by
    unfold L2.start
    rw [List.map_cons, List.cons_append, List.getElem?_cons_succ, List.length_cons, show N.length - (rest.length + 1) = N.length - 1 - rest.length by omega]
  refine ⟨xx, ?_, swp 0 [x, dx] (fun _ => []), fun i s e => ?_, fun i => ?_, fun i j a hi hj => ?_, fun i a hi => ?_⟩
  · unfold L2.start
    simp only [List.length_cons, List.length_append, List.length_map, List.length_replicate, ha.length]
    omega
  · cases i with
    | zero =>
      simp at e
      subst e
      exact ⟨x, C, dx, [], rfl, rfl, rfl, Ne.symm h3, hm, upd_same, by rw [upd_ne h3, upd_same], by simp only [RepF]⟩
    | succ i =>
      rw [List.getElem?_cons_succ] at e
      show SlotR K mg _ F _ s ((L2.start N (.ref x :: rest))[i + 1]?) []
      rw [es]
      by_cases hi : i < args.length
      · rw [List.getElem?_append_left (by rw [List.length_map]; exact hi), List.getElem?_map, List.getElem?_eq_getElem hi] at e
        cases e
        obtain ⟨v, ev, rv⟩ := ha.get (i := i) (List.getElem?_eq_getElem hi)
        have hv : (rest.map some ++ List.replicate (N.length - 1 - rest.length) none)[i]? = some (some v) := by
          rw [List.getElem?_append_left (by rw [List.length_map, ha.length]; exact hi), List.getElem?_map, ev]; rfl
        rw [hv]
        revert rv
        cases args[i] with
        | val p => exact fun rv => ⟨rfl, v, rfl, rv⟩
        | bor n xs => exact fun rv => ⟨rfl, v, rfl, rv⟩
        | lend n xs => exact fun rv => rv.elim
        | new n xs => exact fun rv => rv.elim
      · have e2 : s = .unset := by
          rw [List.getElem?_append_right (by rw [List.length_map]; omega), List.length_map, List.getElem?_replicate] at e
          split at e
          · exact (Option.some.inj e).symm
          · cases e
        subst e2
        rfl
  · by_cases hi : i = 0
    · rw [hi, swp_self]; simp [Ne.symm h3]
    · rw [swp_ne hi]; exact List.nodup_nil
  · by_cases h : i = 0
    · by_cases h' : j = 0
      · rw [h, h']
      · rw [swp_ne h'] at hj; cases hj
    · rw [swp_ne h] at hi; cases hi
  · by_cases h : i = 0
    · rw [h, swp_self] at hi
      rcases List.mem_cons.mp hi with rfl | hi
      · exact ⟨hs.free h1, h1, _, upd_same⟩
      · have e : a = dx := by simpa using hi
        subst e
        exact ⟨hs.free h2, h2, _, by rw [upd_ne h3]; exact upd_same⟩
    · rw [swp_ne h] at hi; cases hi
section
variable {P : Program} {w : World} {K : PySem.W.Frag} {mg : Str → Option Value} {base : Heap}
theorem init_okV {x qual c : Str} {params : Arguments} {body : List Stmt} {scope : Scope} {dvs : List V} {kws : List (Str × V)} {f : Addr} {fd : FuncData} {N ps : List Str} {k : Nat} {b : VS}
    (F : FunD K x qual params body scope dvs kws f fd) (S : FnScope N ps scope) (hN : ps.length ≤ N.length)
    (hb : ∀ (X : Cx) (B : Bx) (W : WX), X.prog = P → X.w = w → X.K = K → X.mg = mg → X.base = base → X.calm = true → X.N = N → (∃ cd h, X.env = PyProof.Rows.envOfC qual scope h f cd) → X.stack = X.env :: X.outer → X.ex = [] → X.fn = (fun _ => true) → Room k X.A → Takes X W → PassesOwn (model X.prog X.w) X.A X.env X.xe → BV X B W body b) :
    FnOk P w K mg base (L2.CX P w) (k + 1) f fd ps (spI K mg c ps.length (runInit N.length c b)) := by
  refine F.ok S (fun vs H Q E h => ?_) (fun cdv A outer s H vs Q E hr h => ?_)
  · obtain ⟨x, dx, C, rest, H1, F, args, rfl, _, _, _, _, _, hl, _, ha, _⟩ := h
    rw [List.length_cons, ha.length]; exact hl
  obtain ⟨x, dx, C, rest, H1, G, args, rfl, hm, rfl, h1, h2, h3, hl, hs, ha, w0⟩ := h
  have bv := hb (cxOf (L2.CX P w) P w K mg base N qual scope f cdv A outer s (upd (upd H1 dx (.own x)) x (.ins C dx [])) E) ⟨H1, G, none, some (x, C, dx)⟩ (fun c d _ H => E c d H) rfl rfl rfl rfl rfl rfl rfl ⟨cdv, _, rfl⟩ rfl rfl rfl hr (takes_of rfl rfl rfl rfl) (passes_of rfl)
  refine ⟨_, bv.run, G, _, init_sr (N := N) hm h1 h2 h3 hs ha (by omega), ?_⟩
  unfold runInit at w0
  cases q0 : b (.obj c [] :: (args.map slotOf ++ List.replicate (N.length - 1 - args.length) .unset)) with
  | next ρ =>
    simp only [q0] at w0
    intro F' σ' H' _ S'
    obtain ⟨fp, s1, s2, s3, s4⟩ := S'.slots
    unfold objOf at w0
    split at w0
    · rename_i c' fs q
      split at w0
      · rename_i hc
        obtain ⟨a, C', dx', vs, o1, o2, o3, o4, o5, o6, o7, o8⟩ := s1 0 _ q
        have o3 : some (x, C, dx) = some (a, C', dx') := o3
        cases o3
        have m1 := s4 0 x (by rw [o2]; simp)
        have m2 := s4 0 dx (by rw [o2]; simp)
        exact w0 F' H' vs S'.ext o6 o7 o8 m1.1 m2.1
      · exact w0.elim
    · exact w0.elim
  | ret r => simp only [q0] at w0; exact w0.elim
  | brk ρ => simp only [q0] at w0; exact w0.elim
  | cont ρ => simp only [q0] at w0; exact w0.elim
  | exc y ρ => simp only [q0] at w0; exact fun c d F' σ' H' _ S' rx => w0 c d F' H' S'.ext rx
  | bad => simp only [q0] at w0; exact w0.elim
end
def makeF (c : Str) (fn : FnI) (dps : List PV) (g : VA) : VE := fun ρ => g ρ >>= fun rs => fn (rs.map argR ++ dps.map .val) >>= fun fs => .ok (.val (.ins c fs))
section
variable {X : Cx} {B : Bx} {W : WX} {fn : FnI} {n k : Nat} {f C : Addr} {fd : FuncData} {ps : List Str} {dvs : List V} {ds : List Value} {dps : List PV} {x c : Str} {p pos : Pos} {a : Expr} {es : List Expr} {g : VA}
def tMakeSD (C : Addr) (sp : Sp) (dvs : List V) (E : L2.St → XK) (t : TA) : TE := fun σ H Q => t σ H fun vs H1 => ∀ x dx, H1 x = none → H1 dx = none → dx ≠ x → sp (.ref x :: (vs ++ dvs)) (upd (upd H1 dx (.own x)) x (.ins C dx [])) (fun v H2 => v = .non ∧ Q (.ref x) H2) (E σ)
theorem run_makeSD {CXx : CXT} {sp : Sp} {E : L2.St → XK} {pins : List (Addr × Obj)} {σ : L2.St} {H : Hp} {s : Shared} {Q : VK} {us : List Value} {vs : List V} (M : Mk X.K C f) (F : FnOk X.prog X.w X.K X.mg X.base CXx k f fd ps sp) (hr : Room (k + 1) X.A) (hb : Binds X.K fd ps ds) (hd : Vals dvs ds)
    (hx : PassesAt CXx X σ (E σ)) (I : Inv X pins σ H s) (r : Vals vs us)
    (h : ∀ x dx, H x = none → H dx = none → dx ≠ x → sp (.ref x :: (vs ++ dvs)) (upd (upd H dx (.own x)) x (.ins C dx [])) (fun v H2 => v = .non ∧ Q (.ref x) H2) (E σ)) :
    wpAny (model X.prog X.w) X.A (call (.ref C) us) (EP X pins σ Q) X.xe s := by
  have hq := h (s.heap.objs.size + 1) s.heap.objs.size (I.hok.fresh (Nat.le_succ _)) (I.hok.fresh (Nat.le_refl _)) (Nat.ne_of_lt (Nat.lt_succ_self _))
  have I2 := Inv.made (C := C) I
  have r2 : Vals (V.ref (s.heap.objs.size + 1) :: (vs ++ dvs)) (Value.ref (s.heap.objs.size + 1) :: (us ++ ds)) := .cons rfl (r.append hd)
  have hl : (Value.ref (s.heap.objs.size + 1) :: us ++ ds).length = ps.length := by
    have e := r2.length
    rw [F.len _ _ _ _ hq] at e
    exact e.symm
  refine wpAny_call (make_map (f := f) I.kIn M.makes M.init (beq_iff_eq.mp M.fn) (codeAny_mono (F.run _ X.stack _ _ ⟨Value.ref (s.heap.objs.size + 1) :: us, []⟩ (Value.ref (s.heap.objs.size + 1) :: (us ++ ds)) _ _ (E σ) (hr.make C us [])
    (I2.env0.make C us []) (hb _ (Value.ref (s.heap.objs.size + 1) :: us) I2.kIn hl) r2 hq) fun r s' hq' => ?_))
  cases r with
  | error e => exact hx pins _ _ e s' I2 hq'
  | ok fl =>
    cases fl with
    | ret u =>
      obtain ⟨v, H', I3, rv, ev, q3⟩ := I2.after hq'
      subst ev
      exact ⟨rv, ⟨V.ref (s.heap.objs.size + 1), H', I3, rfl, q3⟩⟩
    | next => exact False.elim hq'
    | brk => exact False.elim hq'
    | cont => exact False.elim hq'
theorem pe_makeSD {CXx : CXT} {sp : Sp} {E : L2.St → XK} {t : TA} (M : Mk X.K C f) (F : FnOk X.prog X.w X.K X.mg X.base CXx k f fd ps sp) (hr : Room (k + 1) X.A) (hg : Gl X x) (hm : X.mg x = some (.ref C)) (hb : Binds X.K fd ps ds) (hd : Vals dvs ds) (hx : ∀ σ, PassesAt CXx X σ (E σ))
    (ha : PA X (a :: es) t) (hdb : (x == ("__debug__" : Str)) = false := by decide) (he : starEach (a :: es) X.env = (false, eval a X.env) :: starEach es X.env := by rfl) (hpl : (backTo pos (starEach es X.env)).any (·.1) = false := by rfl) :
    PE X (.Call (.Name x p) (a :: es) [] pos) (tMakeSD C sp dvs E t) := by
  refine ⟨fun pins s σ H Q I h => ?_⟩
  refine wpAny_Call_Name_kw (ld_glob I hg hm ?_ hdb)
  refine PySem.W.callWith_K (h₀ := X.base) I.ok.mod.kin M.kp (thn (ha.run pos pins s σ H _ I h) fun us s1 ⟨vs, H1, I1, r, q⟩ => ⟨I1.kIn, ?_⟩) he hpl
  exact run_makeSD M F hr hb hd (hx σ) I1 r q
theorem e_make (M : Mk X.K C f) (F : FnOk X.prog X.w X.K X.mg X.base (L2.CX X.prog X.w) k f fd ps (spI X.K X.mg c ps.length fn)) (tk : Takes X W) (hr : Room (k + 1) X.A) (hg : Gl X x) (hm : X.mg x = some (.ref C)) (hc : X.mg c = some (.ref C)) (hb : Binds X.K fd ps ds) (hd : Vals dvs ds) (hdp : ∀ F, AllR (Rep X.K X.mg F) dps dvs)
    (ha : AV X B W (a :: es) g) (hn : ∀ ρ rs, g ρ = .ok rs → rs.length + dps.length + 1 = ps.length) (hdb : (x == ("__debug__" : Str)) = false := by decide) (he : starEach (a :: es) X.env = (false, eval a X.env) :: starEach es X.env := by rfl) (hpl : (backTo pos (starEach es X.env)).any (·.1) = false := by rfl) :
    EV X B W (.Call (.Name x p) (a :: es) [] pos) (makeF c fn dps g) := by
  refine .of (pe_makeSD M F hr hg hm hb hd (passAt tk) ha.run hdb he hpl) fun σ H Q h => ?_
  obtain ⟨F0, ρ, S, w⟩ := h
  have w : WantE X.K X.mg B W F0 H σ Q (g ρ >>= fun rs => fn (rs.map argR ++ dps.map .val) >>= fun fs => .ok (.val (.ins c fs))) := w
  refine ⟨F0, ρ, S, ?_⟩
  cases q : g ρ with
  | exc y => rw [q] at w; exact w
  | bad => rw [q] at w; exact w
  | ok rs =>
    rw [q] at w
    have w : WantE X.K X.mg B W F0 H σ Q (fn (rs.map argR ++ dps.map .val) >>= fun fs => .ok (.val (.ins c fs))) := w
    intro vs F1 H1 x0 ar x dx h1 h2 h3
    obtain ⟨L, l1, l2⟩ := fz_args x0 (S.ext.h.trans x0.h) ar
    obtain ⟨G, xg, g1, g2⟩ := fz_do x0 l1
    have a1 := l2 G g1 g2
    refine ⟨x, dx, C, vs ++ dvs, H1, G, rs.map argR ++ dps.map .val, rfl, hc, rfl, h1, h2, h3, ?_, xg.s, a1.append (dps_args (hdp G)), ?_⟩
    · rw [List.length_append, List.length_map, List.length_map]; exact hn ρ rs q
    · cases q2 : fn (rs.map argR ++ dps.map .val) with
      | exc y => rw [q2] at w; exact fun c d F' H' x' rx => w c d F' H' (xg.trans x') rx
      | bad => rw [q2] at w; exact w.elim
      | ok fs =>
        rw [q2] at w
        intro F' H' gs x' e1 e2 e3 n1 n2
        have x0' := xg.trans x'
        have hL : ∀ a ∈ [x, dx], F' a = none ∧ H a = none := fun a ha => by
          rcases List.mem_cons.mp ha with rfl | ha
          · exact ⟨n1, x0.h.free h1⟩
          · have e : a = dx := by simpa using ha
            subst e
            exact ⟨n2, x0.h.free h2⟩
        refine ⟨rfl, w (.ref x) _ H' (x0'.frz hL) ?_⟩
        simp only [RepRes, Rep]
        exact ⟨x, C, dx, gs, rfl, hc, by rw [frz_in (by simp)]; exact e1, by rw [frz_in (by simp)]; exact e2, e3.mono (frz_same fun a ha => (hL a ha).1)⟩
def putP (f : Str) (p : PV) : List (Str × PV) → List (Str × PV)
  | [] => [(f, p)]
  | (g, x) :: r => if g = f then (g, p) :: r else (g, x) :: putP f p r
def setFld (i : Nat) (f : Str) (e : VE) : VS := onE e fun r ρ => match stR r with
  | .ok p => (match ρ[i]? with
    | some (.obj c fs) => if fs.length < 1000 then .next (ρ.set i (.obj c (putP f p fs))) else .bad
    | _ => .bad)
  | _ => .bad
theorem repF_put {K : PySem.W.Frag} {mg : MG} {F : Hp} {f : Str} {p : PV} {v : V} (h : Rep K mg F p v) : ∀ {fs : List (Str × PV)} {vs : List (Str × V)}, RepF K mg F fs vs → RepF K mg F (putP f p fs) (putF f v vs)
  | [], _, e => by
    simp only [RepF] at e
    subst e
    simp only [putP, putF, RepF]
    exact ⟨v, [], rfl, h, rfl⟩
  | (g, q) :: fs, _, e => by
    simp only [RepF] at e
    obtain ⟨u, r, rfl, h1, h2⟩ := e
    unfold putP putF
    by_cases hg : g = f
    · rw [if_pos hg, if_pos hg]
      simp only [RepF]
      exact ⟨v, r, rfl, h, h2⟩
    · rw [if_neg hg, if_neg hg]
      simp only [RepF]
      exact ⟨u, _, rfl, h1, repF_put h h2⟩
theorem repF_length {K : PySem.W.Frag} {mg : MG} {F : Hp} : ∀ {fs : List (Str × PV)} {vs : List (Str × V)}, RepF K mg F fs vs → vs.length = fs.length
  | [], _, e => by simp only [RepF] at e; subst e; rfl
  | (g, q) :: fs, _, e => by
    simp only [RepF] at e
    obtain ⟨u, r, rfl, h1, h2⟩ := e
    rw [List.length_cons, List.length_cons, repF_length h2]
theorem SR.mut {K : PySem.W.Frag} {mg : MG} {F H H' : Hp} {ρ : Env} {σ : L2.St} (ext : Ext B.F0 B.H0 F H) (len : ρ.length = σ.length) {fp : Nat → List Addr} (h1 : ∀ i s, ρ[i]? = some s → SlotR K mg B F H s (σ[i]?) (fp i)) (h2 : ∀ i, (fp i).Nodup)
    (h3 : ∀ i j a, a ∈ fp i → a ∈ fp j → i = j) (h4 : ∀ i a, a ∈ fp i → F a = none ∧ B.H0 a = none ∧ ∃ o, H a = some o) (i : Nat) (k : ∀ b o, H b = some o → (b ∈ fp i → ∃ vs, o = .xd vs) → H' b = some o)
    {s : Slot} {o : Option V} {L : List Addr} (hi : i < σ.length) (hs : SlotR K mg B F H' s (some o) L) (nd : L.Nodup)
    (hL : ∀ a ∈ L, a ∈ fp i ∨ (F a = none ∧ B.H0 a = none ∧ ∀ m, a ∉ fp m)) (hE : ∀ a ∈ L, ∃ o, H' a = some o) : SR K mg B F (ρ.set i s) (σ.set i o) H' := by
  have kF : Same F H' := fun b o e => k b o (ext.s b o e) fun hb => by have := (h4 i b hb).1; rw [this] at e; cases e
  have kH : Same B.H0 H' := fun b o e => k b o (ext.h b o e) fun hb => by have := (h4 i b hb).2.1; rw [this] at e; cases e
  refine ⟨⟨ext.f, kH, kF, ext.n⟩, by rw [List.length_set, List.length_set]; exact len, swp i L fp, fun j t e => ?_, fun j => ?_, fun j k' a ha hk => ?_, fun j a ha => ?_⟩
  · by_cases hj : j = i
    · subst hj
      have hl : j < ρ.length := by rw [len]; exact hi
      rw [List.getElem?_set_self hl] at e
      cases e
      rw [List.getElem?_set_self hi, swp_self]
      exact hs
    · rw [List.getElem?_set_ne (Ne.symm hj)] at e
      rw [List.getElem?_set_ne (Ne.symm hj), swp_ne hj]
      have hh := h1 j t e
      have kk : ∀ a ∈ fp j, ∀ o, H a = some o → H' a = some o := fun a ha o q => k a o q fun hb => absurd (h3 j i a ha hb) hj
      cases t with
      | unset => exact hh
      | val p => exact hh
      | bor n xs => exact hh
      | own n xs => obtain ⟨v, e1, r⟩ := hh; exact ⟨v, e1, r.mono (.refl _) kk⟩
      | obj c fs =>
        obtain ⟨a, C, dx, vs, o1, o2, o3, o4, o5, o6, o7, o8⟩ := hh
        exact ⟨a, C, dx, vs, o1, o2, o3, o4, o5, kk a (by rw [o2]; simp) _ o6, kk dx (by rw [o2]; simp) _ o7, o8⟩
      | exc x =>
        obtain ⟨e0, a, c, d, e1, e2, C, c1, c2, c3⟩ := hh
        refine ⟨e0, a, c, d, e1, e2, C, c1, c2, ?_⟩
        rcases c3 with c3 | ⟨dd, vs, d0, d1, d2, d3⟩
        · exact .inl c3
        · exact .inr ⟨dd, vs, d0, d1, k dd _ d2 fun _ => ⟨vs, rfl⟩, d3⟩
  · by_cases hj : j = i
    · rw [hj, swp_self]; exact nd
    · rw [swp_ne hj]; exact h2 j
  · have dis : ∀ m, m ≠ i → ∀ a ∈ L, a ∉ fp m := fun m hm a haL ham => by
      rcases hL a haL with q | ⟨_, _, q⟩
      · exact hm (h3 m i a ham q)
      · exact q m ham
    by_cases hj : j = i
    · by_cases hk2 : k' = i
      · rw [hj, hk2]
      · rw [hj, swp_self] at ha; rw [swp_ne hk2] at hk; exact absurd hk (dis k' hk2 a ha)
    · by_cases hk2 : k' = i
      · rw [swp_ne hj] at ha; rw [hk2, swp_self] at hk; exact absurd ha (dis j hj a hk)
      · rw [swp_ne hj] at ha; rw [swp_ne hk2] at hk; exact h3 j k' a ha hk
  · by_cases hj : j = i
    · rw [hj, swp_self] at ha
      rcases hL a ha with q | ⟨q1, q2, _⟩
      · exact ⟨(h4 i a q).1, (h4 i a q).2.1, hE a ha⟩
      · exact ⟨q1, q2, hE a ha⟩
    · rw [swp_ne hj] at ha
      obtain ⟨a1, a2, o, a3⟩ := h4 j a ha
      exact ⟨a1, a2, o, k a o a3 fun hb => absurd (h3 j i a ha hb) hj⟩
theorem s_fld {fl : Str} {fs : List Str} {o e : Expr} {i : Nat} {fe : VE} {pos' : Pos} (T : ClsF X.K X.mg c C fs) (hf : fl ∈ fs) (ho : PE X o (tVar i)) (he : EV X B W e fe) (hs : swapsWith e (some (.Attribute o fl pos')) pos.line X.env = pure false)
    (hcl : ∀ c' C' , X.mg c' = some (.ref C') → c' = c → C' = C) : SV X B W (.Assign [.Attribute o fl pos'] e pos) (onE fe fun r ρ => match ρ[i]? with | some (.obj c' _) => if c' = c then setFld i fl (fun _ => .ok r) ρ else .bad | _ => .bad) := by
  refine ⟨ps_imp (ps_fld ho he.run hs) fun D σ H hw => ?_⟩
  refine want_onE (k := fun r ρ => match ρ[i]? with | some (.obj c' _) => if c' = c then setFld i fl (fun _ => .ok r) ρ else .bad | _ => .bad) hw fun F F1 H1 ρ r v S x rr w => ?_
  have S1 := S.go x
  obtain ⟨fp, s1, s2, s3, s4⟩ := S1.slots
  split at w
  case h_2 => exact w.elim
  rename_i c' gs0 q
  split at w
  case isFalse => exact w.elim
  rename_i hc
  subst hc
  unfold setFld onE at w
  simp only at w
  split at w
  case h_2 => exact w.elim
  rename_i p' ep
  rw [q] at w
  simp only at w
  split at w
  case isFalse => exact w.elim
  rename_i hl
  obtain ⟨a, C', dx, vs, o1, o2, o3, o4, o5, o6, o7, o8⟩ := s1 i _ q
  have eC := hcl _ _ o5 rfl
  subst eC
  refine ⟨.ref a, o1, a, C', dx, vs, rfl, o6, T.cl, T.no fl hf, by rw [repF_length o8]; exact hl, ?_⟩
  obtain ⟨G, M, xg, g1, m1, m2, m3, m4⟩ := stD_ok (d := 0) x rr ep
  obtain ⟨rfl, m1⟩ := m1
  have Sg := S.go xg
  obtain ⟨fp, s1, s2, s3, s4⟩ := Sg.slots
  obtain ⟨a', C'', dx', vs', p1, p2, p3, p4, p5, p6, p7, p8⟩ := s1 i _ q
  have ea : a' = a := by rw [o1] at p1; injection p1 with p1; injection p1 with p1; injection p1 with p1; exact p1.symm
  subst ea
  rw [o6] at p6
  injection p6 with p6
  injection p6 with p6a p6b p6c
  subst p6a p6b p6c
  have nF : G a' = none ∧ B.H0 a' = none := ⟨(s4 i a' (by rw [p2]; simp)).1, (s4 i a' (by rw [p2]; simp)).2.1⟩
  have hne : dx ≠ a' := fun z => p4 z.symm
  have kp : ∀ b, b ≠ a' → upd H1 a' (.ins C' dx (putF fl v vs)) b = H1 b := fun b hb => upd_ne hb
  have hi : i < σ.length := by rw [← Sg.len]; exact (List.getElem?_eq_some_iff.mp q).1
  have Sn : SR X.K X.mg B G (ρ.set i (.obj c' (putP fl p' gs0))) (σ.set i (some (.ref a'))) (upd H1 a' (.ins C' dx (putF fl v vs))) := by
    refine SR.mut Sg.ext Sg.len s1 s2 s3 s4 i (fun b o e hb => ?_) hi (L := [a', dx]) ⟨a', C', dx, putF fl v vs, rfl, rfl, p3, p4, p5, upd_same, by rw [kp _ hne]; exact p7, repF_put m1 (p8)⟩ (by simp [p4]) (fun b hb => .inl (by rw [p2]; exact hb)) (fun b hb => ?_)
    · by_cases hba : b = a'
      · subst hba
        obtain ⟨vs', e3⟩ := hb (by rw [p2]; simp)
        rw [o6] at e; injection e with e; rw [← e] at e3; cases e3
      · rw [kp b hba]; exact e
    · rcases List.mem_cons.mp hb with rfl | hb
      · exact ⟨_, upd_same⟩
      · have e : b = dx := by simpa using hb
        subst e; exact ⟨_, by rw [kp _ hne]; exact p7⟩
  have es : σ.set i (some (.ref a')) = σ := by
    apply List.ext_getElem?
    intro j
    by_cases hj : j = i
    · subst hj; rw [List.getElem?_set_self hi, o1]
    · rw [List.getElem?_set_ne (Ne.symm hj)]
  rw [es] at Sn
  exact w G σ _ xg.f Sn
end
end
end Pv
namespace Pv
open PySem PySem.Spec L2
noncomputable section

def getPL : List Nat → List PV → Option (List PV)
  | [], xs => some xs
  | k :: ks, xs => match xs[k]? with
    | some (.lst zs) => getPL ks zs
    | _ => none
def setPL : List Nat → List PV → List PV → List PV
  | [], ys, _ => ys
  | k :: ks, ys, xs => match xs[k]? with
    | some (.lst zs) => xs.set k (.lst (setPL ks ys zs))
    | _ => xs
def PathH (H : Hp) : List Nat → V → V → Prop
  | [], v0, v => v = v0
  | k :: ks, v0, v => ∃ a vs u, v0 = .ref a ∧ H a = some (.lst vs) ∧ vs[k]? = some u ∧ PathH H ks u v
theorem PathH.mono {H H' : Hp} (s : Same H H') : ∀ {ks : List Nat} {v0 v : V}, PathH H ks v0 v → PathH H' ks v0 v
  | [], _, _, h => h
  | _ :: _, _, _, ⟨a, vs, u, e1, e2, e3, h⟩ => ⟨a, vs, u, e1, s _ _ e2, e3, PathH.mono s h⟩
theorem PathH.uniq {H : Hp} : ∀ {ks : List Nat} {v0 v v' : V}, PathH H ks v0 v → PathH H ks v0 v' → v = v'
  | [], _, _, _, h, h' => h.trans h'.symm
  | _ :: _, _, _, _, ⟨a, vs, u, e1, e2, e3, h⟩, ⟨a', vs', u', f1, f2, f3, h'⟩ => by
    rw [e1] at f1; cases f1
    rw [e2] at f2; cases f2
    rw [e3] at f3; cases f3
    exact PathH.uniq h h'
theorem PathH.snoc {H : Hp} {a : Addr} {vs : List V} {u : V} {k : Nat} (e2 : H a = some (.lst vs)) (e3 : vs[k]? = some u) : ∀ {ks : List Nat} {v0 : V}, PathH H ks v0 (.ref a) → PathH H (ks ++ [k]) v0 u
  | [], _, h => ⟨a, vs, u, h.symm, e2, e3, rfl⟩
  | _ :: _, _, ⟨b, ws, w, f1, f2, f3, h⟩ => ⟨b, ws, w, f1, f2, f3, PathH.snoc e2 e3 h⟩
theorem AllO.split {R : PV → V → List Addr → Prop} : ∀ {xs : List PV} {vs : List V} {L : List Addr} {k : Nat} {x : PV}, AllO R xs vs L → xs[k]? = some x →
    ∃ u M1 Mx M2, vs[k]? = some u ∧ L = M1 ++ Mx ++ M2 ∧ R x u Mx ∧ ∀ (S : PV → V → List Addr → Prop) (x' : PV) (u' : V) (My : List Addr), (∀ p v L', (∀ b ∈ L', b ∈ M1 ++ M2) → R p v L' → S p v L') → S x' u' My → AllO S (xs.set k x') (vs.set k u') (M1 ++ My ++ M2)
  | [], _, _, _, _, _, e => by simp at e
  | y :: xs, _, _, 0, x, ⟨v, r, L1, L2, e1, e2, h1, h2⟩, e => by
    simp at e
    subst e e1 e2
    refine ⟨v, [], L1, L2, rfl, by simp, h1, fun S x' u' My k hs => ⟨u', r, My, L2, rfl, by simp, hs, h2.imp fun p v L' hm h => k p v L' (fun b hb => by simpa using hm b hb) h⟩⟩
  | y :: xs, _, _, k + 1, x, ⟨v, r, L1, L2, e1, e2, h1, h2⟩, e => by
    subst e1 e2
    obtain ⟨u, M1, Mx, M2, f1, f2, f3, f4⟩ := AllO.split (k := k) h2 (by simpa using e)
    subst f2
    refine ⟨u, L1 ++ M1, Mx, M2, by simpa using f1, by simp [List.append_assoc], f3, fun S x' u' My kk hs => ⟨v, r.set k u', L1, M1 ++ My ++ M2, rfl, by simp [List.append_assoc], kk _ _ _ (fun b hb => by simp [hb]) h1, f4 S x' u' My (fun p v L' hm h => kk p v L' (fun b hb => ?_) h) hs⟩⟩
    have := hm b hb
    simp only [List.mem_append] at this ⊢
    rcases this with q | q <;> simp [q]
section
variable {K : PySem.W.Frag} {mg : MG}
theorem RepO.focus {F H : Hp} : ∀ {ks : List Nat} {n : Nat} {xs ys : List PV} {v : V} {L : List Addr}, RepO K mg F H (n + 1) (.lst xs) v L → L.Nodup → getPL ks xs = some ys → ks.length ≤ n →
    ∃ a vs L1 Lx L2, PathH H ks v (.ref a) ∧ H a = some (.lst vs) ∧ L = L1 ++ (a :: Lx) ++ L2 ∧ AllO (RepO K mg F H (n - ks.length)) ys vs Lx ∧
      ∀ (G H' : Hp) (zs : List PV) (ws : List V) (Lz : List Addr), Same F G → (∀ b ∈ L, b ≠ a → ∀ o, H b = some o → H' b = some o) → H' a = some (.lst ws) → AllO (RepO K mg G H' (n - ks.length)) zs ws Lz → RepO K mg G H' (n + 1) (.lst (setPL ks zs xs)) v (L1 ++ (a :: Lz) ++ L2)
  | [], n, xs, ys, v, L, ⟨a, vs, Ls, e1, h1, e2, h2⟩, nd, g, hl => by
    simp only [getPL] at g
    cases g
    refine ⟨a, vs, [], Ls, [], e1.symm, h1, by simp [e2], h2, fun G H' zs ws Lz sG _ ha hz => ⟨a, ws, Lz, e1, ha, by simp, hz⟩⟩
  | k :: ks, n, xs, ys, v, L, ⟨a, vs, Ls, e1, h1, e2, h2⟩, nd, g, hl => by
    simp only [getPL] at g
    split at g
    case h_2 => cases g
    rename_i zs0 hz0
    obtain ⟨m, rfl⟩ : ∃ m, n = m + 1 := ⟨n - 1, by simp at hl; omega⟩
    obtain ⟨u, M1, Mx, M2, f1, f2, f3, f4⟩ := AllO.split h2 hz0
    subst e2 f2
    have ndx : Mx.Nodup := by
      have := (List.nodup_cons.mp nd).2
      exact (List.nodup_append.mp (List.nodup_append.mp this).1).2.1
    obtain ⟨b, ws, L1, Lx, L2, p1, p2, p3, p4, p5⟩ := RepO.focus f3 ndx g (by simp at hl; omega)
    have hb : b ∈ Mx := by rw [p3]; simp
    have hab : a ≠ b := fun z => by
      have := (List.nodup_cons.mp nd).1
      rw [z] at this
      exact this (by simp [hb])
    have hd : m + 1 - (k :: ks).length = m - ks.length := by simp
    rw [hd]
    refine ⟨b, ws, a :: M1 ++ L1, Lx, L2 ++ M2, ⟨a, vs, u, e1, h1, f1, p1⟩, p2, by rw [p3]; simp [List.append_assoc], p4, fun G H' zs ws' Lz sG kk hb' hz => ?_⟩
    have r := p5 G H' zs ws' Lz sG (fun c hc hne o ho => kk c (by simp [hc]) hne o ho) hb' hz
    have e3 : setPL (k :: ks) zs xs = xs.set k (.lst (setPL ks zs zs0)) := by
      show (match xs[k]? with | some (.lst zs') => xs.set k (.lst (setPL ks zs zs')) | _ => xs) = _
      rw [hz0]
    rw [e3]
    refine ⟨a, vs.set k u, M1 ++ (L1 ++ (b :: Lz) ++ L2) ++ M2, e1, ?_, by simp [List.append_assoc], f4 _ _ _ _ (fun p v L' hm h => ?_) r⟩
    · have : vs.set k u = vs := by
        rw [List.getElem?_eq_some_iff] at f1
        obtain ⟨w1, w2⟩ := f1
        rw [← w2]; exact List.set_getElem_self w1
      rw [this]
      exact kk a (by simp) hab _ h1
    · refine h.mono sG fun c hc o ho => kk c ?_ (fun z => ?_) o ho
      · have := hm c hc
        simp only [List.mem_cons, List.mem_append] at this ⊢
        rcases this with q | q <;> simp [q]
      · subst z
        have n1 := (List.nodup_cons.mp nd).2
        have := hm c hc
        rw [List.mem_append] at this
        rcases this with q | q
        · have := (List.nodup_append.mp (List.nodup_append.mp n1).1).2.2 c q c hb
          exact this rfl
        · have := (List.nodup_append.mp n1).2.2 c (by simp [hb]) c q
          exact this rfl
end
section
variable {X : Cx} {B : Bx} {W : WX} {o e k : Expr} {f g fk fe : VE} {i : Nat} {x : Str} {pos apos cpos p : Pos}
def tLV (K : PySem.W.Frag) (mg : MG) (B : Bx) (W : WX) (i : Nat) (pth : Env → R (List Nat)) : TE := fun σ H Q => ∃ F ρ, SR K mg B F ρ σ H ∧ match pth ρ with
  | .ok ks => ∀ v F' H', Ext F H F' H' → (∃ v0, σ[i]? = some (some v0) ∧ PathH H' ks v0 v) → Q v H'
  | .exc x => ∀ c d F' H', Ext F H F' H' → RepX K mg F' H' x c d → W c d σ H'
  | .bad => False
structure LV (X : Cx) (B : Bx) (W : WX) (o : Expr) (i : Nat) (pth : Env → R (List Nat)) : Prop where
  run : PE X o (tLV X.K X.mg B W i pth)
def slotL (ρ : Env) (i : Nat) (ks : List Nat) : Option (List PV) := match ρ[i]? with
  | some (.own n xs) => if ks.length ≤ n then getPL ks xs else none
  | _ => none
def slotD (ρ : Env) (i : Nat) (ks : List Nat) : Nat := match ρ[i]? with
  | some (.own n _) => n - ks.length
  | _ => 0
def pthN (i : Nat) : Env → R (List Nat) := fun ρ => match slotL ρ i [] with
  | some _ => .ok []
  | none => .bad
def pthI (i : Nat) (po : Env → R (List Nat)) (fk : VE) : Env → R (List Nat) := fun ρ => po ρ >>= fun ks => fk ρ >>= fun r => match r.pv with
  | .int j => (match slotL ρ i ks with
    | some ys => (match ixN ys.length j with | some m => (match slotL ρ i (ks ++ [m]) with | some _ => .ok (ks ++ [m]) | none => .bad) | none => .bad)
    | none => .bad)
  | _ => .bad
theorem SR.slotL {K : PySem.W.Frag} {mg : MG} {F H : Hp} {ρ : Env} {σ : L2.St} {ks : List Nat} {ys : List PV} (S : SR K mg B F ρ σ H) (e : slotL ρ i ks = some ys) :
    ∃ v0 a vs, σ[i]? = some (some v0) ∧ PathH H ks v0 (.ref a) ∧ H a = some (.lst vs) ∧ vs.length = ys.length := by
  obtain ⟨fp, h1, h2, h3, h4⟩ := S.slots
  unfold Pv.slotL at e
  split at e
  · rename_i n xs q
    split at e
    · rename_i hl
      obtain ⟨v, e1, r⟩ := h1 i _ q
      obtain ⟨a, vs, L1, Lx, L2, p1, p2, p3, p4, _⟩ := RepO.focus r (h2 i) e hl
      exact ⟨v, a, vs, e1, p1, p2, p4.length⟩
    · cases e
  · cases e
theorem lv_name (h : PE X (.Name x pos) (tVar i)) : LV X B W (.Name x pos) i (pthN i) := by
  refine ⟨pe_imp h fun σ H Q ⟨F, ρ, S, w⟩ => ?_⟩
  unfold pthN at w
  split at w
  case h_2 q => split at q <;> cases q
  case h_3 => exact w.elim
  rename_i ks q
  split at q
  case h_2 => cases q
  rename_i ys hs
  cases q
  obtain ⟨v0, a, vs, e1, e2, _⟩ := S.slotL hs
  exact ⟨v0, e1, w v0 F H (.refl S.ext.s) ⟨v0, e1, rfl⟩⟩
theorem lv_ix {po : Env → R (List Nat)} (ho : LV X B W o i po) (hk : EV X B W k fk) (hs : PlainIx k) : LV X B W (.Subscript o k pos) i (pthI i po fk) := by
  refine ⟨pe_imp (pe_ix ix_list ho.run hk.run hs) fun σ H Q ⟨F, ρ, S, w⟩ => ?_⟩
  unfold pthI at w
  refine ⟨F, ρ, S, ?_⟩
  cases q : po ρ with
  | exc y => rw [q] at w; exact w
  | bad => rw [q] at w; exact w
  | ok ks =>
    rw [q, R.ok_bind] at w
    intro v F1 H1 x1 ⟨v0, e0, ph⟩
    refine ⟨F1, ρ, S.go x1, ?_⟩
    cases q2 : fk ρ with
    | exc y => rw [q2] at w; exact fun c d F' H' x' => w c d F' H' (x1.trans x')
    | bad => rw [q2] at w; exact w
    | ok r =>
      rw [q2, R.ok_bind] at w
      intro v2 F2 H2 x2 rr
      have S2 := (S.go x1).go x2
      split at w
      case h_2 y hy => 
        exfalso
        split at hy
        · split at hy
          · split at hy
            · split at hy <;> cases hy
            · cases hy
          · cases hy
        · cases hy
      case h_3 => exact w.elim
      rename_i ks2 hy
      split at hy
      case h_2 => cases hy
      rename_i j ej
      split at hy
      case h_2 => cases hy
      rename_i ys hys
      split at hy
      case h_2 => cases hy
      rename_i m hm
      split at hy
      case h_2 => cases hy
      rename_i ys2 hys2
      cases hy
      have ev2 := see_int S2.ext.h rr ej
      obtain ⟨v0', a, vs, f1, f2, f3, f4⟩ := S2.slotL hys
      rw [e0] at f1; cases f1
      have ea := (ph.mono x2.h).uniq f2
      subst ea
      obtain ⟨u, hu⟩ : ∃ u, vs[m]? = some u := by
        have := (ixN_seq hm).2.1
        exact ⟨vs[m]'(by omega), List.getElem?_eq_getElem _⟩
      refine ⟨a, vs, j, u, rfl, ev2, SqL.of f3, ?_, w u F2 H2 (x1.trans x2) ⟨v0, e0, f2.snoc f3 hu⟩⟩
      unfold atI
      rw [f4, hm]; exact hu
def upP (i : Nat) (ks : List Nat) (zs : List PV) (ρ : Env) : Fl := match ρ[i]? with
  | some (.own n xs) => .next (ρ.set i (.own n (setPL ks zs xs)))
  | _ => .bad
theorem upd_same_ne {H : Hp} {a : Addr} {o' : HO} : ∀ b, b ≠ a → ∀ o, H b = some o → upd H a o' b = some o := fun b hb o e => by rw [upd_ne hb]; exact e
theorem mut_core {K : PySem.W.Frag} {mg : MG} {F G H H1 : Hp} {ρ : Env} {σ : L2.St} {ks : List Nat} {n : Nat} {xs ys : List PV} {v0 : V} {a : Addr} (S : SR K mg B F ρ σ H) (x : Ext F H G H1) (q : ρ[i]? = some (.own n xs)) (hl : ks.length ≤ n) (hg : getPL ks xs = some ys)
    (hv : σ[i]? = some (some v0)) (hp : PathH H1 ks v0 (.ref a)) :
    ∃ vs Lx, H1 a = some (.lst vs) ∧ AllO (RepO K mg G H1 (n - ks.length)) ys vs Lx ∧ (∀ b ∈ Lx, ∃ o, H b = some o) ∧ Lx.Nodup ∧
      ∀ zs ws Lz, AllO (RepO K mg G H1 (n - ks.length)) zs ws Lz → Lz.Nodup → (∀ b ∈ Lz, b ∈ Lx ∨ (G b = none ∧ H b = none)) → SR K mg B G (ρ.set i (.own n (setPL ks zs xs))) σ (upd H1 a (.lst ws)) := by
  obtain ⟨fp, h1, h2, h3, h4⟩ := S.slots
  have h1' : ∀ i s, ρ[i]? = some s → SlotR K mg B G H1 s (σ[i]?) (fp i) := fun j t e => (h1 j t e).mono x.f x.h
  have h4' : ∀ i a, a ∈ fp i → G a = none ∧ B.H0 a = none ∧ ∃ o, H1 a = some o := fun j b hb => by
    obtain ⟨a1, a2, o, a3⟩ := h4 j b hb
    refine ⟨?_, a2, o, x.h _ _ a3⟩
    cases e : G b with
    | none => rfl
    | some u =>
      have := x.n b u e a1
      rw [a3] at this; cases this
  obtain ⟨v, e1, r⟩ := h1' i _ q
  rw [hv] at e1; cases e1
  obtain ⟨a', vs, L1, Lx, L2, p1, p2, p3, p4, p5⟩ := RepO.focus r (h2 i) hg hl
  have ea := hp.uniq p1
  cases ea
  have nd := h2 i
  rw [p3] at nd
  have nd1 := (List.nodup_append.mp (List.nodup_append.mp nd).1).2.1
  refine ⟨vs, Lx, p2, p4, fun b hb => (h4 i b (by rw [p3]; simp [hb])).2.2, (List.nodup_cons.mp nd1).2, fun zs ws Lz hz ndz hs => ?_⟩
  have nz : ∀ b ∈ Lz, b ≠ a ∧ b ∉ L1 ∧ b ∉ L2 := fun b hb => by
    rcases hs b hb with k | ⟨_, k⟩
    · refine ⟨fun z => (List.nodup_cons.mp nd1).1 (z ▸ k), fun z => ?_, fun z => ?_⟩
      · exact (List.nodup_append.mp (List.nodup_append.mp nd).1).2.2 b z b (by simp [k]) rfl
      · exact (List.nodup_append.mp nd).2.2 b (by simp [k]) b z rfl
    · have hh : ∀ c, c ∈ fp i → b ≠ c := fun c hc z => by
        obtain ⟨_, _, o, ho⟩ := h4 i c hc
        rw [← z, k] at ho; cases ho
      exact ⟨hh a (by rw [p3]; simp), fun z => hh b (by rw [p3]; simp [z]) rfl, fun z => hh b (by rw [p3]; simp [z]) rfl⟩
  have rz := p5 G (upd H1 a (.lst ws)) zs ws Lz (.refl _) (fun b _ hne o ho => upd_same_ne b hne o ho) upd_same (hz.imp fun p v L' hm h => h.mono (.refl _) fun b hb o ho => upd_same_ne b (nz b (hm b hb)).1 o ho)
  have ext := S.ext.trans x
  have hi : i < σ.length := by rw [← S.len]; exact (List.getElem?_eq_some_iff.mp q).1
  have es : σ.set i (some v0) = σ := by
    apply List.ext_getElem?
    intro j
    by_cases hj : j = i
    · subst hj; rw [List.getElem?_set_self hi, hv]
    · rw [List.getElem?_set_ne (Ne.symm hj)]
  have := SR.mut (B := B) ext S.len h1' h2 h3 h4' i (H' := upd H1 a (.lst ws)) (s := .own n (setPL ks zs xs)) (o := some v0) (L := L1 ++ (a :: Lz) ++ L2) (fun b o e hb => ?_) hi ⟨v0, rfl, rz⟩ ?_ (fun b hb => ?_) (fun b hb => rz.there b hb)
  · rw [es] at this; exact this
  · by_cases hba : b = a
    · subst hba
      obtain ⟨vs', e3⟩ := hb (by rw [p3]; simp)
      rw [p2] at e; injection e with e; rw [← e] at e3; cases e3
    · exact upd_same_ne b hba o e
  · have n1 := (List.nodup_append.mp nd)
    have n2 := (List.nodup_append.mp n1.1)
    refine List.nodup_append.mpr ⟨List.nodup_append.mpr ⟨n2.1, List.nodup_cons.mpr ⟨fun z => (nz _ z).1 rfl, ndz⟩, fun b hb c hc => ?_⟩, n1.2.1, fun b hb c hc => ?_⟩
    · rcases List.mem_cons.mp hc with rfl | hc
      · exact n2.2.2 b hb c (by simp)
      · intro z; subst z; exact (nz _ hc).2.1 hb
    · rcases List.mem_append.mp hb with hb | hb
      · exact n1.2.2 b (by simp [hb]) c hc
      · rcases List.mem_cons.mp hb with rfl | hb
        · exact n1.2.2 b (by simp) c hc
        · intro z; subst z; exact (nz _ hb).2.2 hc
  · rcases List.mem_append.mp hb with hb | hb
    · rcases List.mem_append.mp hb with hb | hb
      · exact .inl (by rw [p3]; simp [hb])
      · rcases List.mem_cons.mp hb with rfl | hb
        · exact .inl (by rw [p3]; simp)
        · rcases hs b hb with k | k
          · exact .inl (by rw [p3]; simp [k])
          · exact .inr ⟨k.1, S.ext.h.free k.2, fun m hm => by
              obtain ⟨_, _, o, ho⟩ := h4 m b hm
              rw [k.2] at ho; cases ho⟩
    · exact .inl (by rw [p3]; simp [hb])
def apS (i : Nat) (po : Env → R (List Nat)) (fe : VE) : VS := fun ρ => match po ρ with
  | .ok ks => (match slotL ρ i ks with
    | some ys => onE fe (fun r ρ => match stD (slotD ρ i ks) r with
      | .ok p => if ys.length < sizeLine then upP i ks (ys ++ [p]) ρ else .bad
      | _ => .bad) ρ
    | none => .bad)
  | .exc x => .exc x ρ
  | .bad => .bad
theorem s_app {po : Env → R (List Nat)} (ho : LV X B W o i po) (he : EV X B W e fe) (hs : swapsWith (.Call (.Attribute o "append" apos) [e] [] cpos) none pos.line X.env = pure false := by rfl)
    (hbase : attributeBase o "append" X.env (eval o X.env) = eval o X.env := by rfl)
    (hfew : ((backTo cpos (starEach (e :: []) X.env)).all (fun x => !x.1) && (backToKw cpos (keywordEach [] X.env)).all (fun x => x.1.isSome)
      && decide ((e :: []).length + ([] : List Keyword).length + (if ([] : List Keyword).isEmpty then 0 else 1) < 30)) = true := by rfl)
    (hline : (apos.endLine == cpos.line) = true := by rfl) (hst : starEach (e :: []) X.env = (false, eval e X.env) :: starEach [] X.env := by rfl) (hplain : (backTo cpos (starEach [] X.env)).any (·.1) = false := by rfl) :
    SV X B W (.Expr (.Call (.Attribute o "append" apos) [e] [] cpos) pos) (apS i po fe) := by
  refine ⟨ps_imp (ps_expr (pe_bm PySem.F.plainAttrs_list PySem.F.slot_list_append PySem.F.type_list_append mt_append ho.run (pa_cons he.run pa_nil (hs := hst)) hbase hfew hline hst hplain) hs) fun D σ H ⟨F, ρ, S, w⟩ => ?_⟩
  unfold apS at w
  refine ⟨F, ρ, S, ?_⟩
  cases q : po ρ with
  | exc y => rw [q] at w; exact fun c d F' H' x' rx => w c d F' σ H' x'.f (S.go x') rx
  | bad => rw [q] at w; exact w
  | ok ks =>
    rw [q] at w
    intro v F1 H1 x1 ⟨v0, e0, ph⟩
    have S1 := S.go x1
    have key : ∀ ys, slotL ρ i ks = some ys → ∃ a vs, v = .ref a ∧ H1 a = some (.lst vs) := fun ys hy => by
      obtain ⟨v0', a, vs, f1, f2, f3, f4⟩ := S1.slotL hy
      rw [e0] at f1; cases f1
      exact ⟨a, vs, ph.uniq f2, f3⟩
    cases q2 : slotL ρ i ks with
    | none => simp only [q2] at w; exact w.elim
    | some ys =>
      simp only [q2] at w
      unfold onE at w
      obtain ⟨a, vs, rfl, hH⟩ := key ys q2
      refine ⟨.inl ⟨rfl, vs, SqL.of hH⟩, F1, ρ, S1, ?_⟩
      cases q3 : fe ρ with
      | exc y => rw [q3] at w; exact fun c d F' H' x' rx => w c d F' σ H' (x1.f.trans x'.f) (S1.go x') rx
      | bad => rw [q3] at w; exact w
      | ok r =>
        rw [q3] at w
        simp only at w
        split at w
        case h_2 => exact w.elim
        rename_i p ep
        split at w
        case isFalse => exact w.elim
        rename_i hz
        intro u F2 H2 x2 rr
        unfold slotL at q2
        split at q2
        case h_2 => cases q2
        rename_i n xs qq
        split at q2
        case isFalse => cases q2
        rename_i hl
        unfold slotD at ep
        rw [qq] at ep
        obtain ⟨G, M, xg, g1, g2, g3, g4, g5⟩ := stD_ok x2 rr ep
        obtain ⟨vs2, Lx, c1, c2, c3, c4, c5⟩ := mut_core S1 xg qq hl q2 e0 (ph.mono xg.h)
        refine ⟨a, vs2, u, rfl, rfl, c1, by rw [c2.length]; exact hz, ?_⟩
        have Sn := c5 (ys ++ [p]) (vs2 ++ [u]) (Lx ++ M) (AllO.snoc g2 c2) (List.nodup_append.mpr ⟨c4, g3, fun b hb c hc z => by
          subst z
          obtain ⟨o, ho⟩ := c3 b hb
          rw [(g4 b hc).2] at ho; cases ho⟩) fun b hb => by
            rcases List.mem_append.mp hb with h | h
            · exact .inl h
            · exact .inr (g4 b h)
        unfold upP at w
        rw [qq] at w
        exact w G σ _ (x1.f.trans xg.f) Sn
def ixS (i : Nat) (po : Env → R (List Nat)) (fk fe : VE) : VS := onE fe fun r ρ => match po ρ with
  | .ok ks => (match slotL ρ i ks with
    | some ys => onE fk (fun rk ρ => match rk.pv with
      | .int j => (match ixN ys.length j, stD (slotD ρ i ks) r with
        | some m, .ok p => upP i ks (ys.set m p) ρ
        | _, _ => .bad)
      | _ => .bad) ρ
    | none => .bad)
  | .exc x => .exc x ρ
  | .bad => .bad
theorem s_ixS {po : Env → R (List Nat)} {pt : Pos} (ho : LV X B W o i po) (hk : EV X B W k fk) (he : EV X B W e fe) (hs : swapsWithSole [.Subscript o k pt] e pos.line X.env = pure false := by rfl) (hw : swappedStores [.Subscript o k pt] e X.env = pure none := by rfl)
    (h1 : (assignEach [.Subscript o k pt] X.env).map (·.2) = [assign (.Subscript o k pt) X.env] := by rfl)
    (ha : ∀ v, assign (.Subscript o k pt) X.env v = (do
      let ov ← holding [v] (eval o X.env)
      let iv ← holding [v, ov] (eval k X.env)
      standAt pt
      holding [v, ov, iv] (setItem ov iv v)
      release [v, ov, iv] []) := by intro _; rfl) : SV X B W (.Assign [.Subscript o k pt] e pos) (ixS i po fk fe) := by
  refine ⟨ps_imp (ps_asg he.run (pg_sub ho.run hk.run set_list ha) hs hw h1) fun D σ H hw => ?_⟩
  refine want_onE hw fun F F0 H0 ρ r v S x0 rr w => ?_
  have S0 := S.go x0
  refine ⟨F0, ρ, S0, ?_⟩
  cases q : po ρ with
  | exc y => rw [q] at w; exact fun c d F' H' x' rx => w c d F' σ H' (x0.f.trans x'.f) (S0.go x') rx
  | bad => rw [q] at w; exact w
  | ok ks =>
    rw [q] at w
    intro u F1 H1 x1 ⟨v0, e0, ph⟩
    have S1 := S0.go x1
    refine ⟨F1, ρ, S1, ?_⟩
    simp only at w
    cases q2 : slotL ρ i ks with
    | none => rw [q2] at w; exact w.elim
    | some ys =>
      rw [q2] at w
      simp only at w
      unfold onE at w
      cases q3 : fk ρ with
      | exc y => rw [q3] at w; exact fun c d F' H' x' rx => w c d F' σ H' ((x0.trans x1).f.trans x'.f) (S1.go x') rx
      | bad => rw [q3] at w; exact w
      | ok rk =>
        rw [q3] at w
        simp only at w
        intro kv F2 H2 x2 rrk
        split at w
        case h_2 => exact w.elim
        rename_i j ej
        split at w
        case h_2 => exact w.elim
        rename_i m p em ep
        have S2 := S1.go x2
        have ek := see_int S2.ext.h rrk ej
        subst ek
        have x02 := (x0.trans x1).trans x2
        have rr2 : RepRes X.K X.mg B F2 H H2 r v := rr.ext (x1.trans x2)
        unfold slotL at q2
        split at q2
        case h_2 => cases q2
        rename_i n xs qq
        split at q2
        case isFalse => cases q2
        rename_i hl
        unfold slotD at ep
        rw [qq] at ep
        obtain ⟨G, M, xg, g1, g2, g3, g4, g5⟩ := stD_ok x02 rr2 ep
        have S2' := S.go x02
        obtain ⟨v0', a, vs', f1, f2, f3, f4⟩ := S2'.slotL (ks := ks) (ys := ys) (by unfold slotL; rw [qq]; simp only [if_pos hl]; exact q2)
        rw [e0] at f1; cases f1
        have ea := (ph.mono x2.h).uniq f2
        subst ea
        obtain ⟨vs2, Lx, c1, c2, c3, c4, c5⟩ := mut_core S xg qq hl q2 e0 f2
        have hm := ixN_seq em
        obtain ⟨p0, hp0⟩ : ∃ p0, ys[m]? = some p0 := ⟨_, List.getElem?_eq_getElem hm.2.1⟩
        obtain ⟨u0, M1, Mx, M2, t1, t2, t3, t4⟩ := AllO.split c2 hp0
        refine ⟨a, vs2, j, m, rfl, rfl, c1, by rw [c2.length]; exact em, ?_⟩
        rw [t2] at c4
        have n1 := List.nodup_append.mp c4
        have n2 := List.nodup_append.mp n1.1
        have hfr : ∀ b, b ∈ M → b ∈ Lx → False := fun b hb hc => by
          obtain ⟨o, ho⟩ := c3 b hc
          rw [(g4 b hb).2] at ho; cases ho
        have Sn := c5 (ys.set m p) (vs2.set m v) (M1 ++ M ++ M2) (t4 _ _ _ _ (fun p v L' _ h => h) g2)
          (List.nodup_append.mpr ⟨List.nodup_append.mpr ⟨n2.1, g3, fun b hb c hc z => hfr c hc (by rw [t2, ← z]; simp [hb])⟩, n1.2.1, fun b hb c hc => by
            rcases List.mem_append.mp hb with h | h
            · exact n1.2.2 b (by simp [h]) c hc
            · exact fun z => hfr b h (by rw [t2, z]; simp [hc])⟩)
          (fun b hb => by
            rcases List.mem_append.mp hb with h | h
            · rcases List.mem_append.mp h with h | h
              · exact .inl (by rw [t2]; simp [h])
              · exact .inr (g4 b h)
            · exact .inl (by rw [t2]; simp [h]))
        unfold upP at w
        rw [qq] at w
        exact w G σ _ xg.f Sn
def nilD (d : Nat) : VE := fun _ => .ok (.new d [])
theorem e_nil {d : Nat} : EV X B W (.List [] pos) (nilD d) := by
  refine .of (pe_lst pa_nil) fun σ H Q h => ?_
  obtain ⟨F, ρ, S, w⟩ := h
  have w : WantE X.K X.mg B W F H σ Q (.ok (.new d [])) := w
  refine ⟨Nat.zero_le _, fun a ha => w (.ref a) F _ (Ext.lay S.ext.s ha) ⟨[a], ⟨a, [], [], rfl, upd_same, rfl, rfl, rfl⟩, by simp, fun b hb => ?_⟩⟩
  have : b = a := by simpa using hb
  subst this
  exact ⟨S.ext.s.free ha, ha⟩
end
end
end Pv
namespace Pv
open PySem PySem.Spec L2
noncomputable section

def SqX (K : PySem.W.Frag) (k : Bool) (H : Hp) (a : Addr) (xs : List V) : Prop := match k with
  | true => SqT K H a xs
  | false => SqL K H a xs
def ItX (k : Bool) (h : Heap) (it a : Addr) (i : Nat) : Prop := match k with
  | true => h.IsTupleIter it a i
  | false => h.IsListIter it a i
def IsX (k : Bool) (h : Heap) (a : Addr) (its : Array Value) : Prop := match k with
  | true => h.IsTuple a its
  | false => h.IsList a its
theorem ItX.at {k : Bool} {h h' : Heap} {it a : Addr} {i : Nat} (x : ItX k h it a i) (e : ∀ o, h.get? it = some o → h'.get? it = some o) : ItX k h' it a i := by
  cases k with
  | true => exact Heap.IsTupleIter.at x e
  | false => exact Heap.IsListIter.at x e
theorem ItX.some {k : Bool} {h : Heap} {it a : Addr} {i : Nat} (x : ItX k h it a i) : ∃ o, h.get? it = some o ∧ ∀ v, o.data ≠ .cell v := by
  cases k with
  | true => obtain ⟨o, e, _, d⟩ := x; exact ⟨o, e, fun v q => by rw [d] at q; cases q⟩
  | false => obtain ⟨o, e, _, d⟩ := x; exact ⟨o, e, fun v q => by rw [d] at q; cases q⟩
theorem IsX.some {k : Bool} {h : Heap} {a : Addr} {its : Array Value} (x : IsX k h a its) : ∃ o, h.get? a = some o := by
  cases k with
  | true => obtain ⟨o, e, _⟩ := x; exact ⟨o, e⟩
  | false => obtain ⟨o, e, _⟩ := x; exact ⟨o, e⟩
section
variable {X : Cx} {pins : List (Addr × Obj)} {σ : L2.St} {H : Hp} {s : Shared}
theorem inv_X {k : Bool} {a : Addr} {xs : List V} (I : Inv X pins σ H s) (h : SqX X.K k H a xs) : ∃ its : List Value, Vals xs its ∧ IsX k s.heap a its.toArray := by
  cases k with
  | true => obtain ⟨its, rv, p, _⟩ := I.tuple h; exact ⟨its, rv, p⟩
  | false => obtain ⟨its, rv, p, _⟩ := I.list h; exact ⟨its, rv, p.isList⟩
end
theorem drawsX {k : Bool} {prog : Program} {w : World} {A : Around} (hh : A.handled = none) {it a : Addr} (hne : a ≠ it) (items : Array Value) :
    Draws prog w A it [it, a] items.size (fun i v => items[i]? = some v) (fun i h => ItX k h it a i ∧ IsX k h a items) := by
  cases k with
  | true => exact Draws.tuple hh it a hne items
  | false => exact Draws.list hh it a hne items
theorem beginsX {k : Bool} (a : Addr) (items : Array Value) : ∃ o, Begins (.ref a) o (fun h => IsX k h a items) ∧ ∀ h it, h.get? it = some o → ItX k h it a 0 := by
  cases k with
  | true => exact ⟨_, begins_tuple a items, fun h it e => ⟨_, e, rfl, rfl⟩⟩
  | false => exact ⟨_, begins_list a items, fun h it e => ⟨_, e, rfl, rfl⟩⟩
def Jz (K : PySem.W.Frag) (k1 k2 : Bool) (a b : Addr) (xs ys : List V) : It :=
  ⟨fun i H => i < min xs.length ys.length ∧ SqX K k1 H a xs ∧ SqX K k2 H b ys,
   fun i H v H' => ∃ T x y, v = .ref T ∧ H T = none ∧ H' = upd H T (.tup [x, y]) ∧ xs[i]? = some x ∧ ys[i]? = some y,
   fun i H => min xs.length ys.length ≤ i ∧ SqX K k1 H a xs ∧ SqX K k2 H b ys⟩
theorem turn_zX {P : Program} {w : World} {K : PySem.W.Frag} {elts : List Expr} {kk : Nat} {tpos : Pos} {k1 k2 : Bool} {a b z TI TO i1 i2 : Addr} {xs ys : List V} (D : ZipSep2 z TI TO i1 i2 [i1, a] [i2, b]) (ha : a ≠ i1) (hb : b ≠ i2) :
    Turn P w K (.Tuple elts kk tpos) (Jz K k1 k2 a b xs ys) [z, TI, TO, i1, i2] z (fun i h => i ≤ min xs.length ys.length ∧ IsZip h z TI TO .none ∧ IsTupOf2 h TI (.ref i1) (.ref i2) ∧ (∃ x y, IsTupOf2 h TO x y) ∧ ItX k1 h i1 a i ∧ ItX k2 h i2 b i) where
  mem := by simp
  obj := fun i h st c hc => by
    obtain ⟨_, hz, hTI, ⟨x, y, hTO⟩, h1, h2⟩ := st
    have e' : c = z ∨ c = TI ∨ c = TO ∨ c = i1 ∨ c = i2 := by simpa using hc
    rcases e' with q | q | q | q | q
    · rw [q]; exact ⟨_, hz, fun v q => nomatch q⟩
    · rw [q]; exact ⟨_, hTI, fun v q => nomatch q⟩
    · rw [q]; exact ⟨_, hTO, fun v q => nomatch q⟩
    · rw [q]; exact h1.some
    · rw [q]; exact h2.some
  keep := fun i h h' st k => by
    obtain ⟨h0, hz, hTI, ⟨x, y, hTO⟩, h1, h2⟩ := st
    exact ⟨h0, k z (by simp) _ hz, k TI (by simp) _ hTI, ⟨x, y, k TO (by simp) _ hTO⟩, h1.at fun o q => k i1 (by simp) o q, h2.at fun o q => k i2 (by simp) o q⟩
  item := by
    intro X hP hw hK hc i pins s σ H E I hf st hg
    subst hP hw hK
    obtain ⟨h0, hz, hTI, ⟨x0, y0, hTO⟩, h1, h2⟩ := st
    obtain ⟨hlt, hqx, hqy⟩ := hg
    obtain ⟨its, rv, p⟩ := inv_X I hqx
    obtain ⟨its2, rv2, p2⟩ := inv_X I hqy
    have l1 := rv.length
    have l2 := rv2.length
    have hzl : z < s.heap.objs.size := Heap.lt_size hz
    have hh : X.A.in1.handled = none := I.ok.hd hc
    refine wpAny_pyNext_zipD2_item D (drawsX hh ha its.toArray) (drawsX hh hb its2.toArray) hz hTI hTO ⟨h1, p⟩ ⟨h2, p2⟩ (by rw [List.size_toArray]; omega) (by rw [List.size_toArray]; omega) fun u u2 h' tk hu hu2 z' TO' h1' h2' hT hsz hk => ?_
    obtain ⟨x, hx⟩ : ∃ x, xs[i]? = some x := ⟨_, List.getElem?_eq_getElem (by omega)⟩
    obtain ⟨y, hy⟩ : ∃ y, ys[i]? = some y := ⟨_, List.getElem?_eq_getElem (by omega)⟩
    have ru : RelV x u := by
      obtain ⟨u', e1, e2⟩ := rv.get hx
      have hu : its.toArray[i]? = some u := hu
      rw [List.getElem?_toArray, e1] at hu; cases hu; exact e2
    have ru2 : RelV y u2 := by
      obtain ⟨u', e1, e2⟩ := rv2.get hy
      have hu2 : its2.toArray[i]? = some u2 := hu2
      rw [List.getElem?_toArray, e1] at hu2; cases hu2; exact e2
    refine ⟨_, rfl, wpAny_letOwnedTupleGo_zip (s := { s with heap := h', toks := tk }) z' fun h'' z'' sb => ?_⟩
    have hT2 : h''.get? s.heap.objs.size = some { cls := .type "tuple", data := .seq #[u, u2] } := (sb.2 _ (Nat.ne_of_gt hzl)).trans hT
    have new : ObjOk X.prog X.w (upd H s.heap.objs.size (.tup [x, y])) h'' s.heap.objs.size (.tup [x, y]) :=
      ⟨by show 2 ≤ sizeLine; decide, [u, u2], .cons ru (.cons ru2 .nil), ⟨_, hT2, rfl, _, rfl⟩⟩
    have I1 : Inv X pins σ (upd H s.heap.objs.size (.tup [x, y])) { s with heap := h'', toks := tk } :=
      I.turnedNew (t' := tk) (ch := [z, TI, TO, i1, i2]) (fun c o hb q => (sb.2 c (fun q' => hb (by simp [q']))).trans (hk c o (fun q' => hb (by simp [q'])) (fun q' => hb (by simp [q'])) (fun q' => hb (by simp [q'])) (fun q' => hb (by simp [q'])) q)) hf (Nat.le_refl _) new
    refine ⟨.ref s.heap.objs.size, _, I1, rfl, ⟨_, x, y, rfl, I.hok.fresh (Nat.le_refl _), rfl, hx, hy⟩, ⟨by omega, z'', ?_, ⟨u, u2, ?_⟩, ?_, ?_⟩, fun c hcm => ?_⟩
    · exact (sb.2 _ D.TIz).trans (hk _ _ D.TIz D.TITO D.TIi1 D.TIi2 hTI)
    · exact (sb.2 _ D.TOz).trans TO'
    · exact h1'.1.at fun o q => (sb.2 _ D.zi1.symm).trans q
    · exact h2'.1.at fun o q => (sb.2 _ D.zi2.symm).trans q
    · have hlt : c < s.heap.objs.size := by
        have e' : c = z ∨ c = TI ∨ c = TO ∨ c = i1 ∨ c = i2 := by simpa using hcm
        rcases e' with q | q | q | q | q
        · rw [q]; exact hzl
        · rw [q]; exact Heap.lt_size hTI
        · rw [q]; exact Heap.lt_size hTO
        · rw [q]; obtain ⟨_, e1, _⟩ := h1.some; exact Heap.lt_size e1
        · rw [q]; obtain ⟨_, e2, _⟩ := h2.some; exact Heap.lt_size e2
      rw [upd_ne (Nat.ne_of_lt hlt)]
      exact (hf c hcm).1
  done := by
    intro X hP hw hK hc i pins s σ H E I hf st hg
    subst hP hw hK
    obtain ⟨h0, hz, hTI, ⟨x0, y0, hTO⟩, h1, h2⟩ := st
    obtain ⟨hle, hqx, hqy⟩ := hg
    obtain ⟨its, rv, p⟩ := inv_X I hqx
    obtain ⟨its2, rv2, p2⟩ := inv_X I hqy
    have l1 := rv.length
    have l2 := rv2.length
    have hh : X.A.in1.handled = none := I.ok.hd hc
    exact wpAny_pyNext_zipD2_end D (drawsX hh ha its.toArray) (drawsX hh hb its2.toArray) hz hTI hTO ⟨h1, p⟩ ⟨h2, p2⟩ (by rw [List.size_toArray]; omega) (by rw [List.size_toArray]; omega) (by simp only [List.size_toArray]; omega) fun h' tk hk => ⟨rfl, I.turnedL (t' := tk) (ch := [z, TI, TO, i1, i2]) (fun c o hb q =>
      hk c o (fun q' => hb (by simp [q'])) (fun q' => hb (by simp [q'])) (fun q' => hb (by simp [q'])) (fun q' => hb (by simp [q'])) q) hf⟩
  self := fun A i s Q E st h => wpAny_pyIter_zip st.2.1 h
theorem sep5 {n a b : Nat} (la : a < n) (lb : b < n) : ZipSep2 (n + 4) (n + 2) (n + 3) n (n + 1) [n, a] [n + 1, b] := by
  have h : ∀ {x y : Nat}, x ≠ y → ∀ {z : Nat}, x ≠ z → x ∉ [y, z] := fun h1 _ h2 => by simp [h1, h2]
  refine ⟨?_, ?_, ?_, ?_, by simp, h ?_ ?_, h ?_ ?_, ?_, by simp, h ?_ ?_, h ?_ ?_, h ?_ ?_, h ?_ ?_⟩ <;> intro (z : @Eq Nat _ _) <;> omega
theorem ge5 {n c : Nat} (h : c = n + 4 ∨ c = n + 2 ∨ c = n + 3 ∨ c = n ∨ c = n + 1) : n ≤ c := by omega
theorem ge2 {n c : Nat} (h : c = n + 1 ∨ c = n) : n ≤ c := by omega
def iZX (K : PySem.W.Frag) (ta : TA) : TI := fun σ H R => ta σ H fun vs H1 => ∃ k1 k2 a b xs ys, vs = [.ref a, .ref b] ∧ SqX K k1 H1 a xs ∧ SqX K k2 H1 b ys ∧ R (Jz K k1 k2 a b xs ys) H1
theorem pi_zX {X : Cx} {e e2 : Expr} {ta : TA} {p pos tpos : Pos} {elts : List Expr} {kk : Nat} (hg : Gl X "zip") (hm : X.mg "zip" = none) (ha : PA X [e, e2] ta)
    (hs : starEach [e, e2] X.env = (false, eval e X.env) :: starEach [e2] X.env := by rfl) (hpl : (backTo pos (starEach [e2] X.env)).any (·.1) = false := by rfl) :
    PI X (.Tuple elts kk tpos) (.Call (.Name "zip" p) [e, e2] [] pos) (iZX X.K ta) := by
  refine ⟨fun pins s σ H R I h => ?_⟩
  refine PyProof.Rows.Call_ (ld_blt I hg hm PyProof.Rows.boot_zip (PyProof.Rows.callWith_type1 (thn (ha.run pos pins s σ H _ I h) fun us s1 ⟨vs, H1, I1, r1, q1⟩ => ?_) hs hpl))
  obtain ⟨k1, k2, a, b, xs, ys, ex, hqx, hqy, q⟩ := q1
  subst ex
  cases r1 with
  | cons r rr =>
    cases rr with
    | cons r' rr =>
      cases rr
      cases r
      cases r'
      obtain ⟨its, rv, p⟩ := inv_X I1 hqx
      obtain ⟨its2, rv2, p2⟩ := inv_X I1 hqy
      obtain ⟨o1, B1, t1⟩ := beginsX (k := k1) a its.toArray
      obtain ⟨o2, B2, t2⟩ := beginsX (k := k2) b its2.toArray
      have la : a < s1.heap.objs.size := by obtain ⟨_, e⟩ := p.some; exact Heap.lt_size e
      have lb : b < s1.heap.objs.size := by obtain ⟨_, e⟩ := p2.some; exact Heap.lt_size e
      refine zip_begins2 B1 B2 p p2 fun h' hz hTI hTO h1 h2 hsz hk => wpAny_pyIter_zip hz ?_
      have I2 : Inv X pins σ H1 { s1 with heap := h' } := I1.kept (t' := s1.toks) hk
      refine ⟨s1.heap.objs.size + 4, [s1.heap.objs.size + 4, s1.heap.objs.size + 2, s1.heap.objs.size + 3, s1.heap.objs.size, s1.heap.objs.size + 1], _, _, H1, rfl, I2, turn_zX (k1 := k1) (k2 := k2) (xs := xs) (ys := ys) (a := a) (b := b) (sep5 la lb) (Nat.ne_of_lt la) (Nat.ne_of_lt (Nat.lt_succ_of_lt lb)), ⟨Nat.zero_le _, hz, hTI, ⟨_, _, hTO⟩, t1 _ _ h1, t2 _ _ h2⟩, fun c hcm => ?_, q⟩
      have hle : s1.heap.objs.size ≤ c := ge5 (by simpa using hcm)
      exact I1.fpOk hle (I1.hok.fresh hle)

def Je (K : PySem.W.Frag) (k : Bool) (a : Addr) (xs : List V) : It :=
  ⟨fun i H => i < xs.length ∧ SqX K k H a xs, fun i H v H' => ∃ T x, v = .ref T ∧ H T = none ∧ H' = upd H T (.tup [.int (i : Nat), x]) ∧ xs[i]? = some x, fun i H => xs.length ≤ i ∧ SqX K k H a xs⟩
theorem turn_eX {P : Program} {w : World} {K : PySem.W.Frag} {elts : List Expr} {kk : Nat} {tpos : Pos} {k : Bool} {a e it : Addr} {xs : List V} (ha : a ≠ it) (hei : e ≠ it) (hea : e ≠ a) :
    Turn P w K (.Tuple elts kk tpos) (Je K k a xs) [e, it] e (fun i h => i ≤ xs.length ∧ (∃ old, IsEnum h e it ((i : Nat) : Int) old) ∧ ItX k h it a i) where
  mem := by simp
  obj := fun i h st b hb => by
    obtain ⟨_, ⟨old, he⟩, hi⟩ := st
    have e' : b = e ∨ b = it := by simpa using hb
    rcases e' with z | z
    · rw [z]; exact ⟨_, he, fun v q => nomatch q⟩
    · rw [z]; exact hi.some
  keep := fun i h h' st k => let ⟨h0, ⟨old, he⟩, hi⟩ := st; ⟨h0, ⟨old, k e (by simp) _ he⟩, hi.at fun o q => k it (by simp) o q⟩
  item := by
    intro X hP hw hK hc i pins s σ H E I hf st hg
    subst hP hw hK
    obtain ⟨h0, ⟨old, he⟩, hit⟩ := st
    obtain ⟨hlt, hq⟩ := hg
    obtain ⟨its, rv, p⟩ := inv_X I hq
    have l1 := rv.length
    have hel : e < s.heap.objs.size := Heap.lt_size he
    have hil : it < s.heap.objs.size := by obtain ⟨_, q, _⟩ := hit.some; exact Heap.lt_size q
    have hh : X.A.in1.handled = none := I.ok.hd hc
    obtain ⟨x, hx⟩ : ∃ x, xs[i]? = some x := ⟨_, List.getElem?_eq_getElem hlt⟩
    refine wpAny_pyNext_enum_itemC (drawsX hh ha its.toArray) he ⟨hit, p⟩ (by rw [List.size_toArray]; omega) hei (by simp [hei, hea]) fun u h' tk hu ho hit' hT hsz hk => ?_
    have ru : RelV x u := by
      obtain ⟨u', e1, e2⟩ := rv.get hx
      have hu : its.toArray[i]? = some u := hu
      rw [List.getElem?_toArray, e1] at hu; cases hu; exact e2
    refine ⟨_, rfl, wpAny_letOwnedTupleGo_enum (s := { s with heap := h', toks := tk + 1 }) ho fun h'' he' sb => ?_⟩
    have hT2 : h''.get? s.heap.objs.size = some { cls := .type "tuple", data := .seq #[.int i tk, u] } := (sb.2 _ (Nat.ne_of_gt hel)).trans hT
    have new : ObjOk X.prog X.w (upd H s.heap.objs.size (.tup [.int (i : Nat), x])) h'' s.heap.objs.size (.tup [.int (i : Nat), x]) :=
      ⟨by show 2 ≤ sizeLine; decide, [.int i tk, u], .cons ⟨_, rfl⟩ (.cons ru .nil), ⟨_, hT2, rfl, _, rfl⟩⟩
    have I1 : Inv X pins σ (upd H s.heap.objs.size (.tup [.int (i : Nat), x])) { s with heap := h'', toks := tk + 1 } :=
      I.turnedNew (ch := [e, it]) (fun b ob hb q => (sb.2 b (fun z => hb (by simp [z]))).trans (hk b ob (fun z => hb (by simp [z])) (fun z => hb (by simp [z])) q)) hf (Nat.le_refl _) new
    refine ⟨.ref s.heap.objs.size, _, I1, rfl, ⟨_, x, rfl, I.hok.fresh (Nat.le_refl _), rfl, hx⟩, ⟨by omega, ⟨u, ?_⟩, hit'.1.at fun o q => (sb.2 it (Ne.symm hei)).trans q⟩, fun b hb => ?_⟩
    · have e1 : ((i + 1 : Nat) : Int) = (i : Int) + 1 := by omega
      rw [e1]; exact he'
    · have hb' : b < s.heap.objs.size := by
        have e' : b = e ∨ b = it := by simpa using hb
        rcases e' with z | z
        · rw [z]; exact hel
        · rw [z]; exact hil
      rw [upd_ne (Nat.ne_of_lt hb')]
      exact (hf b hb).1
  done := by
    intro X hP hw hK hc i pins s σ H E I hf st hg
    subst hP hw hK
    obtain ⟨h0, ⟨old, he⟩, hit⟩ := st
    obtain ⟨hle, hq⟩ := hg
    obtain ⟨its, rv, p⟩ := inv_X I hq
    have l1 := rv.length
    have hh : X.A.in1.handled = none := I.ok.hd hc
    obtain ⟨f0, f1, f2, f3, f4, f5⟩ := hf it (by simp)
    have ei : i = its.toArray.size := by rw [List.size_toArray]; omega
    have st : ItX k s.heap it a its.toArray.size ∧ IsX k s.heap a its.toArray := ⟨ei ▸ hit, p⟩
    refine wpAny_pyNext_enum_endD (drawsX hh ha its.toArray) he st fun h' eb => ⟨rfl, I.turned (t' := s.toks) (fun b o hb q => eb b o hb q) f0 f1 f3 f4 f5⟩
  self := fun A i s Q E st h => let ⟨_, ⟨_, he⟩, _⟩ := st; wpAny_pyIter_enum he h
set_option maxHeartbeats 1000000 in
theorem meets_enum1 {v : Value} {o : Obj} {H : Heap → Prop} (B : Begins v o H) :
    Meets (Builtin.«enumerate.__new__» ⟨[.type "enumerate", v], []⟩) (fun _ R s => H s.heap ∧
      R (.ok (.ret (.ref (s.heap.push o).objs.size))) { s with heap := (s.heap.push o).push { cls := .type "enumerate", data := .fields #[.none, .bool false, .ref s.heap.objs.size, rawInt 0, .none, .none] } }) :=
  .of_wp fun prog w A R s h => by
    obtain ⟨hp, g, d, tk, os⟩ := s; obtain ⟨h1, h⟩ := h
    have hsub := sub_enumerate
    have q1 : ∀ {A' : Around} {E : Value → Shared → Prop} {Q : Value → Shared → Prop}, Q (.ref hp.objs.size) ⟨hp.push o, g, d, tk, os⟩ → wpAny (model prog w) A' (pyIter v) Q E ⟨hp, g, d, tk, os⟩ :=
      fun q => B.iter prog w _ _ ⟨hp, g, d, tk, os⟩ _ h1 q
    wp_walk using q1
    refine wpAny_stack_any fun st => wpAny_pure ?_
    split
    · rename_i c _ _ _ _ _
      cases (c == Value.type "enumerate")
      · wp_walk using q1
        exact ⟨_, rfl, h⟩
      · wp_walk using q1
        exact ⟨_, rfl, h⟩
    · wp_walk using q1
      exact ⟨_, rfl, h⟩
section
variable {prog : Program} {w : World} {A : Around} {E : Value → Shared → Prop} {s : Shared}
theorem call_enum1 {v : Value} {o : Obj} {H : Heap → Prop} {Q : Value → Shared → Prop} (B : Begins v o H) (h1 : H s.heap)
    (h : ∀ h', IsEnum h' (s.heap.objs.size + 1) s.heap.objs.size 0 .none → h'.get? s.heap.objs.size = some o → h'.objs.size = s.heap.objs.size + 2 →
      (∀ b o, s.heap.get? b = some o → h'.get? b = some o) → Q (.ref (s.heap.objs.size + 1)) { s with heap := h' }) :
    wpAny (model prog w) A (call (.type "enumerate") [v]) Q E s := by
  refine callType_new F.called_enumerate (by decide) (F.typeCall_enumerate_1 _) (F.newCall_enumerate_1 _) (fun obj => F.args_object_init_2 obj _) F.entry_enumerate_new
    (meets_enum1 B) ⟨h1, ?_⟩
  have hz : (s.heap.push o).objs.size = s.heap.objs.size + 1 := Heap.size_push ..
  show _ ∧ _
  rw [hz]
  have he : IsEnum ((s.heap.push o).push { cls := .type "enumerate", data := .fields #[.none, .bool false, .ref s.heap.objs.size, rawInt 0, .none, .none] }) (s.heap.objs.size + 1) s.heap.objs.size 0 .none := by
    have := Heap.get?_push_size (s.heap.push o) (o := { cls := .type "enumerate", data := .fields #[.none, .bool false, .ref s.heap.objs.size, rawInt 0, .none, .none] }) rfl
    rw [hz] at this; exact this
  refine ⟨⟨_, he, rfl⟩, h _ he (Heap.get?_push_of_some _ (Heap.get?_push_size _ B.free)) (by rw [Heap.size_push, hz]) fun b o x => Heap.get?_push_of_some _ (Heap.get?_push_of_some _ x)⟩
end
def iEX (K : PySem.W.Frag) (ta : TA) : TI := fun σ H R => ta σ H fun vs H1 => ∃ k a xs, vs = [.ref a] ∧ SqX K k H1 a xs ∧ R (Je K k a xs) H1
theorem pi_eX {X : Cx} {e : Expr} {ta : TA} {p pos tpos : Pos} {elts : List Expr} {kk : Nat} (hg : Gl X "enumerate") (hm : X.mg "enumerate" = none) (ha : PA X [e] ta) (hs : starEach [e] X.env = [(false, eval e X.env)] := by rfl) :
    PI X (.Tuple elts kk tpos) (.Call (.Name "enumerate" p) [e] [] pos) (iEX X.K ta) := by
  refine ⟨fun pins s σ H R I h => ?_⟩
  refine PyProof.Rows.Call_ (ld_blt I hg hm PyProof.Rows.boot_enumerate (PyProof.Rows.callWith_type1 (thn (ha.run pos pins s σ H _ I h) fun us s1 ⟨vs, H1, I1, r1, q1⟩ => ?_) hs rfl))
  obtain ⟨k, a, xs, ex, hq, q⟩ := q1
  subst ex
  cases r1 with
  | cons r rr =>
    cases rr
    cases r
    obtain ⟨its, rv, p⟩ := inv_X I1 hq
    obtain ⟨o1, B1, t1⟩ := beginsX (k := k) a its.toArray
    have la : a < s1.heap.objs.size := by obtain ⟨_, e⟩ := p.some; exact Heap.lt_size e
    refine call_enum1 B1 p fun h' he hit hsz hk => wpAny_pyIter_enum he ?_
    have I2 : Inv X pins σ H1 { s1 with heap := h' } := I1.kept (t' := s1.toks) hk
    refine ⟨s1.heap.objs.size + 1, [s1.heap.objs.size + 1, s1.heap.objs.size], _, _, H1, rfl, I2, turn_eX (k := k) (xs := xs) (a := a) (e := s1.heap.objs.size + 1) (it := s1.heap.objs.size) (Nat.ne_of_lt la) (Nat.succ_ne_self _) (Nat.ne_of_gt (Nat.lt_succ_of_lt la)), ⟨Nat.zero_le _, ⟨.none, he⟩, t1 _ _ hit⟩, fun b hb => ?_, q⟩
    have hle : s1.heap.objs.size ≤ b := ge2 (by simpa using hb)
    exact I1.fpOk hle (I1.hok.fresh hle)

def Res.vals : Res → Option (List PV)
  | .val (.lst xs) => some xs
  | .val (.tup xs) => some xs
  | .val (.scr ns) => some (ns.map .int)
  | .bor 0 xs => some xs
  | .new _ xs => some xs
  | _ => none
section
variable {K : PySem.W.Frag} {mg : MG} {B : Bx} {F F1 G H H1 : Hp}
theorem sq_of {r : Res} {v : V} {xs : List PV} (e : r.vals = some xs) (rr : RepRes K mg B F1 H H1 r v) (ra : RepArg K mg G H1 (argR r) v) (s : Same F1 G) :
    ∃ k a vs, v = .ref a ∧ AllR (Rep K mg G) xs vs ∧ ∀ F' H', Same G F' → Same F' H' → Same B.H0 H' → SqX K k H' a vs := by
  have lstC : ∀ {ys : List PV}, Rep K mg G (.lst ys) v → ∃ k a vs, v = .ref a ∧ AllR (Rep K mg G) ys vs ∧ ∀ F' H', Same G F' → Same F' H' → Same B.H0 H' → SqX K k H' a vs := fun {ys} h => by
    simp only [Rep] at h
    obtain ⟨a, vs, rfl, h1, h2⟩ := h
    exact ⟨false, a, vs, rfl, repL_iff.mp h2, fun F' H' g1 g2 _ => SqL.of (g2 _ _ (g1 _ _ h1))⟩
  cases r with
  | val p =>
    cases p with
    | lst ys => cases e; exact lstC ra
    | tup ys =>
      cases e
      have h : Rep K mg G (.tup xs) v := ra
      simp only [Rep] at h
      obtain ⟨a, vs, rfl, h1, h2⟩ := h
      exact ⟨true, a, vs, rfl, repL_iff.mp h2, fun F' H' g1 g2 _ => same_tup (g1.trans g2) h1⟩
    | scr ns =>
      cases e
      have h : Rep K mg G (.scr ns) v := ra
      simp only [Rep] at h
      obtain ⟨a, rfl, h1⟩ := h
      exact ⟨false, a, _, rfl, allR_ints ns, fun F' H' g1 g2 _ => (g1.trans g2).seq h1⟩
    | non => cases e
    | bl b => cases e
    | int i => cases e
    | str x => cases e
    | ins c fs => cases e
  | bor n ys =>
    cases n with
    | zero =>
      cases e
      obtain ⟨a, vs, rfl, h1, h2⟩ := rr
      exact ⟨false, a, vs, rfl, h2.imp fun _ _ h => Rep.mono s h, fun F' H' _ _ g3 => SqL.of (g3 _ _ h1)⟩
    | succ n => cases e
  | lend n ys => cases e
  | new n ys => cases e; exact lstC ra
end
section
variable {X : Cx} {B : Bx} {W : WX} {tg iter : Expr} {f g : VE} {ga : VA} {pos : Pos}
theorem want_walkA {K : PySem.W.Frag} {mg : MG} {k : List Res → R (List Res)} {σ : L2.St} {H : Hp} {Rr : It → Hp → Prop} {T : List V → Hp → Prop} (h : tVI K mg B W (fun ρ => ga ρ >>= k) σ H Rr)
    (step : ∀ F F1 H1 ρ rs vs, SR K mg B F ρ σ H → Ext F H F1 H1 → AllR (RepRes K mg B F1 H H1) rs vs → (match k rs with
      | .ok items => ∀ J F' H', Ext F H F' H' → Walks K mg B J items F' → Rr J H'
      | .exc x => ∀ c d F' H', Ext F H F' H' → RepX K mg F' H' x c d → W c d σ H'
      | .bad => False) → T vs H1) : tVA K mg B W ga σ H T := by
  obtain ⟨F, ρ, S, w⟩ := h
  refine ⟨F, ρ, S, ?_⟩
  cases q : ga ρ with
  | ok r => simp only [q] at w; intro v F1 H1 x rr; exact step F F1 H1 ρ r v S x rr w
  | exc y => simp only [q] at w; exact w
  | bad => simp only [q] at w; exact w
def zipI (xs ys : List PV) : List Res := List.zipWith (fun x y => .val (.tup [x, y])) xs ys
def enuI (k : Nat) : List PV → List Res
  | [] => []
  | x :: xs => .val (.tup [.int (k : Nat), x]) :: enuI (k + 1) xs
def kZip : List Res → R (List Res) := fun rs => match rs with
  | [r, s] => (match r.vals, s.vals with
    | some xs, some ys => .ok (zipI xs ys)
    | _, _ => .bad)
  | _ => .bad
def kEnu : List Res → R (List Res) := fun rs => match rs with
  | [r] => (match r.vals with
    | some xs => .ok (enuI 0 xs)
    | _ => .bad)
  | _ => .bad
def walkZ (ga : VA) : VA := fun ρ => ga ρ >>= kZip
def walkE (ga : VA) : VA := fun ρ => ga ρ >>= kEnu
theorem enuI_length : ∀ (k : Nat) (xs : List PV), (enuI k xs).length = xs.length
  | _, [] => rfl
  | k, _ :: xs => by simp only [enuI, List.length_cons, enuI_length (k + 1) xs]
theorem enuI_get : ∀ (k i : Nat) (xs : List PV), (enuI k xs)[i]? = (xs[i]?).map fun x => .val (.tup [.int ((k + i : Nat) : Int), x])
  | _, _, [] => by simp [enuI]
  | k, 0, _ :: xs => by simp [enuI]
  | k, i + 1, _ :: xs => by
    simp only [enuI, List.getElem?_cons_succ]
    rw [enuI_get (k + 1) i xs]
    congr 1
    funext x
    rw [show k + 1 + i = k + (i + 1) by omega]
theorem pair_rep {K : PySem.W.Frag} {mg : MG} {F' H' : Hp} {T : Addr} {p q : PV} {x y : V} (hs : Same F' H') (hT : H' T = none) (h1 : Rep K mg F' p x) (h2 : Rep K mg F' q y) :
    RepRes K mg B (upd F' T (.tup [x, y])) H' (upd H' T (.tup [x, y])) (.val (.tup [p, q])) (.ref T) := by
  have e := upd_same_of (o := .tup [x, y]) (hs.free hT)
  simp only [RepRes, Rep]
  exact ⟨T, [x, y], rfl, SqT.of upd_same, by simp only [RepL]; exact ⟨x, [y], rfl, h1.mono e, y, [], rfl, h2.mono e, rfl⟩⟩
theorem i_zip {a b : Expr} {p tpos : Pos} {elts : List Expr} {kk : Nat} (hg : Gl X "zip") (hm : X.mg "zip" = none) (h : AV X B W [a, b] ga)
    (hs : starEach [a, b] X.env = (false, eval a X.env) :: starEach [b] X.env := by rfl) (hpl : (backTo pos (starEach [b] X.env)).any (·.1) = false := by rfl) : IV X B W (.Tuple elts kk tpos) (.Call (.Name "zip" p) [a, b] [] pos) (walkZ ga) := by
  refine ⟨pi_imp (pi_zX hg hm h.run hs hpl) fun σ H Rr hw => want_walkA (k := kZip) hw fun F F1 H1 ρ rs vs S x ar w => ?_⟩
  obtain ⟨L, l1, l2⟩ := fz_args x (S.ext.h.trans x.h) ar
  obtain ⟨G, xg, g1, g2⟩ := fz_do x l1
  have a1 := l2 G g1 g2
  unfold kZip at w
  split at w
  case h_2 q => split at q
                · split at q <;> cases q
                · cases q
  case h_3 => exact w.elim
  rename_i items q
  split at q
  case h_2 => cases q
  rename_i r s
  split at q
  case h_2 => cases q
  rename_i xs ys e1 e2
  cases q
  obtain ⟨v, vr, rfl, rr1, v', vr', rfl, rr2, e3⟩ := ar
  have e3 : vr' = [] := e3
  subst e3
  obtain ⟨u, ur, eu, ra1, u', ur', eu', ra2, e4⟩ := a1
  cases eu; cases eu'
  obtain ⟨k1, a1, vs1, rfl, al1, l1⟩ := sq_of e1 rr1 ra1 g1
  obtain ⟨k2, a2, vs2, rfl, al2, l2⟩ := sq_of e2 rr2 ra2 g1
  have hs0 := S.ext.h.trans x.h
  refine ⟨k1, k2, a1, a2, vs1, vs2, rfl, l1 G H1 (.refl _) xg.s hs0, l2 G H1 (.refl _) xg.s hs0, w _ G H1 xg fun i F' H' s1 s2 s3 => ?_⟩
  have hl : (zipI xs ys).length = min vs1.length vs2.length := by unfold zipI; rw [List.length_zipWith, al1.length, al2.length]
  rw [hl]
  refine ⟨fun hi => ⟨⟨hi, l1 F' H' s1 s2 s3, l2 F' H' s1 s2 s3⟩, fun v H3 ⟨T, x, y, ev, hT, eH, hx, hy⟩ => ?_⟩, fun hi => ⟨hi, l1 F' H' s1 s2 s3, l2 F' H' s1 s2 s3⟩⟩
  subst ev eH
  obtain ⟨p1, f1, f2⟩ := al1.get' hx
  obtain ⟨p2, f3, f4⟩ := al2.get' hy
  refine ⟨_, .val (.tup [p1, p2]), Ext.add s2 hT, ?_, pair_rep s2 hT (f2.mono s1) (f4.mono s1)⟩
  unfold zipI
  rw [List.getElem?_zipWith, f1, f3]
theorem i_enum {a : Expr} {p tpos : Pos} {elts : List Expr} {kk : Nat} (hg : Gl X "enumerate") (hm : X.mg "enumerate" = none) (h : AV X B W [a] ga) (hs : starEach [a] X.env = [(false, eval a X.env)] := by rfl) :
    IV X B W (.Tuple elts kk tpos) (.Call (.Name "enumerate" p) [a] [] pos) (walkE ga) := by
  refine ⟨pi_imp (pi_eX hg hm h.run hs) fun σ H Rr hw => want_walkA (k := kEnu) hw fun F F1 H1 ρ rs vs S x ar w => ?_⟩
  obtain ⟨L, l1, l2⟩ := fz_args x (S.ext.h.trans x.h) ar
  obtain ⟨G, xg, g1, g2⟩ := fz_do x l1
  have a1 := l2 G g1 g2
  unfold kEnu at w
  split at w
  case h_2 q => split at q
                · split at q <;> cases q
                · cases q
  case h_3 => exact w.elim
  rename_i items q
  split at q
  case h_2 => cases q
  rename_i r
  split at q
  case h_2 => cases q
  rename_i xs e1
  cases q
  obtain ⟨v, vr, rfl, rr1, e3⟩ := ar
  have e3 : vr = [] := e3
  subst e3
  obtain ⟨u, ur, eu, ra1, e4⟩ := a1
  cases eu
  obtain ⟨k1, a1, vs1, rfl, al1, l1⟩ := sq_of e1 rr1 ra1 g1
  have hs0 := S.ext.h.trans x.h
  refine ⟨k1, a1, vs1, rfl, l1 G H1 (.refl _) xg.s hs0, w _ G H1 xg fun i F' H' s1 s2 s3 => ?_⟩
  rw [enuI_length, ← al1.length]
  refine ⟨fun hi => ⟨⟨hi, l1 F' H' s1 s2 s3⟩, fun v H3 ⟨T, x, ev, hT, eH, hx⟩ => ?_⟩, fun hi => ⟨hi, l1 F' H' s1 s2 s3⟩⟩
  subst ev eH
  obtain ⟨p1, f1, f2⟩ := al1.get' hx
  refine ⟨_, .val (.tup [.int (i : Nat), p1]), Ext.add s2 hT, ?_, pair_rep s2 hT rep_int (f2.mono s1)⟩
  rw [enuI_get, f1, Nat.zero_add]; rfl
def kRev : Res → R (List Res) := fun r => match r.vals with
  | some xs => .ok (xs.reverse.map .val)
  | none => .bad
def walkV (f : VE) : VA := fun ρ => f ρ >>= kRev
theorem i_rev {a : Expr} {p : Pos} (hg : Gl X "reversed") (hm : X.mg "reversed" = none) (h : EV X B W a f) (hs : starEach [a] X.env = (false, eval a X.env) :: starEach [] X.env := by rfl) : IV X B W tg (.Call (.Name "reversed" p) [a] [] pos) (walkV f) := by
  refine ⟨pi_imp (RT.pi_revA hg hm h.run hs) fun σ H Rr hw => want_walk (k := fun _ => kRev) hw fun F F1 H1 ρ r v S x rr w => ?_⟩
  obtain ⟨L, l1, l2⟩ := fz_args (rs := [r]) (vs := [v]) x (S.ext.h.trans x.h) ⟨v, [], rfl, rr, rfl⟩
  obtain ⟨G, xg, g1, g2⟩ := fz_do x l1
  obtain ⟨u, ur, eu, ra1, e4⟩ := l2 G g1 g2
  cases eu
  unfold kRev at w
  cases e1 : r.vals with
  | none => rw [e1] at w; exact w.elim
  | some xs =>
    rw [e1] at w
    obtain ⟨k1, a1, vs1, rfl, al1, l1⟩ := sq_of e1 rr ra1 g1
    have hs0 := S.ext.h.trans x.h
    have hx : ∀ (i : Nat), i < xs.length → ∀ v, vs1[vs1.length - 1 - i]? = some v → ∃ r, (xs.reverse.map Res.val)[i]? = some r ∧ ∀ F' H', Same G F' → RepRes X.K X.mg B F' H' H' r v := fun i hi v e => by
      obtain ⟨p1, f1, f2⟩ := al1.get' e
      refine ⟨.val p1, ?_, fun F' H' s => Rep.mono s f2⟩
      rw [List.getElem?_map, List.getElem?_reverse hi, ← al1.length, f1]; rfl
    have hl : (xs.reverse.map Res.val).length = vs1.length := by rw [List.length_map, List.length_reverse, al1.length]
    refine ⟨a1, vs1, rfl, ?_⟩
    cases k1 with
    | false =>
      refine .inl ⟨l1 G H1 (.refl _) xg.s hs0, w _ G H1 xg fun i F' H' s1 s2 s3 => ?_⟩
      rw [hl]
      refine ⟨fun hi => ⟨⟨hi, vs1, vs1[vs1.length - 1 - i]'(by omega), l1 F' H' s1 s2 s3, List.getElem?_eq_getElem _⟩, fun v H3 ⟨e1, e2⟩ => ?_⟩, fun hi => hi⟩
      subst e1
      obtain ⟨r, f1, f2⟩ := hx i (by rw [← al1.length]; exact hi) v (e2 vs1 (l1 F' H3 s1 s2 s3))
      exact ⟨F', r, .refl s2, f1, f2 F' H3 s1⟩
    | true =>
      refine .inr ⟨l1 G H1 (.refl _) xg.s hs0, w _ G H1 xg fun i F' H' s1 s2 s3 => ?_⟩
      rw [hl]
      refine ⟨fun hi => ⟨⟨hi, vs1, vs1[vs1.length - 1 - i]'(by omega), l1 F' H' s1 s2 s3, List.getElem?_eq_getElem _⟩, fun v H3 ⟨e1, e2⟩ => ?_⟩, fun hi => hi⟩
      subst e1
      obtain ⟨r, f1, f2⟩ := hx i (by rw [← al1.length]; exact hi) v (e2 vs1 (l1 F' H3 s1 s2 s3))
      exact ⟨F', r, .refl s2, f1, f2 F' H3 s1⟩
def tupRevV (f : VE) : VE := fun ρ => f ρ >>= fun r => match r with
  | .val (.lst xs) => .ok (.val (.tup xs.reverse))
  | .bor 0 xs => .ok (.val (.tup xs.reverse))
  | .lend 0 xs => .ok (.val (.tup xs.reverse))
  | _ => .bad
theorem e_tupRev {e : Expr} {p p2 pos pos2 : Pos} (hc : X.calm = true) (hg : Gl X "tuple") (hm : X.mg "tuple" = none) (hg2 : Gl X "reversed") (hm2 : X.mg "reversed" = none) (he : EV X B W e f)
    (hs : starEach [e] X.env = (false, eval e X.env) :: starEach [] X.env := by rfl)
    (hs2 : starEach [.Call (.Name "reversed" p2) [e] [] pos2] X.env = (false, eval (.Call (.Name "reversed" p2) [e] [] pos2) X.env) :: starEach [] X.env := by rfl) :
    EV X B W (.Call (.Name "tuple" p) [.Call (.Name "reversed" p2) [e] [] pos2] [] pos) (tupRevV f) := by
  refine .of (RT.pe_tupRev hc hg hm hg2 hm2 he.run hs hs2) fun σ H Q h => want1 (k := fun _ r => match r with
    | .val (.lst xs) => .ok (.val (.tup xs.reverse))
    | .bor 0 xs => .ok (.val (.tup xs.reverse))
    | .lend 0 xs => .ok (.val (.tup xs.reverse))
    | _ => .bad) h fun F F1 H1 ρ r v S x rr w => ?_
  have fin : ∀ {xs : List PV} {vs : List V}, AllR (Rep X.K X.mg F1) xs vs → WantE X.K X.mg B W F H σ Q (.ok (.val (.tup xs.reverse))) → ∀ q, H1 q = none → Q (.ref q) (upd H1 q (.tup vs.reverse)) := fun {xs vs} al w q hq => by
    refine w (.ref q) (upd F1 q (.tup vs.reverse)) _ (x.trans (Ext.add x.s hq)) ?_
    simp only [RepRes, Rep]
    exact ⟨q, vs.reverse, rfl, SqT.of upd_same, repL_iff.mpr (al.reverse.imp fun _ _ h => Rep.mono (upd_same_of (x.s.free hq)) h)⟩
  split at w
  · simp only [RepRes, Rep] at rr
    obtain ⟨a, vs, rfl, h1, h2⟩ := rr
    exact ⟨a, vs, rfl, SqL.of (x.s _ _ h1), fin (repL_iff.mp h2) w⟩
  · obtain ⟨a, vs, rfl, h1, h2⟩ := rr
    exact ⟨a, vs, rfl, SqL.of ((S.ext.h.trans x.h) _ _ h1), fin h2 w⟩
  · obtain ⟨a, vs, rfl, h1, h2⟩ := rr
    exact ⟨a, vs, rfl, SqL.of h1, fin h2 w⟩
  · exact w.elim
end
end
end Pv
namespace Pv
open PySem PySem.Spec L2
noncomputable section

def frE (j : Nat) (ρ : Env) : Env := match ρ[j]? with
  | some (.own _ xs) => ρ.set j (.val (.lst xs))
  | some (.bor 0 xs) => ρ
  | _ => ρ
section
variable {X : Cx} {B : Bx} {W : WX} {e : Expr} {f g : VS} {i j : Nat} {x y : Str} {pos p : Pos} {st : Stmt} {sts : List Stmt}
theorem SR.frz {K : PySem.W.Frag} {mg : MG} {F H : Hp} {ρ : Env} {σ : L2.St} (S : SR K mg B F ρ σ H) (j : Nat) : ∃ G, Same F G ∧ SR K mg B G (frE j ρ) σ H := by
  unfold frE
  split
  case h_2 => exact ⟨F, .refl _, S⟩
  case h_3 => exact ⟨F, .refl _, S⟩
  rename_i n xs q
  obtain ⟨fp, h1, h2, h3, h4⟩ := S.slots
  obtain ⟨v, e1, r⟩ := h1 j _ q
  have hF : ∀ a ∈ fp j, F a = none := fun a ha => (h4 j a ha).1
  refine ⟨Pv.frz F H (fp j), frz_same hF, S.ext.frz fun a ha => ⟨(h4 j a ha).1, (h4 j a ha).2.1⟩, by rw [List.length_set]; exact S.len, swp j [] fp, fun k s e => ?_, fun k => ?_, fun k l a ha hk => ?_, fun k a ha => ?_⟩
  · by_cases hk : k = j
    · subst hk
      rw [List.getElem?_set_self ((List.getElem?_eq_some_iff.mp q).1)] at e
      cases e
      rw [swp_self]
      exact ⟨rfl, v, e1, r.frozen (frz_same hF) fun a ha o ho => by rw [frz_in ha]; exact ho⟩
    · rw [List.getElem?_set_ne (Ne.symm hk)] at e
      rw [swp_ne hk]
      exact (h1 k s e).mono (frz_same hF) (.refl _)
  · by_cases hk : k = j
    · rw [hk, swp_self]; exact List.nodup_nil
    · rw [swp_ne hk]; exact h2 k
  · by_cases h : k = j
    · rw [h, swp_self] at ha; cases ha
    · by_cases h' : l = j
      · rw [h', swp_self] at hk; cases hk
      · rw [swp_ne h] at ha; rw [swp_ne h'] at hk; exact h3 k l a ha hk
  · by_cases h : k = j
    · rw [h, swp_self] at ha; cases ha
    · rw [swp_ne h] at ha
      obtain ⟨a1, a2, a3⟩ := h4 k a ha
      refine ⟨?_, a2, a3⟩
      rw [frz_out fun z => h (h3 k j a ha z)]; exact a1
theorem SV.fz (h : SV X B W st f) (j : Nat) : SV X B W st (fun ρ => f (frE j ρ)) := by
  refine ⟨ps_imp h.run fun D σ H ⟨F, ρ, S, w⟩ => ?_⟩
  obtain ⟨G, s, S2⟩ := S.frz j
  exact ⟨G, _, S2, w.mono s⟩
theorem BV.fz (h : BV X B W sts f) (j : Nat) : BV X B W sts (fun ρ => f (frE j ρ)) := by
  refine ⟨pss_imp h.run fun D σ H ⟨F, ρ, S, w⟩ => ?_⟩
  obtain ⟨G, s, S2⟩ := S.frz j
  exact ⟨G, _, S2, w.mono s⟩
def mvS (i j : Nat) : VS := fun ρ => match ρ[j]? with
  | some (.own n xs) => .next ((ρ.set j .unset).set i (.own n xs))
  | _ => .bad
theorem s_mv (hij : i ≠ j) (hN : X.N.Nodup) (hi : X.N[i]? = some x) (hx : Loc X.env.scope x) (hy : PE X (.Name y p) (tVar j)) {p' : Pos} (hs : swapsWith (.Name y p) (some (.Name x p')) pos.line X.env = pure false := by rfl) (hf : X.fn x = true ∨ X.env.scope.names.lookup x = some .local := by first | exact .inl rfl | exact .inr rfl | assumption) :
    SV X B W (.Assign [.Name x p'] (.Name y p) pos) (mvS i j) := by
  refine ⟨ps_imp (ps_set hN hi hx hy hs hf) fun D σ H ⟨F, ρ, S, w⟩ => ?_⟩
  unfold mvS at w
  split at w
  case h_2 => exact w.elim
  rename_i n xs q
  obtain ⟨fp, h1, h2, h3, h4⟩ := S.slots
  obtain ⟨v, e1, r⟩ := h1 j _ q
  refine ⟨v, e1, ?_⟩
  have hj := (List.getElem?_eq_some_iff.mp q).1
  refine w F _ H (.refl _) (SR.core (fp := swp j [] fp) S.ext (by rw [List.length_set]; exact S.len) (fun k s e => ?_) (fun k => ?_) (fun k l a ha hk => ?_) (fun k a ha => ?_) i (L := fp j) ⟨v, rfl, r⟩ (h2 j) (fun a ha => h4 j a ha) fun k a hk ha hb => ?_)
  · by_cases hk : k = j
    · subst hk
      rw [List.getElem?_set_self hj] at e
      cases e
      rw [swp_self]; rfl
    · rw [List.getElem?_set_ne (Ne.symm hk)] at e
      rw [swp_ne hk]
      exact h1 k s e
  · by_cases hk : k = j
    · rw [hk, swp_self]; exact List.nodup_nil
    · rw [swp_ne hk]; exact h2 k
  · by_cases h : k = j
    · rw [h, swp_self] at ha; cases ha
    · by_cases h' : l = j
      · rw [h', swp_self] at hk; cases hk
      · rw [swp_ne h] at ha; rw [swp_ne h'] at hk; exact h3 k l a ha hk
  · by_cases h : k = j
    · rw [h, swp_self] at ha; cases ha
    · rw [swp_ne h] at ha; exact h4 k a ha
  · by_cases h : k = j
    · rw [h, swp_self] at hb; cases hb
    · rw [swp_ne h] at hb; exact h (h3 k j a hb ha)
def raiseS (c : Str) : VS := fun ρ => .exc ⟨c, []⟩ ρ
theorem s_raise {c : Str} {C : Addr} (hc : X.calm = true) (tk : Takes X W) (he : PMk X e (fun _ H Q => Q (.ref C) none H)) (hm : X.mg c = some (.ref C)) : SV X B W (.Raise (some e) none pos) (raiseS c) :=
  ⟨ps_imp (ps_raise hc tk he) fun D σ H ⟨F, ρ, S, w⟩ => w (.ref C) none F σ H (.refl _) S ⟨C, hm, rfl, .inl ⟨rfl, rfl⟩⟩⟩
theorem s_bad {t : TS} (h : PS X st t) : SV X B W st (fun _ => .bad) := ⟨ps_imp h fun D σ H ⟨F, ρ, S, w⟩ => w.elim⟩
theorem s_never : SV X B W st (fun _ => .bad) := ⟨⟨fun pins s σ H Q I ⟨F, ρ, S, w⟩ => w.elim⟩⟩
theorem b_never : BV X B W sts (fun _ => .bad) := ⟨⟨fun pins s σ H Q I ⟨F, ρ, S, w⟩ => w.elim⟩⟩
def noExc (ρ : Env) : Bool := ρ.all fun s => match s with | .exc _ => false | _ => true
def dropN (i : Nat) : Fl → Fl
  | .next ρ => if noExc (ρ.set i .unset) = true then .next (ρ.set i .unset) else .bad
  | .brk ρ => if noExc (ρ.set i .unset) = true then .brk (ρ.set i .unset) else .bad
  | .cont ρ => if noExc (ρ.set i .unset) = true then .cont (ρ.set i .unset) else .bad
  | .ret r => .ret r
  | _ => .bad
def tryS (i : Nat) (mt : Str → Option Bool) (f fs : VS) : VS := fun ρ => match f ρ with
  | .exc x ρ1 => (match mt x.c with
    | some true => if noExc ρ1 = true then dropN i (fs (ρ1.set i (.exc x))) else .bad
    | some false => .exc x ρ1
    | none => .bad)
  | e => e
theorem SlotR.at {K : PySem.W.Frag} {mg : MG} {B B' : Bx} {F H : Hp} {s : Slot} {o : Option (Option V)} {L : List Addr} (h0 : B'.H0 = B.H0) (hf : B'.sf = B.sf) (hs : ∀ x, s ≠ .exc x) (h : SlotR K mg B F H s o L) : SlotR K mg B' F H s o L := by
  cases s with
  | unset => exact h
  | val p => exact h
  | bor n xs => obtain ⟨e, v, e1, e2⟩ := h; exact ⟨e, v, e1, by rw [h0]; exact e2⟩
  | own n xs => exact h
  | obj c fs => obtain ⟨a, C, dx, vs, o1, o2, o3, r⟩ := h; exact ⟨a, C, dx, vs, o1, o2, by rw [hf]; exact o3, r⟩
  | exc x => exact absurd rfl (hs x)
theorem noExc_get {ρ : Env} (h : noExc ρ = true) {k : Nat} {s : Slot} (e : ρ[k]? = some s) : ∀ x, s ≠ .exc x := fun x z => by
  subst z
  have := List.all_eq_true.mp h _ (List.mem_of_getElem? e)
  cases this
def Bx.xat (B : Bx) (t : Addr × Value × Option Addr) : Bx := { B with xa := some t }
theorem try_as {n : Str} {cv : Value} {body suite : List Stmt} {b₀ : Stmt} {np pos' : Pos} {mt : Str → Option Bool} {fs : VS} (hs : X.stack = X.env :: X.outer) (hf : X.env.frame = some X.env.locals) (hN : X.N.Nodup) (hi : X.N[i]? = some n) (hln : X.env.kindOf n = some .local) (hc : Names X x cv) (tk : Takes X W)
    (hmt : ∀ c C b, mt c = some b → X.mg c = some (.ref C) → PySem.W.exmOne X.K (.ref C) cv = some b)
    (hb : ∀ (W : WX) (pn : List (Addr × Obj)) (xe : Value → Shared → Prop), Takes (X.tr pn xe) W → PassesOwn (model X.prog X.w) X.A X.env xe → BV (X.tr pn xe) B W body f)
    (hsu : ∀ (a : Addr) (oe : Obj) (cls : Value) (d : Option Addr) (pn : List (Addr × Obj)), Zc cls d oe → (∃ vs, oe.data = .fields vs) → BV (X.suite a ((a, oe) :: pn)) (B.xat (a, cls, d)) (fun _ _ _ _ => False) (b₀ :: suite) fs) :
    SV X B W (.Try body [.ExceptHandler (some (.Name x np)) (some n) (b₀ :: suite) pos'] [] [] pos) (tryS i mt f fs) := by
  refine ⟨ps_imp (ps_try_as (tb := fun W' => tVS X.K X.mg B W' f) (ts := fun a cls d => tVS X.K X.mg (B.xat (a, cls, d)) (fun _ _ _ _ => False) fs) hs hf hN hi hln hc tk (fun W' pn xe t p => (hb W' pn xe t p).run) fun a oe cls d pn z q => (hsu a oe cls d pn z q).run) fun D σ H ⟨F, ρ, S, w⟩ => ⟨F, ρ, S, ?_⟩⟩
  unfold tryS at w
  cases q : f ρ with
  | next ρ1 => rw [q] at w; exact w
  | ret r => rw [q] at w; exact w
  | brk ρ1 => rw [q] at w; exact w
  | cont ρ1 => rw [q] at w; exact w
  | bad => rw [q] at w; exact w
  | exc y ρ1 =>
    rw [q] at w
    simp only at w
    intro c d F1 σ1 H1 s1 S1 rx
    obtain ⟨C, m1, m2, m3⟩ := rx
    subst m2
    split at w
    case h_3 => exact w.elim
    · rename_i hm
      split at w
      case isFalse => exact w.elim
      rename_i hn
      refine ⟨true, hmt _ _ _ hm m1, fun _ a ha => ?_, fun z => by cases z⟩
      obtain ⟨fp, h1, h2, h3, h4⟩ := S1.slots
      have S2 : SR X.K X.mg (B.xat (a, .ref C, d)) F1 (ρ1.set i (.exc y)) (σ1.set i (some (.ref a))) H1 := by
        by_cases hi : i < σ1.length
        case neg =>
          rw [List.set_eq_of_length_le (by rw [S1.len]; omega), List.set_eq_of_length_le (by omega)]
          exact ⟨S1.ext, S1.len, fp, fun k s e => SlotR.at (B := B) (B' := B.xat (a, .ref C, d)) rfl rfl (noExc_get hn e) (h1 k s e), h2, h3, h4⟩
        exact SR.core (B := B.xat (a, .ref C, d)) S1.ext S1.len (fun k s e => SlotR.at (B := B) (B' := B.xat (a, .ref C, d)) rfl rfl (noExc_get hn e) (h1 k s e)) h2 h3 h4 i (L := []) ⟨rfl, a, .ref C, d, rfl, rfl, C, m1, rfl, m3⟩ List.nodup_nil (by simp) (by simp)
      refine ⟨F1, _, S2, ?_⟩
      have back : ∀ {F2 : Hp} {ρ2 : Env} {σ2 : L2.St} {H2 : Hp}, SR X.K X.mg (B.xat (a, .ref C, d)) F2 ρ2 σ2 H2 → noExc (ρ2.set i .unset) = true → SR X.K X.mg B F2 (ρ2.set i .unset) (σ2.set i none) H2 := fun {F2 ρ2 σ2 H2} S3 hn3 => by
        have S4 := S3.putNew (.refl S3.ext.s) i (s := .unset) (o := none) (L := []) rfl List.nodup_nil (by simp)
        obtain ⟨fp, h1, h2, h3, h4⟩ := S4.slots
        exact ⟨S4.ext, S4.len, fp, fun k s e => SlotR.at (B := B.xat (a, .ref C, d)) (B' := B) rfl rfl (noExc_get hn3 e) (h1 k s e), h2, h3, h4⟩
      cases q2 : fs (ρ1.set i (.exc y)) with
      | next ρ2 =>
        rw [q2] at w
        unfold dropN at w
        simp only at w
        split at w
        case isFalse => exact w.elim
        rename_i hn3
        exact fun F2 σ2 H2 s2 S3 => w F2 _ H2 (s1.trans s2) (back S3 hn3)
      | brk ρ2 =>
        rw [q2] at w
        unfold dropN at w
        simp only at w
        split at w
        case isFalse => exact w.elim
        rename_i hn3
        exact fun F2 σ2 H2 s2 S3 => w F2 _ H2 (s1.trans s2) (back S3 hn3)
      | cont ρ2 =>
        rw [q2] at w
        unfold dropN at w
        simp only at w
        split at w
        case isFalse => exact w.elim
        rename_i hn3
        exact fun F2 σ2 H2 s2 S3 => w F2 _ H2 (s1.trans s2) (back S3 hn3)
      | ret r => rw [q2] at w; exact w
      | exc x ρ2 => rw [q2] at w; exact w.elim
      | bad => rw [q2] at w; exact w.elim
    · rename_i hm
      exact ⟨false, hmt _ _ _ hm m1, fun z => Bool.noConfusion z, fun _ => w (.ref C) d F1 σ1 H1 s1 S1 ⟨C, m1, rfl, m3⟩⟩
def isE (i : Nat) (tbl : Str → Option Bool) : VE := fun ρ => match ρ[i]? with
  | some (.exc x) => (match x.fs with
    | [] => (match tbl x.c with
      | some b => .ok (.val (.bl b))
      | none => .bad)
    | _ => .bad)
  | _ => .bad
theorem e_isE {a : Addr} {oe : Obj} {cls : Value} {d : Option Addr} {pn : List (Addr × Obj)} {c n : Str} {D : Addr} {tbl : Str → Option Bool} {px pc : Pos} (hz : Zc cls d oe) (hf : ∃ vs, oe.data = .fields vs)
    (hx : PE (X.suite a ((a, oe) :: pn)) (.Name n px) (tVar i)) (hg : Gl (X.suite a ((a, oe) :: pn)) "isinstance") (hm : X.mg "isinstance" = none) (hg2 : Gl (X.suite a ((a, oe) :: pn)) c) (hdb : (c == ("__debug__" : Str)) = false) (hm2 : X.mg c = some (.ref D))
    (ht : ∀ y C b, tbl y = some b → X.mg y = some (.ref C) → ExcC X.K C ∧ PySem.W.kitOne X.K (.ref C) (.ref D) = some b)
    (he : starEach [.Name n px, .Name c pc] (X.suite a ((a, oe) :: pn)).env = (false, eval (.Name n px) (X.suite a ((a, oe) :: pn)).env) :: starEach [.Name c pc] (X.suite a ((a, oe) :: pn)).env := by rfl)
    (he2 : starEach [.Name c pc] (X.suite a ((a, oe) :: pn)).env = (false, eval (.Name c pc) (X.suite a ((a, oe) :: pn)).env) :: starEach [] (X.suite a ((a, oe) :: pn)).env := by rfl)
    (hpl : (backTo pos (starEach [.Name c pc] (X.suite a ((a, oe) :: pn)).env)).any (·.1) = false := by rfl) :
    EV (X.suite a ((a, oe) :: pn)) (B.xat (a, cls, d)) W (.Call (.Name "isinstance" p) [.Name n px, .Name c pc] [] pos) (isE i tbl) := by
  refine ⟨⟨fun pins s σ H Q I h => ?_⟩⟩
  obtain ⟨F, ρ, S, w⟩ := h
  unfold isE at w
  split at w
  case h_2 => exact w.elim
  rename_i x q
  split at w
  case h_2 => exact w.elim
  rename_i hfs
  split at w
  case h_2 => exact w.elim
  rename_i b hb
  obtain ⟨fp, h1, h2, h3, h4⟩ := S.slots
  obtain ⟨_, a', cls', d', e1, e2, C, c1, c2, c3⟩ := h1 i _ q
  have e2 : some (a, cls, d) = some (a', cls', d') := e2
  cases e2
  subst c2
  have hd : d = none := by
    rcases c3 with ⟨_, c3⟩ | ⟨dd, vs, c3, _⟩
    · exact c3
    · exact absurd hfs c3
  subst hd
  obtain ⟨k1, k2⟩ := ht _ _ _ hb c1
  have hpe := pe_callB (X := X.suite a ((a, oe) :: pn)) (p := p) (pos := pos) (call_isE k1 hz hf) hg hm PyProof.Rows.boot_isinstance (pa_cons hx (pa_cons (pe_glob hg2 hm2 (v := .ref D) rfl hdb) pa_nil he2) he) (by decide) (by decide) he hpl
  refine hpe.run pins s σ H Q I ⟨_, e1, .ref D, .ref D, b, rfl, fun u r => r, k2, w (.bl b) F H (.refl S.ext.s) (by simp only [RepRes, Rep])⟩
end
end
end Pv
namespace Pv
open PySem PySem.Spec L2
noncomputable section

section
variable {P : Program} {w : World} {K : PySem.W.Frag} {mg : Str → Option Value} {base : Heap}
theorem fn_okC {x qual : Str} {params : Arguments} {body : List Stmt} {scope : Scope} {dvs : List V} {kws : List (Str × V)} {f : Addr} {fd : FuncData} {N ps : List Str} {k : Nat} {b : VS}
    (F : FunD K x qual params body scope dvs kws f fd) (S : FnScope N ps scope)
    (hb : ∀ (cdv : Value) (A : Around) (outer : List PySem.Env) (s : Shared) (H : Hp) (E : XK) (B : Bx), Room k (cxOf (L2.CX P w) P w K mg base N qual scope f cdv A outer s H E).A → BV (cxOf (L2.CX P w) P w K mg base N qual scope f cdv A outer s H E) B (fun c d _ H => E c d H) body b) :
    FnOk P w K mg base (L2.CX P w) (k + 1) f fd ps (spV K mg ps.length (runFn N.length b)) := by
  refine F.ok S (fun vs H Q E h => spV_len h) (fun cdv A outer s H vs Q E hr h => ?_)
  obtain ⟨G, args, hl, hs, ha, w0⟩ := h
  have bv := hb cdv A outer s H E ⟨H, G, none, none⟩ hr
  refine ⟨_, bv.run, G, _, start_sr hs ha, ?_⟩
  unfold runFn at w0
  revert w0
  cases b (args.map slotOf ++ List.replicate (N.length - args.length) .unset) with
  | next ρ => exact fun w0 F' σ' H' _ S' => w0 .non F' H' S'.ext (rep_non (K := K) (mg := mg) (F := F'))
  | ret r => exact fun w0 => w0
  | brk ρ => exact fun w0 => w0.elim
  | cont ρ => exact fun w0 => w0.elim
  | exc y ρ => exact fun w0 c d F' σ' H' _ S' rx => w0 c d F' H' S'.ext rx
  | bad => exact fun w0 => w0
theorem init_okC {x qual c : Str} {params : Arguments} {body : List Stmt} {scope : Scope} {dvs : List V} {kws : List (Str × V)} {f : Addr} {fd : FuncData} {N ps : List Str} {k : Nat} {b : VS}
    (F : FunD K x qual params body scope dvs kws f fd) (S : FnScope N ps scope) (hN : ps.length ≤ N.length)
    (hb : ∀ (cdv : Value) (A : Around) (outer : List PySem.Env) (s : Shared) (H : Hp) (E : XK) (B : Bx), Room k (cxOf (L2.CX P w) P w K mg base N qual scope f cdv A outer s H E).A → BV (cxOf (L2.CX P w) P w K mg base N qual scope f cdv A outer s H E) B (fun c d _ H => E c d H) body b) :
    FnOk P w K mg base (L2.CX P w) (k + 1) f fd ps (spI K mg c ps.length (runInit N.length c b)) := by
  refine F.ok S (fun vs H Q E h => ?_) (fun cdv A outer s H vs Q E hr h => ?_)
  · obtain ⟨x, dx, C, rest, H1, F, args, rfl, _, _, _, _, _, hl, _, ha, _⟩ := h
    rw [List.length_cons, ha.length]; exact hl
  obtain ⟨x, dx, C, rest, H1, G, args, rfl, hm, rfl, h1, h2, h3, hl, hs, ha, w0⟩ := h
  have bv := hb cdv A outer s (upd (upd H1 dx (.own x)) x (.ins C dx [])) E ⟨H1, G, none, some (x, C, dx)⟩ hr
  refine ⟨_, bv.run, G, _, init_sr (N := N) hm h1 h2 h3 hs ha (by omega), ?_⟩
  unfold runInit at w0
  cases q0 : b (.obj c [] :: (args.map slotOf ++ List.replicate (N.length - 1 - args.length) .unset)) with
  | next ρ =>
    simp only [q0] at w0
    intro F' σ' H' _ S'
    obtain ⟨fp, s1, s2, s3, s4⟩ := S'.slots
    unfold objOf at w0
    split at w0
    · rename_i c' fs q
      split at w0
      · rename_i hc
        obtain ⟨a, C', dx', vs, o1, o2, o3, o4, o5, o6, o7, o8⟩ := s1 0 _ q
        have o3 : some (x, C, dx) = some (a, C', dx') := o3
        cases o3
        have m1 := s4 0 x (by rw [o2]; simp)
        have m2 := s4 0 dx (by rw [o2]; simp)
        exact w0 F' H' vs S'.ext o6 o7 o8 m1.1 m2.1
      · exact w0.elim
    · exact w0.elim
  | ret r => simp only [q0] at w0; exact w0.elim
  | brk ρ => simp only [q0] at w0; exact w0.elim
  | cont ρ => simp only [q0] at w0; exact w0.elim
  | exc y ρ => simp only [q0] at w0; exact fun c d F' σ' H' _ S' rx => w0 c d F' H' S'.ext rx
  | bad => simp only [q0] at w0; exact w0.elim
structure DefV (P : Program) (w : World) (K : PySem.W.Frag) (mg : MG) (base : Heap) (x : Str) (k : Nat) (ps : List Str) (fn : Fn) (dps : List PV) : Prop where
  ex : ∃ f fd ds dvs, FnOk P w K mg base (L2.CX P w) k f fd ps (spV K mg ps.length fn) ∧ mg x = some (.ref f) ∧ PySem.W.keepIn K (.ref f) = true ∧ Binds K fd ps ds ∧ Vals dvs ds ∧ ∀ F, AllR (Rep K mg F) dps dvs
structure FldV (K : PySem.W.Frag) (mg : MG) (c fl : Str) : Prop where
  ex : ∃ C fs, ClsF K mg c C fs ∧ fl ∈ fs
structure MethV (P : Program) (w : World) (K : PySem.W.Frag) (mg : MG) (base : Heap) (c m : Str) (k : Nat) (ps : List Str) (fn : Fn) (dps : List PV) : Prop where
  ex : ∃ C fs f fd ds dvs, ClsF K mg c C fs ∧ Meth K C m f ∧ FnOk P w K mg base (L2.CX P w) k f fd ps (spV K mg ps.length fn) ∧ Binds K fd ps ds ∧ Vals dvs ds ∧ ∀ F, AllR (Rep K mg F) dps dvs
structure MakeV (P : Program) (w : World) (K : PySem.W.Frag) (mg : MG) (base : Heap) (c : Str) (k : Nat) (ps : List Str) (fn : FnI) (dps : List PV) : Prop where
  ex : ∃ C f fd ds dvs, mg c = some (.ref C) ∧ Mk K C f ∧ FnOk P w K mg base (L2.CX P w) k f fd ps (spI K mg c ps.length fn) ∧ Binds K fd ps ds ∧ Vals dvs ds ∧ ∀ F, AllR (Rep K mg F) dps dvs
structure ExcV (K : PySem.W.Frag) (mg : MG) (x : Str) : Prop where
  ex : ∃ C, mg x = some (.ref C) ∧ PySem.W.excIn K C He.veBase "ValueError.__new__" = true ∧ PySem.W.keepIn K (.ref C) = true ∧ PySem.W.subIn K (.ref C) (.type "BaseException") = some true ∧ PySem.W.typeIn K (.ref C) = some (.type "type")
end
section
variable {X : Cx} {B : Bx} {W : WX} {fn : Fn} {n k k' i : Nat} {ps : List Str} {dps : List PV} {x m c fl : Str} {p pos apos p2 pos' : Pos} {a e o b : Expr} {es : List Expr} {g ga : VA} {fo fe f fa fb : VE} {st : Stmt} {sts : List Stmt}
theorem xv (i : Nat) {x : Str} {pos : Pos} (hN : X.N[i]? = some x := by rfl) (hv : Vis X.env.scope x := by first | exact Or.inl rfl | exact Or.inr (Or.inl rfl) | exact Or.inr (Or.inr rfl)) (hd : (x == ("__debug__" : Str)) = false := by decide)
    (hcd : (x == ("__classdict__" : Str)) = false := by decide) : EV X B W (.Name x pos) (rd i) := e_var (pe_var hN hv hd hcd)
theorem cv (D : DefV X.prog X.w X.K X.mg X.base x k ps fn dps) (tk : Takes X W) (hr : Room k' X.A) (hk : k ≤ k') (ha : AV X B W (a :: es) g) (hn : ∀ ρ rs, g ρ = .ok rs → rs.length + dps.length = ps.length) (hg : Gl X x := by rfl)
    (hdb : (x == ("__debug__" : Str)) = false := by decide) (he : starEach (a :: es) X.env = (false, eval a X.env) :: starEach es X.env := by rfl) (hpl : (backTo pos (starEach es X.env)).any (·.1) = false := by rfl) :
    EV X B W (.Call (.Name x p) (a :: es) [] pos) (callF fn dps g) := by
  refine ⟨⟨fun pins s σ H Q I h => ?_⟩⟩
  obtain ⟨f, fd, ds, dvs, h1, h2, h3, h4, h5, h6⟩ := D.ex
  exact (e_call h1 tk (hr.mono hk) hg h2 h3 h4 h5 h6 ha hn hdb he hpl).run.run pins s σ H Q I h
theorem fv (T : FldV X.K X.mg c fl) (ho : EV X B W o fo) (hb : attributeBase o fl X.env (eval o X.env) = eval o X.env := by rfl) : EV X B W (.Attribute o fl pos) (fldE c fl fo) := by
  refine ⟨⟨fun pins s σ H Q I h => ?_⟩⟩
  obtain ⟨C, fs, h1, h2⟩ := T.ex
  exact (e_fld h1 h2 ho hb).run.run pins s σ H Q I h
theorem mv {pl : Sem Bool} (M : MethV X.prog X.w X.K X.mg X.base c m k ps fn dps) (tk : Takes X W) (hr : Room k' X.A) (hk : k ≤ k') (ho : EV X B W o fo) (ha : AV X B W (e :: es) g) (hn : ∀ ρ rs, g ρ = .ok rs → rs.length + dps.length + 1 = ps.length)
    (hst : starEach (e :: es) X.env = (false, eval e X.env) :: starEach es X.env := by rfl) (hpl : (backTo pos (starEach es X.env)).any (·.1) = false := by rfl)
    (ht : eval (.Call (.Attribute o m apos) (e :: es) [] pos) X.env = (do
      let ov ← eval o X.env
      standAt apos.atName
      let (f, first) ← holding [ov] (getMethod ov m pl)
      callWith pos f first (backTo pos (starEach (e :: es) X.env)) (backToKw pos (keywordEach [] X.env))) := by rfl) :
    EV X B W (.Call (.Attribute o m apos) (e :: es) [] pos) (methF c m fn dps fo g) := by
  refine ⟨⟨fun pins s σ H Q I h => ?_⟩⟩
  obtain ⟨C, fs, f, fd, ds, dvs, h1, h2, h3, h4, h5, h6⟩ := M.ex
  exact (e_meth h1 h2 h3 tk (hr.mono hk) h4 h5 h6 ho ha hn hst hpl ht).run.run pins s σ H Q I h
theorem mk {fn : FnI} (M : MakeV X.prog X.w X.K X.mg X.base x k ps fn dps) (tk : Takes X W) (hr : Room k' X.A) (hk : k + 1 ≤ k') (ha : AV X B W (a :: es) g) (hn : ∀ ρ rs, g ρ = .ok rs → rs.length + dps.length + 1 = ps.length) (hg : Gl X x := by rfl)
    (hdb : (x == ("__debug__" : Str)) = false := by decide) (he : starEach (a :: es) X.env = (false, eval a X.env) :: starEach es X.env := by rfl) (hpl : (backTo pos (starEach es X.env)).any (·.1) = false := by rfl) :
    EV X B W (.Call (.Name x p) (a :: es) [] pos) (makeF x fn dps g) := by
  refine ⟨⟨fun pins s σ H Q I h => ?_⟩⟩
  obtain ⟨C, f, fd, ds, dvs, h1, h2, h3, h4, h5, h6⟩ := M.ex
  exact (e_make h2 h3 tk (hr.mono hk) hg h1 h1 h4 h5 h6 ha hn hdb he hpl).run.run pins s σ H Q I h
theorem sraise {msg : Str} {j : Nat} (E : ExcV X.K X.mg x) (hc : X.calm = true) (tk : Takes X W) (hg : Gl X x := by rfl) (hdb : (x == ("__debug__" : Str)) = false := by decide) : SV X B W (.Raise (some (.Call (.Name x p) [.Constant (.str msg) j p2] [] pos)) none pos') (raiseS x) := by
  refine ⟨⟨fun pins s σ H Q I h => ?_⟩⟩
  obtain ⟨C, h1, h2, h3, h4, h5⟩ := E.ex
  exact (s_raise hc tk (pmk_own PySem.F.excBase_ValueError h2 h1 h3 (raises_own h4 h5) hg hdb) h1).run.run pins s σ H Q I h
def fldS (i : Nat) (c fl : Str) (fe : VE) : VS := onE fe fun r ρ => match ρ[i]? with | some (.obj c' _) => if c' = c then setFld i fl (fun _ => .ok r) ρ else .bad | _ => .bad
theorem sfld (i : Nat) (T : FldV X.K X.mg c fl) (he : EV X B W e fe) (hN : X.N[i]? = some x := by rfl) (hv : Vis X.env.scope x := by first | exact Or.inl rfl | exact Or.inr (Or.inl rfl) | exact Or.inr (Or.inr rfl)) (hd : (x == ("__debug__" : Str)) = false := by decide)
    (hcd : (x == ("__classdict__" : Str)) = false := by decide) (hs : swapsWith e (some (.Attribute (.Name x p) fl pos')) pos.line X.env = pure false := by rfl) : SV X B W (.Assign [.Attribute (.Name x p) fl pos'] e pos) (fldS i c fl fe) := by
  refine ⟨⟨fun pins s σ H Q I h => ?_⟩⟩
  obtain ⟨C, fs, h1, h2⟩ := T.ex
  refine (s_fld h1 h2 (pe_var hN hv hd hcd) he hs fun c' C' e1 e2 => ?_).run.run pins s σ H Q I h
  subst e2
  have := h1.mg
  rw [e1] at this
  injection this with this
  injection this
theorem sset (i : Nat) {x : Str} {p : Pos} (hN : X.N.Nodup) (he : EV X B W e f) (hi : X.N[i]? = some x := by rfl) (hx : Loc X.env.scope x := by first | exact Or.inl rfl | exact Or.inr rfl) (hs : swapsWith e (some (.Name x p)) pos.line X.env = pure false := by rfl) (hf : X.fn x = true ∨ X.env.scope.names.lookup x = some .local := by first | exact .inl rfl | exact .inr rfl) :
    SV X B W (.Assign [.Name x p] e pos) (setS i f) := s_set hN hi hx he hs hf
theorem smv (i j : Nat) {x y : Str} {p p' : Pos} (hN : X.N.Nodup) (hij : i ≠ j) (hi : X.N[i]? = some x := by rfl) (hx : Loc X.env.scope x := by first | exact Or.inl rfl | exact Or.inr rfl) (hj : X.N[j]? = some y := by rfl) (hv : Vis X.env.scope y := by first | exact Or.inl rfl | exact Or.inr (Or.inl rfl) | exact Or.inr (Or.inr rfl)) (hd : (y == ("__debug__" : Str)) = false := by decide)
    (hcd : (y == ("__classdict__" : Str)) = false := by decide) (hs : swapsWith (.Name y p) (some (.Name x p')) pos.line X.env = pure false := by rfl) (hf : X.fn x = true ∨ X.env.scope.names.lookup x = some .local := by first | exact .inl rfl | exact .inr rfl) :
    SV X B W (.Assign [.Name x p'] (.Name y p) pos) (mvS i j) := s_mv hij hN hi hx (pe_var hj hv hd hcd) hs hf
theorem gname (i : Nat) {x : Str} {pos : Pos} (hN : X.N.Nodup) (hi : X.N[i]? = some x := by rfl) (hx : Loc X.env.scope x := by first | exact Or.inl rfl | exact Or.inr rfl) (hf : X.fn x = true ∨ X.env.scope.names.lookup x = some .local := by first | exact .inl rfl | exact .inr rfl) : GV X B (.Name x pos) [i] (asg i) := g_name hN hi hx hf
theorem lname (i : Nat) {x : Str} {pos : Pos} (hN : X.N[i]? = some x := by rfl) (hv : Vis X.env.scope x := by first | exact Or.inl rfl | exact Or.inr (Or.inl rfl) | exact Or.inr (Or.inr rfl)) (hd : (x == ("__debug__" : Str)) = false := by decide)
    (hcd : (x == ("__classdict__" : Str)) = false := by decide) : LV X B W (.Name x pos) i (pthN i) := lv_name (pe_var hN hv hd hcd)
theorem sretOwn (i : Nat) {x : Str} {p : Pos} (hN : X.N[i]? = some x := by rfl) (hv : Vis X.env.scope x := by first | exact Or.inl rfl | exact Or.inr (Or.inl rfl) | exact Or.inr (Or.inr rfl)) (hd : (x == ("__debug__" : Str)) = false := by decide)
    (hcd : (x == ("__classdict__" : Str)) = false := by decide) : SV X B W (.Return (some (.Name x p)) pos) (retOwn i) := s_retOwn (pe_var hN hv hd hcd)
theorem xadd (ha : EV X B W a fa) (hb : EV X B W b fb) : EV X B W (.BinOp a .Add b pos) (bin2 addV fa fb) := e_bin opr_add op2_add nox_add ha hb
theorem xsub (ha : EV X B W a fa) (hb : EV X B W b fb) : EV X B W (.BinOp a .Sub b pos) (bin2 subV fa fb) := e_bin op_sub op2_sub nox_sub ha hb
theorem xmul (ha : EV X B W a fa) (hb : EV X B W b fb) : EV X B W (.BinOp a .Mult b pos) (bin2 mulV fa fb) := e_bin opr_mul op2_mul nox_mul ha hb
theorem xdiv (ha : EV X B W a fa) (hb : EV X B W b fb) : EV X B W (.BinOp a .FloorDiv b pos) (bin2 fdivV fa fb) := e_bin opr_fdiv op2_fdiv nox_fdiv ha hb
theorem xmod (ha : EV X B W a fa) (hb : EV X B W b fb) : EV X B W (.BinOp a .Mod b pos) (bin2 modV fa fb) := e_bin op_modN op2_mod nox_mod ha hb
theorem xpow (ha : EV X B W a fa) (hb : EV X B W b fb) : EV X B W (.BinOp a .Pow b pos) (bin2 powV fa fb) := e_bin op_pow op2_pow nox_pow ha hb
theorem xneg (ha : EV X B W a fa) : EV X B W (.UnaryOp .USub a pos) (un1 negV fa) := e_un un_neg op1_neg nox_neg ha
theorem xix (ha : EV X B W a fa) (hb : EV X B W b fb) (hs : PlainIx b := by exact fun _ _ => rfl) : EV X B W (.Subscript a b pos) (bin2 ixV fa fb) := e_ix ix_seq op2_ix nox_ix hs ha hb
theorem xeq (hr : Room k' X.A) (ha : EV X B W a fa) (hb : EV X B W b fb) (hm : behindInMarks .Eq b = false := by rfl) : EV X B W (.Compare a [.Eq] [b] pos) (bin2 eqV fa fb) := e_cmp (opr_eq hr.units) op2_eq nox_eq hm ha hb
theorem xne (hr : Room k' X.A) (ha : EV X B W a fa) (hb : EV X B W b fb) (hm : behindInMarks .NotEq b = false := by rfl) : EV X B W (.Compare a [.NotEq] [b] pos) (bin2 neV fa fb) := e_cmp (opr_ne hr.units) op2_ne nox_ne hm ha hb
theorem xlt (ha : EV X B W a fa) (hb : EV X B W b fb) (hm : behindInMarks .Lt b = false := by rfl) : EV X B W (.Compare a [.Lt] [b] pos) (bin2 ltV fa fb) := e_cmp op_lt (op2_cmp fun _ _ => rfl) (nox_cmp fun _ _ => rfl) hm ha hb
theorem xle (ha : EV X B W a fa) (hb : EV X B W b fb) (hm : behindInMarks .LtE b = false := by rfl) : EV X B W (.Compare a [.LtE] [b] pos) (bin2 leV fa fb) := e_cmp op_le (op2_cmp fun _ _ => rfl) (nox_cmp fun _ _ => rfl) hm ha hb
theorem xgt (ha : EV X B W a fa) (hb : EV X B W b fb) (hm : behindInMarks .Gt b = false := by rfl) : EV X B W (.Compare a [.Gt] [b] pos) (bin2 gtV fa fb) := e_cmp op_gt (op2_cmp fun _ _ => rfl) (nox_cmp fun _ _ => rfl) hm ha hb
theorem xge (ha : EV X B W a fa) (hb : EV X B W b fb) (hm : behindInMarks .GtE b = false := by rfl) : EV X B W (.Compare a [.GtE] [b] pos) (bin2 geV fa fb) := e_cmp op_ge (op2_cmp fun _ _ => rfl) (nox_cmp fun _ _ => rfl) hm ha hb
theorem teq (hr : Room k' X.A) (ha : EV X B W a fa) (hb : EV X B W b fb) (hm : behindInMarks .Eq b = false := by rfl) : TV X B W (.Compare a [.Eq] [b] pos) (boolOf (bin2 eqV fa fb)) := t_cmp (opr_eq hr.units) op2_eq nox_eq hm ha hb
theorem tne (hr : Room k' X.A) (ha : EV X B W a fa) (hb : EV X B W b fb) (hm : behindInMarks .NotEq b = false := by rfl) : TV X B W (.Compare a [.NotEq] [b] pos) (boolOf (bin2 neV fa fb)) := t_cmp (opr_ne hr.units) op2_ne nox_ne hm ha hb
theorem tlt (ha : EV X B W a fa) (hb : EV X B W b fb) (hm : behindInMarks .Lt b = false := by rfl) : TV X B W (.Compare a [.Lt] [b] pos) (boolOf (bin2 ltV fa fb)) := t_cmp op_lt (op2_cmp fun _ _ => rfl) (nox_cmp fun _ _ => rfl) hm ha hb
theorem tle (ha : EV X B W a fa) (hb : EV X B W b fb) (hm : behindInMarks .LtE b = false := by rfl) : TV X B W (.Compare a [.LtE] [b] pos) (boolOf (bin2 leV fa fb)) := t_cmp op_le (op2_cmp fun _ _ => rfl) (nox_cmp fun _ _ => rfl) hm ha hb
theorem tgt (ha : EV X B W a fa) (hb : EV X B W b fb) (hm : behindInMarks .Gt b = false := by rfl) : TV X B W (.Compare a [.Gt] [b] pos) (boolOf (bin2 gtV fa fb)) := t_cmp op_gt (op2_cmp fun _ _ => rfl) (nox_cmp fun _ _ => rfl) hm ha hb
theorem tge (ha : EV X B W a fa) (hb : EV X B W b fb) (hm : behindInMarks .GtE b = false := by rfl) : TV X B W (.Compare a [.GtE] [b] pos) (boolOf (bin2 geV fa fb)) := t_cmp op_ge (op2_cmp fun _ _ => rfl) (nox_cmp fun _ _ => rfl) hm ha hb
end
end
end Pv
namespace Pv
open PySem PySem.Spec L2
noncomputable section
section
variable {X : Cx} {B : Bx} {W : WX} {k' : Nat} {p pos : Pos} {a e c : Expr} {es : List Expr} {g : VA} {f : VE}
theorem xlen (hm : X.mg "len" = none) (ha : AV X B W (a :: es) g) (hg : Gl X "len" := by rfl) (he : starEach (a :: es) X.env = (false, eval a X.env) :: starEach es X.env := by rfl) (hpl : (backTo pos (starEach es X.env)).any (·.1) = false := by rfl) : EV X B W (.Call (.Name "len" p) (a :: es) [] pos) (callN lenV g) :=
  e_bfn cr_len opn_len noxn_len hg hm boot_len ha (by decide) (by decide) he hpl
theorem xint (hm : X.mg "int" = none) (ha : AV X B W (a :: es) g) (hg : Gl X "int" := by rfl) (he : starEach (a :: es) X.env = (false, eval a X.env) :: starEach es X.env := by rfl) (hpl : (backTo pos (starEach es X.env)).any (·.1) = false := by rfl) : EV X B W (.Call (.Name "int" p) (a :: es) [] pos) (callN intV g) :=
  e_bty call_int1 opn_int noxn_int hg hm PyProof.Rows.boot_int ha (by decide) (by decide) he hpl
theorem xabs (hm : X.mg "abs" = none) (ha : AV X B W (a :: es) g) (hg : Gl X "abs" := by rfl) (he : starEach (a :: es) X.env = (false, eval a X.env) :: starEach es X.env := by rfl) (hpl : (backTo pos (starEach es X.env)).any (·.1) = false := by rfl) : EV X B W (.Call (.Name "abs" p) (a :: es) [] pos) (callN absV' g) :=
  e_bfn call_abs opn_abs noxn_abs hg hm PyProof.Rows.boot_abs ha (by decide) (by decide) he hpl
theorem xmax (hc : X.calm = true) (hr : Room k' X.A) (hm : X.mg "max" = none) (ha : AV X B W (a :: es) g) (hg : Gl X "max" := by rfl) (he : starEach (a :: es) X.env = (false, eval a X.env) :: starEach es X.env := by rfl) (hpl : (backTo pos (starEach es X.env)).any (·.1) = false := by rfl) : EV X B W (.Call (.Name "max" p) (a :: es) [] pos) (callN maxV g) :=
  e_bfn (cr_maxA hc hr.units) opn_max noxn_max hg hm PyProof.Rows.boot_max ha (by decide) (by decide) he hpl
theorem xmin (hc : X.calm = true) (hr : Room k' X.A) (hm : X.mg "min" = none) (ha : AV X B W (a :: es) g) (hg : Gl X "min" := by rfl) (he : starEach (a :: es) X.env = (false, eval a X.env) :: starEach es X.env := by rfl) (hpl : (backTo pos (starEach es X.env)).any (·.1) = false := by rfl) : EV X B W (.Call (.Name "min" p) (a :: es) [] pos) (callN minV g) :=
  e_bfn (cr_minA hc hr.units) opn_min noxn_min hg hm PyProof.Rows.boot_min ha (by decide) (by decide) he hpl
theorem xlist (hm : X.mg "list" = none) (ha : AV X B W (a :: es) g) (hg : Gl X "list" := by rfl) (he : starEach (a :: es) X.env = (false, eval a X.env) :: starEach es X.env := by rfl) (hpl : (backTo pos (starEach es X.env)).any (·.1) = false := by rfl) : EV X B W (.Call (.Name "list" p) (a :: es) [] pos) (callN listV g) :=
  e_bty call_list_of opn_list noxn_list hg hm PyProof.Rows.boot_list ha (by decide) (by decide) he hpl
theorem xtuple (hm : X.mg "tuple" = none) (ha : AV X B W (a :: es) g) (hg : Gl X "tuple" := by rfl) (he : starEach (a :: es) X.env = (false, eval a X.env) :: starEach es X.env := by rfl) (hpl : (backTo pos (starEach es X.env)).any (·.1) = false := by rfl) : EV X B W (.Call (.Name "tuple" p) (a :: es) [] pos) (callN tupleV g) :=
  e_bty call_tuple_of opn_tuple noxn_tuple hg hm PyProof.Rows.boot_tuple ha (by decide) (by decide) he hpl
theorem xgcd (hm : X.mg "gcd" = some (.builtin "math.gcd")) (ha : AV X B W (a :: es) g) (hg : Gl X "gcd" := by rfl) (he : starEach (a :: es) X.env = (false, eval a X.env) :: starEach es X.env := by rfl) (hpl : (backTo pos (starEach es X.env)).any (·.1) = false := by rfl) : EV X B W (.Call (.Name "gcd" p) (a :: es) [] pos) (callN gcdV g) :=
  e_bgl call_gcd opn_gcd noxn_gcd hg hm ha (by decide) he hpl
theorem xisty {T : String} {x : Str} {px : Pos} (h : EV X B W e f) (hm : X.mg "isinstance" = none) (hT : X.mg x = none) (hv : bootBuiltins x = some (.type T)) (hg : Gl X "isinstance" := by rfl) (hg2 : Gl X x := by rfl) (hn : x ≠ "__name__" := by decide) (hdb : (x == ("__debug__" : Str)) = false := by decide)
    (hst : starEach [e, .Name x px] X.env = (false, eval e X.env) :: starEach [.Name x px] X.env := by rfl) (hst2 : starEach [.Name x px] X.env = (false, eval (.Name x px) X.env) :: starEach [] X.env := by rfl) (hpl : (backTo pos (starEach [.Name x px] X.env)).any (·.1) = false := by rfl) :
    EV X B W (.Call (.Name "isinstance" p) [e, .Name x px] [] pos) (un1 (isV T) f) :=
  e_isty h hg hm (pe_bltn hg2 hT hv rfl hn hdb) hst hst2 hpl
theorem xgi {x : Str} {i : Int} (hm : ∃ t, X.mg x = some (.int i t)) (hg : Gl X x := by rfl) (hd : (x == ("__debug__" : Str)) = false := by decide) : EV X B W (.Name x pos) (cst (.int i)) := by
  refine ⟨⟨fun pins s σ H Q I h => ?_⟩⟩
  obtain ⟨t, ht⟩ := hm
  exact (e_gint hg ht hd).run.run pins s σ H Q I h
theorem lenC {g : VA} {n m k : Nat} (h : ∀ ρ rs, g ρ = .ok rs → rs.length = n) (e : n + m = k) : ∀ ρ rs, g ρ = .ok rs → rs.length + m = k := fun ρ rs q => by rw [h ρ rs q]; exact e
theorem lenM {g : VA} {n m k : Nat} (h : ∀ ρ rs, g ρ = .ok rs → rs.length = n) (e : n + m + 1 = k) : ∀ ρ rs, g ρ = .ok rs → rs.length + m + 1 = k := fun ρ rs q => by rw [h ρ rs q]; exact e
def frS (j : Nat) (f : VS) : VS := fun ρ => f (frE j ρ)
def badS : VS := fun _ => .bad
theorem SV.fr {st : Stmt} {f : VS} (h : SV X B W st f) (j : Nat) : SV X B W st (frS j f) := h.fz j
end
end
end Pv
namespace Pv
open PySem PySem.Spec L2
noncomputable section
section
variable {f g h : VS} {e e1 e2 e3 : VE} {t t1 t2 : VT} {a : VA} {ρ ρ' : Env} {i j k : Nat} {r : Res} {p : PV} {c : Str}
theorem seqS_ap : seqS f g ρ = (match f ρ with | .next ρ' => g ρ' | z => z) := (rfl)
theorem nilS_ap : nilS ρ = .next ρ := (rfl)
theorem brkS_ap : brkS ρ = .brk ρ := (rfl)
theorem contS_ap : contS ρ = .cont ρ := (rfl)
theorem badS_ap : badS ρ = .bad := (rfl)
theorem raiseS_ap : raiseS c ρ = .exc ⟨c, []⟩ ρ := (rfl)
theorem frS_ap : frS j f ρ = f (frE j ρ) := (rfl)
theorem setS_ap : setS i e ρ = (match e ρ with | .ok r => asg i r ρ | .exc x => .exc x ρ | .bad => .bad) := (rfl)
theorem dropS_ap : dropS e ρ = (match e ρ with | .ok _ => .next ρ | .exc x => .exc x ρ | .bad => .bad) := (rfl)
theorem retS_ap : retS e ρ = (match e ρ with | .ok r => retR r | .exc x => .exc x ρ | .bad => .bad) := (rfl)
theorem ifS_ap : ifS t f g ρ = (match t ρ with | .ok b => (if b = true then f ρ else g ρ) | .exc x => .exc x ρ | .bad => .bad) := by
  unfold ifS onT
  cases t ρ with
  | ok b => cases b <;> rfl
  | exc x => rfl
  | bad => rfl
theorem asg_val : asg i (.val p) ρ = .next (ρ.set i (.val p)) := (rfl)
theorem asg_new {n : Nat} {xs : List PV} : asg i (.new n xs) ρ = .next (ρ.set i (.own n xs)) := (rfl)
theorem asg_bor {n : Nat} {xs : List PV} : asg i (.bor n xs) ρ = .next (ρ.set i (.bor n xs)) := (rfl)
theorem retR_val : retR (.val p) = .ret (.val p) := (rfl)
theorem retR_new {n : Nat} {xs : List PV} : retR (.new n xs) = .ret (.new n xs) := (rfl)
theorem rd_ap : rd i ρ = (match ρ[i]? with | some (.val p) => .ok (.val p) | some (.bor n xs) => .ok (.bor n xs) | some (.own n xs) => .ok (.lend n xs) | _ => .bad) := (rfl)
theorem retOwn_ap : retOwn i ρ = (match ρ[i]? with | some (.own n xs) => .ret (.new n xs) | some (.val p) => .ret (.val p) | _ => .bad) := (rfl)
theorem cst_ap : cst p ρ = .ok (.val p) := (rfl)
theorem bin2_ap {z : Res → Res → R Res} : bin2 z e1 e2 ρ = (e1 ρ >>= fun x => e2 ρ >>= fun y => z x y) := (rfl)
theorem un1_ap {z : Res → R Res} : un1 z e1 ρ = (e1 ρ >>= fun x => z x) := (rfl)
theorem callN_ap {z : List Res → R Res} : callN z a ρ = (a ρ >>= z) := (rfl)
theorem callF_ap {fn : Fn} {ds : List PV} : callF fn ds a ρ = (a ρ >>= fun rs => fn (rs.map argR ++ ds.map .val)) := (rfl)
theorem methF_ap {m : Str} {fn : Fn} {ds : List PV} : methF c m fn ds e a ρ = (e ρ >>= fun r => if isIns c m r = true then (a ρ >>= fun rs => fn (r :: (rs.map argR ++ ds.map .val))) else .bad) := (rfl)
theorem makeF_ap {fn : FnI} {ds : List PV} : makeF c fn ds a ρ = (a ρ >>= fun rs => fn (rs.map argR ++ ds.map .val) >>= fun fs => .ok (.val (.ins c fs))) := (rfl)
theorem fldE_ap {m : Str} : fldE c m e ρ = (e ρ >>= fun r => match r with | .val (.ins c' fs) => if c' = c then fldR m (.val (.ins c' fs)) else .bad | _ => .bad) := (rfl)
theorem aNil_ap : aNil ρ = .ok [] := (rfl)
theorem aCons_ap : aCons e a ρ = (e ρ >>= fun r => a ρ >>= fun rs => .ok (r :: rs)) := (rfl)
theorem tupD_ap : tupD a ρ = (a ρ >>= fun rs => stAll rs >>= fun ps => if ps.length ≤ sizeLine then .ok (.val (.tup ps)) else .bad) := (rfl)
theorem lstD_ap : lstD a ρ = (a ρ >>= fun rs => stAll rs >>= fun ps => if ps.length ≤ sizeLine then .ok (.new 0 ps) else .bad) := (rfl)
theorem nilD_ap : nilD k ρ = .ok (.new k []) := (rfl)
theorem walkOf_ap : walkOf e ρ = (e ρ >>= fun r => match r.items with | some xs => .ok xs | none => .bad) := (rfl)
theorem walkR1_ap : walkR1 e ρ = (e ρ >>= fun r => match r.pv with | .int j => if smallI j then .ok (rng1 j) else .bad | _ => .bad) := (rfl)
theorem walkR2_ap : walkR2 e1 e2 ρ = (e1 ρ >>= fun r => e2 ρ >>= fun s => match r.pv, s.pv with | .int i, .int j => if smallI i ∧ smallI j then .ok (rng2 i j) else .bad | _, _ => .bad) := (rfl)
theorem walkZ_ap : walkZ a ρ = (a ρ >>= kZip) := (rfl)
theorem walkE_ap : walkE a ρ = (a ρ >>= kEnu) := (rfl)
theorem walkV_ap : walkV e ρ = (e ρ >>= kRev) := (rfl)
theorem tupRevV_ap : tupRevV e ρ = (e ρ >>= fun r => match r with | .val (.lst xs) => .ok (.val (.tup xs.reverse)) | .bor 0 xs => .ok (.val (.tup xs.reverse)) | .lend 0 xs => .ok (.val (.tup xs.reverse)) | _ => .bad) := (rfl)
theorem andT_ap : andT t1 t2 ρ = (t1 ρ >>= fun c => if c = true then t2 ρ else .ok false) := (rfl)
theorem orT_ap : orT t1 t2 ρ = (t1 ρ >>= fun c => if c = true then .ok true else t2 ρ) := (rfl)
theorem notT_ap : notT t ρ = (t ρ >>= fun c => .ok (!c)) := (rfl)
theorem boolOf_ap : boolOf e ρ = (e ρ >>= boolR) := (rfl)
theorem boolR_bl {b : Bool} : boolR (.val (.bl b)) = .ok b := (rfl)
theorem andV_ap : andV e1 e2 ρ = (e1 ρ >>= fun r => boolR r >>= fun c => if c = true then e2 ρ else .ok (.val (.bl false))) := (rfl)
theorem orV_ap : orV e1 e2 ρ = (e1 ρ >>= fun r => boolR r >>= fun c => if c = true then .ok (.val (.bl true)) else e2 ρ) := (rfl)
theorem notE_ap : notE e ρ = (e ρ >>= fun r => boolR r >>= fun c => .ok (.val (.bl (!c)))) := (rfl)
theorem ifV_ap : ifV t e1 e2 ρ = (t ρ >>= fun b => if b = true then e1 ρ else e2 ρ) := (rfl)
theorem chn_ap {z z' : Res → Res → R Res} : chn z z' e1 e2 e3 ρ = (e1 ρ >>= fun x => e2 ρ >>= fun y => z x y >>= fun w => boolR w >>= fun c => if c = true then (e3 ρ >>= fun u => z' y u) else .ok (.val (.bl false))) := (rfl)
theorem noB_ap : noB ρ = .ok none := (rfl)
theorem intB_ap : intB e ρ = (e ρ >>= fun r => match r.pv with | .int i => .ok (some i) | _ => .bad) := (rfl)
theorem sl3_ap {fl fh : Env → R (Option Int)} : sl3 e fl fh ρ = (e ρ >>= fun x => fl ρ >>= fun l => fh ρ >>= fun h => sliceV x l h) := (rfl)
theorem forS_ap {src : VA} {gg : VG} : forS src gg f ρ = (match src ρ with | .ok items => runFor gg f items ρ | .exc x => .exc x ρ | .bad => .bad) := (rfl)
theorem lcV_ap {src : VA} {gg : VG} {vs : List Nat} : lcV k src gg t e vs ρ = (src ρ >>= fun items => noX (runLc k gg t e items (wipeE ρ vs)) >>= fun ps => if ps.length ≤ sizeLine then .ok (.new k ps) else .bad) := (rfl)
theorem yesT_ap : yesT ρ = .ok true := (rfl)
theorem apS_ap {po : Env → R (List Nat)} : apS i po e ρ = (match po ρ with
  | .ok ks => (match slotL ρ i ks with
    | some ys => (match e ρ with | .ok r => (match stD (slotD ρ i ks) r with | .ok p => if ys.length < sizeLine then upP i ks (ys ++ [p]) ρ else .bad | _ => .bad) | .exc x => .exc x ρ | .bad => .bad)
    | none => .bad)
  | .exc x => .exc x ρ
  | .bad => .bad) := (rfl)
theorem ixS_ap {po : Env → R (List Nat)} : ixS i po e1 e2 ρ = (match e2 ρ with
  | .ok r => (match po ρ with
    | .ok ks => (match slotL ρ i ks with
      | some ys => (match e1 ρ with
        | .ok rk => (match rk.pv with
          | .int j => (match ixN ys.length j, stD (slotD ρ i ks) r with
            | some m, .ok p => upP i ks (ys.set m p) ρ
            | _, _ => .bad)
          | _ => .bad)
        | .exc x => .exc x ρ
        | .bad => .bad)
      | none => .bad)
    | .exc x => .exc x ρ
    | .bad => .bad)
  | .exc x => .exc x ρ
  | .bad => .bad) := (rfl)
theorem pthN_ap : pthN i ρ = (match slotL ρ i [] with | some _ => .ok [] | none => .bad) := (rfl)
theorem pthI_ap {po : Env → R (List Nat)} : pthI i po e ρ = (po ρ >>= fun ks => e ρ >>= fun r => match r.pv with
  | .int j => (match slotL ρ i ks with
    | some ys => (match ixN ys.length j with | some m => (match slotL ρ i (ks ++ [m]) with | some _ => .ok (ks ++ [m]) | none => .bad) | none => .bad)
    | none => .bad)
  | _ => .bad) := (rfl)
theorem apS_own {n : Nat} {xs : List PV} (hs : ρ[i]? = some (.own n xs)) {r : Res} {p : PV} (he : e ρ = .ok r) (hp : stD n r = .ok p) (hl : xs.length < sizeLine) : apS i (pthN i) e ρ = .next (ρ.set i (.own n (xs ++ [p]))) := by
  have h1 : slotL ρ i [] = some xs := by unfold slotL; rw [hs]; rfl
  have h2 : slotD ρ i [] = n := by unfold slotD; rw [hs]; rfl
  rw [apS_ap, pthN_ap, h1]
  simp only [h1, he, h2, hp, if_pos hl]
  unfold upP
  rw [hs]
  rfl
theorem stD_val {p : PV} : stD 0 (.val p) = .ok p := (rfl)
theorem stD_new0 {n : Nat} {xs : List PV} : stD 0 (.new n xs) = .ok (.lst xs) := (rfl)
theorem stAll_nil : stAll [] = .ok [] := (rfl)
theorem stAll_cons {rs : List Res} : stAll (r :: rs) = (stR r >>= fun p => stAll rs >>= fun ps => .ok (p :: ps)) := (rfl)
theorem stR_val {p : PV} : stR (.val p) = .ok p := (rfl)
theorem stR_new {n : Nat} {xs : List PV} : stR (.new n xs) = .ok (.lst xs) := (rfl)
theorem argR_val {p : PV} : argR (.val p) = .val p := (rfl)
theorem argR_new {n : Nat} {xs : List PV} : argR (.new n xs) = .val (.lst xs) := (rfl)
theorem argR_bor {n : Nat} {xs : List PV} : argR (.bor n xs) = .bor n xs := (rfl)
theorem argR_lend {n : Nat} {xs : List PV} : argR (.lend n xs) = .bor n xs := (rfl)
variable {x y : Int}
theorem addV_int : addV (.val (.int x)) (.val (.int y)) = .ok (.val (.int (x + y))) := (rfl)
theorem subV_int : subV (.val (.int x)) (.val (.int y)) = .ok (.val (.int (x - y))) := (rfl)
theorem mulV_int (h : mulOk x y) : mulV (.val (.int x)) (.val (.int y)) = .ok (.val (.int (x * y))) := by
  show (if mulOk x y then _ else _) = _
  rw [if_pos h]
theorem fdivV_int (h : divOk y) : fdivV (.val (.int x)) (.val (.int y)) = .ok (.val (.int (x.fdiv y))) := by
  show (if divOk y then _ else _) = _
  rw [if_pos h]
theorem modV_int (h : y ≠ 0) : modV (.val (.int x)) (.val (.int y)) = .ok (.val (.int (x.fmod y))) := by
  show (if y ≠ 0 then _ else _) = _
  rw [if_pos h]
theorem powV_int (h : powOk x y) : powV (.val (.int x)) (.val (.int y)) = .ok (.val (.int (x ^ y.toNat))) := by
  show (if powOk x y then _ else _) = _
  rw [if_pos h]
theorem negV_int : negV (.val (.int x)) = .ok (.val (.int (-x))) := (rfl)
theorem ltV_int : ltV (.val (.int x)) (.val (.int y)) = .ok (.val (.bl (decide (x < y)))) := (rfl)
theorem leV_int : leV (.val (.int x)) (.val (.int y)) = .ok (.val (.bl (decide (x ≤ y)))) := (rfl)
theorem gtV_int : gtV (.val (.int x)) (.val (.int y)) = .ok (.val (.bl (decide (x > y)))) := (rfl)
theorem geV_int : geV (.val (.int x)) (.val (.int y)) = .ok (.val (.bl (decide (x ≥ y)))) := (rfl)
theorem eqV_int : eqV (.val (.int x)) (.val (.int y)) = .ok (.val (.bl (decide (x = y)))) := (rfl)
theorem neV_int : neV (.val (.int x)) (.val (.int y)) = .ok (.val (.bl (!decide (x = y)))) := (rfl)
theorem eqV_str {x y : Str} : eqV (.val (.str x)) (.val (.str y)) = .ok (.val (.bl (decide (x = y)))) := (rfl)
theorem neV_str {x y : Str} : neV (.val (.str x)) (.val (.str y)) = .ok (.val (.bl (!decide (x = y)))) := (rfl)
theorem intV_int : intV [.val (.int x)] = .ok (.val (.int x)) := (rfl)
theorem absV_int : absV' [.val (.int x)] = .ok (.val (.int (if x < 0 then -x else x))) := (rfl)
theorem max2_int : maxV [.val (.int x), .val (.int y)] = .ok (.val (.int (if y > x then y else x))) := (rfl)
theorem min2_int : minV [.val (.int x), .val (.int y)] = .ok (.val (.int (if y < x then y else x))) := (rfl)
theorem lenV_tup {xs : List PV} : lenV [.val (.tup xs)] = .ok (.val (.int xs.length)) := (rfl)
theorem lenV_lst {xs : List PV} : lenV [.val (.lst xs)] = .ok (.val (.int xs.length)) := (rfl)
theorem lenV_scr {xs : List Int} : lenV [.val (.scr xs)] = .ok (.val (.int xs.length)) := (rfl)
theorem lenV_lend {n : Nat} {xs : List PV} : lenV [.lend n xs] = .ok (.val (.int xs.length)) := (rfl)
theorem ixV_tup {xs : List PV} : ixV (.val (.tup xs)) (.val (.int x)) = (match atI xs x with | some p => .ok (.val p) | none => .bad) := (rfl)
theorem ixV_lst {xs : List PV} : ixV (.val (.lst xs)) (.val (.int x)) = (match atI xs x with | some p => .ok (.val p) | none => .bad) := (rfl)
theorem ixV_scr {xs : List Int} : ixV (.val (.scr xs)) (.val (.int x)) = (match atI xs x with | some p => .ok (.val (.int p)) | none => .bad) := (rfl)
theorem ixV_lend0 {xs : List PV} : ixV (.lend 0 xs) (.val (.int x)) = (match atI xs x with | some p => .ok (.val p) | none => .bad) := (rfl)
theorem atI_nat {α : Type} {xs : List α} {n : Nat} : atI xs (n : Int) = xs[n]? := by
  unfold atI ixN
  rw [if_pos (Int.natCast_nonneg n)]
  by_cases h : n < xs.length
  · rw [if_pos (by omega)]; rfl
  · rw [if_neg (by omega), List.getElem?_eq_none (by omega)]; rfl
theorem runFn_ret {N : Nat} {args : List Res} (q : f (args.map slotOf ++ List.replicate (N - args.length) .unset) = .ret r) : runFn N f args = .ok r := by unfold runFn; rw [q]
theorem runFn_next {N : Nat} {args : List Res} (q : f (args.map slotOf ++ List.replicate (N - args.length) .unset) = .next ρ') : runFn N f args = .ok (.val .non) := by unfold runFn; rw [q]
theorem runFn_exc {N : Nat} {args : List Res} {x : XV} (q : f (args.map slotOf ++ List.replicate (N - args.length) .unset) = .exc x ρ') : runFn N f args = .exc x := by unfold runFn; rw [q]
theorem runInit_next {N : Nat} {args : List Res} {fs : List (Str × PV)} (q : f (.obj c [] :: (args.map slotOf ++ List.replicate (N - 1 - args.length) .unset)) = .next ρ') (o : objOf c ρ' = .ok fs) : runInit N c f args = .ok fs := by unfold runInit; rw [q]; exact o
theorem runInit_exc {N : Nat} {args : List Res} {x : XV} (q : f (.obj c [] :: (args.map slotOf ++ List.replicate (N - 1 - args.length) .unset)) = .exc x ρ') : runInit N c f args = .exc x := by unfold runInit; rw [q]
end
end
end Pv
namespace Pv
open PySem PySem.Spec L2
noncomputable section
def zs (ns : List Int) : List PV := ns.map PV.int
theorem zs_nil : zs [] = [] := (rfl)
theorem zs_cons {x : Int} {xs : List Int} : zs (x :: xs) = .int x :: zs xs := (rfl)
theorem zs_snoc {x : Int} {xs : List Int} : zs xs ++ [.int x] = zs (xs ++ [x]) := by unfold zs; rw [List.map_append]; rfl
theorem zs_length {xs : List Int} : (zs xs).length = xs.length := by unfold zs; rw [List.length_map]
theorem zs_get {xs : List Int} {i : Nat} : (zs xs)[i]? = (xs[i]?).map PV.int := by unfold zs; rw [List.getElem?_map]
def rngF (a n : Nat) : List Res := (List.range' a n).map fun (k : Nat) => .val (.int (k : Int))
theorem rng1_nat (n : Nat) : rng1 (n : Int) = rngF 0 n := by
  unfold rng1 rngF
  rw [Int.toNat_natCast, List.range_eq_range']
theorem rngF_zero {a : Nat} : rngF a 0 = [] := (rfl)
theorem rngF_succ {a n : Nat} : rngF a (n + 1) = .val (.int (a : Int)) :: rngF (a + 1) n := by
  unfold rngF
  rw [List.range'_succ]; rfl
theorem runFor_nil {g : VG} {b : VS} {ρ : Env} : runFor g b [] ρ = .next ρ := (rfl)
theorem runFor_cons {g : VG} {b : VS} {ρ : Env} {r : Res} {rs : List Res} : runFor g b (r :: rs) ρ = (match g r ρ with
    | .next ρ1 => (match b ρ1 with
      | .next ρ2 => runFor g b rs ρ2
      | .cont ρ2 => runFor g b rs ρ2
      | .brk ρ2 => .next ρ2
      | e => e)
    | _ => .bad) := (rfl)
theorem mul_ok {i j : Int} (h : -(2 ^ 64) < j ∧ j < 2 ^ 64) : mulOk i j := .inl (.inr h)
theorem mul_ok' {i j : Int} (h : -(2 ^ 64) < i ∧ i < 2 ^ 64) : mulOk i j := .inl (.inl h)
theorem pow_ok {i j : Int} (h : 0 ≤ j ∧ j ≤ 1000000 ∧ i.natAbs < 2 ^ 64) : powOk i j := h
theorem div_ok {j : Int} (h : 0 < j ∧ j < 2 ^ 1000) : divOk j := by
  refine ⟨by omega, Nat.lt_of_lt_of_le ((Nat.log2_lt (by omega)).mpr (show j.natAbs < 2 ^ 1000 by omega)) (by omega)⟩
theorem small_nat {n : Nat} (h : n ≤ 100000) : smallI (n : Int) := by unfold smallI; omega
theorem line_lt {n : Nat} (h : n ≤ 100000) : n < sizeLine := Nat.lt_of_le_of_lt h (by decide)
theorem line_le {n : Nat} (h : n ≤ 100000) : n ≤ sizeLine := Nat.le_of_lt (line_lt h)
def In (lo hi : Int) (xs : List Int) : Prop := ∀ x ∈ xs, lo ≤ x ∧ x < hi
theorem In.cons {lo hi x : Int} {xs : List Int} (h : lo ≤ x ∧ x < hi) (k : In lo hi xs) : In lo hi (x :: xs) := fun y hy => by
  rcases List.mem_cons.mp hy with e | e
  · rw [e]; exact h
  · exact k y e
theorem In.head {lo hi x : Int} {xs : List Int} (k : In lo hi (x :: xs)) : lo ≤ x ∧ x < hi := k x List.mem_cons_self
theorem In.tail {lo hi x : Int} {xs : List Int} (k : In lo hi (x :: xs)) : In lo hi xs := fun y hy => k y (List.mem_cons_of_mem _ hy)
theorem fmod_in {x m : Int} (h : 0 < m) : 0 ≤ x.fmod m ∧ x.fmod m < m := ⟨Int.fmod_nonneg_of_pos x h, Int.fmod_lt_of_pos x h⟩
section
variable {e e1 e2 : VE} {f : VS} {t : VT} {ρ : Env}
theorem walkR1_nat {n : Nat} (he : e ρ = .ok (.val (.int (n : Int)))) (h : n ≤ 100000) : walkR1 e ρ = .ok (rngF 0 n) := by
  rw [walkR1_ap, he, R.ok_bind]
  show (if smallI (n : Int) then R.ok (rng1 (n : Int)) else .bad) = _
  rw [if_pos (small_nat h), rng1_nat]
theorem walkOf_lst {xs : List PV} (he : e ρ = .ok (.val (.lst xs))) : walkOf e ρ = .ok (xs.map .val) := by rw [walkOf_ap, he, R.ok_bind]; rfl
theorem walkOf_tup {xs : List PV} (he : e ρ = .ok (.val (.tup xs))) : walkOf e ρ = .ok (xs.map .val) := by rw [walkOf_ap, he, R.ok_bind]; rfl
theorem walkOf_new {n : Nat} {xs : List PV} (he : e ρ = .ok (.new n xs)) : walkOf e ρ = .ok (xs.map .val) := by rw [walkOf_ap, he, R.ok_bind]; rfl
theorem forS_ok {src : VA} {g : VG} {items : List Res} (h : src ρ = .ok items) : forS src g f ρ = runFor g f items ρ := by rw [forS_ap, h]
theorem mulV_big {x y : Int} (h : -(2 ^ 64) < y ∧ y < 2 ^ 64) : mulV (.val (.int x)) (.val (.int y)) = .ok (.val (.int (x * y))) := mulV_int (mul_ok h)
theorem fdivV_pos {x y : Int} (h : 0 < y ∧ y < 2 ^ 1000) : fdivV (.val (.int x)) (.val (.int y)) = .ok (.val (.int (x.fdiv y))) := fdivV_int (div_ok h)
theorem tup_val {a : VA} {rs : List Res} {ps : List PV} (h : a ρ = .ok rs) (h2 : stAll rs = .ok ps) (h3 : ps.length ≤ 100000) : tupD a ρ = .ok (.val (.tup ps)) := by
  rw [tupD_ap, h, R.ok_bind, h2, R.ok_bind, if_pos (line_le h3)]
theorem lst_val {a : VA} {rs : List Res} {ps : List PV} (h : a ρ = .ok rs) (h2 : stAll rs = .ok ps) (h3 : ps.length ≤ 100000) : lstD a ρ = .ok (.new 0 ps) := by
  rw [lstD_ap, h, R.ok_bind, h2, R.ok_bind, if_pos (line_le h3)]
theorem addV_tup {xs ys : List PV} (h : xs.length + ys.length ≤ 100000) : addV (.val (.tup xs)) (.val (.tup ys)) = .ok (.val (.tup (xs ++ ys))) := by
  show (if _ then _ else _) = _
  rw [if_pos (line_le h)]
theorem lcV_ok {k : Nat} {src : VA} {g : VG} {vs : List Nat} {items : List Res} {ps : List PV} (h : src ρ = .ok items) (h2 : runLc k g t e items (wipeE ρ vs) = .ok ps) (h3 : ps.length ≤ 100000) : lcV k src g t e vs ρ = .ok (.new k ps) := by
  rw [lcV_ap, h, R.ok_bind, h2]
  show (if ps.length ≤ sizeLine then _ else _) = _
  rw [if_pos (line_le h3)]
theorem runLc_map {k : Nat} {g : VG} {ρ : Env} : ∀ {items : List Res} {ps : List PV}, ps.length = items.length → (∀ (i : Nat) (r : Res) (p : PV), items[i]? = some r → ps[i]? = some p → ∃ ρ1 y, g r ρ = .next ρ1 ∧ e ρ1 = .ok y ∧ stD k y = .ok p) → runLc k g yesT e items ρ = .ok ps
  | [], ps, hl, _ => by
    cases ps with
    | nil => rfl
    | cons p ps => cases hl
  | r :: rs, ps, hl, h => by
    cases ps with
    | nil => cases hl
    | cons p ps =>
      obtain ⟨ρ1, y, h1, h2, h3⟩ := h 0 r p rfl rfl
      have ih := runLc_map (k := k) (g := g) (ρ := ρ) (items := rs) (ps := ps) (by simpa using hl) fun i r p e1 e2 => h (i + 1) r p e1 e2
      unfold runLc
      rw [h1]
      simp only [yesT_ap, R.ok_bind, if_true, h2, h3, ih]
end
end
end Pv
namespace K88
open PySem PySem.Spec L2 Pv
noncomputable section
def cBody : Stmt → List Stmt
  | .ClassDef (body := b) .. => b
  | _ => []
def top (i : Nat) : Stmt := PySem.Challenge.pw_downhillgames_k88_rules_gains_and_rests.main.body.getD i (.Pass ⟨0, 0, 0, 0⟩)
abbrev s_law_mix : Stmt := top 33
abbrev s_law_row : Stmt := top 34
abbrev s_law_sizes : Stmt := top 35
abbrev s_law_cell : Stmt := top 32
abbrev s_law_count : Stmt := top 36
abbrev s_law_plays : Stmt := top 37
abbrev s_law_pays : Stmt := top 38
abbrev s_count_plays : Stmt := top 11
abbrev s_check_sizes : Stmt := top 12
abbrev s_divisor : Stmt := top 25
abbrev s_Game_init : Stmt := (cBody (top 29)).getD 0 (.Pass ⟨0, 0, 0, 0⟩)
abbrev s_law_gcd : Stmt := top 39
abbrev s_law_place : Stmt := top 40
abbrev s_law_gain : Stmt := top 41
abbrev s_is_play : Stmt := top 14
abbrev s_place : Stmt := top 16
abbrev s_is_change : Stmt := top 15
abbrev s_strides : Stmt := top 13
abbrev s_gain : Stmt := top 19
abbrev s_law_is_whole : Stmt := top 31
abbrev s_arcs : Stmt := top 20
abbrev s_moves : Stmt := top 21
abbrev s_law_is_list : Stmt := top 43
abbrev s_law_moves : Stmt := top 42
abbrev s_slack : Stmt := top 22
abbrev s_law_at_play : Stmt := top 44
abbrev s_play_at : Stmt := top 17
abbrev s_rests : Stmt := top 23
abbrev s_law_bad_play : Stmt := top 46
abbrev s_Game_pay : Stmt := (cBody (top 29)).getD 3 (.Pass ⟨0, 0, 0, 0⟩)
abbrev s_Table_init : Stmt := (cBody (top 27)).getD 0 (.Pass ⟨0, 0, 0, 0⟩)
abbrev s_Game_row : Stmt := (cBody (top 29)).getD 4 (.Pass ⟨0, 0, 0, 0⟩)
abbrev s_Table_at : Stmt := (cBody (top 27)).getD 3 (.Pass ⟨0, 0, 0, 0⟩)
abbrev s_Game_with_pay : Stmt := (cBody (top 29)).getD 5 (.Pass ⟨0, 0, 0, 0⟩)
abbrev s_law_refuses : Stmt := top 45
abbrev s_law : Stmt := top 47
structure Fx (P : Program) (w : World) (K : PySem.W.Frag) (mg : MG) (base : Heap) : Prop where
  f_abs : mg "abs" = none
  f_range : mg "range" = none
  f_int : mg "int" = none
  d_law_mix : ∃ fd, FunD K "_law_mix" "_law_mix" (defArgs s_law_mix) (defBody s_law_mix) (defScope s_law_mix) [] [] (He.fAd K ("_law_mix", none)) fd
  g__law_mix : mg "_law_mix" = some (.ref (He.ga K "_law_mix"))
  d_law_row : ∃ fd, FunD K "_law_row" "_law_row" (defArgs s_law_row) (defBody s_law_row) (defScope s_law_row) [] [] (He.fAd K ("_law_row", none)) fd
  g__law_row : mg "_law_row" = some (.ref (He.ga K "_law_row"))
  f_max : mg "max" = none
  d_law_sizes : ∃ fd, FunD K "_law_sizes" "_law_sizes" (defArgs s_law_sizes) (defBody s_law_sizes) (defScope s_law_sizes) [] [] (He.fAd K ("_law_sizes", none)) fd
  g__law_sizes : mg "_law_sizes" = some (.ref (He.ga K "_law_sizes"))
  f_len : mg "len" = none
  d_law_cell : ∃ fd, FunD K "_law_cell" "_law_cell" (defArgs s_law_cell) (defBody s_law_cell) (defScope s_law_cell) [] [] (He.fAd K ("_law_cell", none)) fd
  g__law_cell : mg "_law_cell" = some (.ref (He.ga K "_law_cell"))
  d_law_count : ∃ fd, FunD K "_law_count" "_law_count" (defArgs s_law_count) (defBody s_law_count) (defScope s_law_count) [] [] (He.fAd K ("_law_count", none)) fd
  g__law_count : mg "_law_count" = some (.ref (He.ga K "_law_count"))
  f_list : mg "list" = none
  d_law_plays : ∃ fd, FunD K "_law_plays" "_law_plays" (defArgs s_law_plays) (defBody s_law_plays) (defScope s_law_plays) [] [] (He.fAd K ("_law_plays", none)) fd
  g__law_plays : mg "_law_plays" = some (.ref (He.ga K "_law_plays"))
  d_law_pays : ∃ fd, FunD K "_law_pays" "_law_pays" (defArgs s_law_pays) (defBody s_law_pays) (defScope s_law_pays) [] [] (He.fAd K ("_law_pays", none)) fd
  g__law_pays : mg "_law_pays" = some (.ref (He.ga K "_law_pays"))
  g_Game : mg "Game" = some (.ref (He.ga K "Game"))
  c_Game : Cls K (He.ga K "Game")
  n_Game_sizes : NoAttr K (He.ga K "Game") "sizes"
  n_Game_pays : NoAttr K (He.ga K "Game") "pays"
  n_Game_over : NoAttr K (He.ga K "Game") "over"
  f_min : mg "min" = none
  i_MOST_PEOPLE : ∃ t, mg "MOST_PEOPLE" = some (.int 4 t)
  i_MOST_CHOICES : ∃ t, mg "MOST_CHOICES" = some (.int 5 t)
  d_count_plays : ∃ fd, FunD K "count_plays" "count_plays" (defArgs s_count_plays) (defBody s_count_plays) (defScope s_count_plays) [] [] (He.fAd K ("count_plays", none)) fd
  g_count_plays : mg "count_plays" = some (.ref (He.ga K "count_plays"))
  i_MOST_PLAYS : ∃ t, mg "MOST_PLAYS" = some (.int 120 t)
  f_tuple : mg "tuple" = none
  d_check_sizes : ∃ fd, FunD K "check_sizes" "check_sizes" (defArgs s_check_sizes) (defBody s_check_sizes) (defScope s_check_sizes) [] [] (He.fAd K ("check_sizes", none)) fd
  g_check_sizes : mg "check_sizes" = some (.ref (He.ga K "check_sizes"))
  gcd : mg "gcd" = some (.builtin "math.gcd")
  d_divisor : ∃ fd, FunD K "divisor" "divisor" (defArgs s_divisor) (defBody s_divisor) (defScope s_divisor) [] [] (He.fAd K ("divisor", none)) fd
  g_divisor : mg "divisor" = some (.ref (He.ga K "divisor"))
  d_Game_init : ∃ fd, FunD K "__init__" "Game.__init__" (defArgs s_Game_init) (defBody s_Game_init) (defScope s_Game_init) [.int 1] [] (He.fAd K ("Game", some "__init__")) fd
  mk_Game : Mk K (He.ga K "Game") (He.ma K (He.ga K "Game") "__init__")
  d_law_gcd : ∃ fd, FunD K "_law_gcd" "_law_gcd" (defArgs s_law_gcd) (defBody s_law_gcd) (defScope s_law_gcd) [] [] (He.fAd K ("_law_gcd", none)) fd
  g__law_gcd : mg "_law_gcd" = some (.ref (He.ga K "_law_gcd"))
  d_law_place : ∃ fd, FunD K "_law_place" "_law_place" (defArgs s_law_place) (defBody s_law_place) (defScope s_law_place) [] [] (He.fAd K ("_law_place", none)) fd
  g__law_place : mg "_law_place" = some (.ref (He.ga K "_law_place"))
  d_law_gain : ∃ fd, FunD K "_law_gain" "_law_gain" (defArgs s_law_gain) (defBody s_law_gain) (defScope s_law_gain) [] [] (He.fAd K ("_law_gain", none)) fd
  g__law_gain : mg "_law_gain" = some (.ref (He.ga K "_law_gain"))
  f_zip : mg "zip" = none
  d_is_play : ∃ fd, FunD K "is_play" "is_play" (defArgs s_is_play) (defBody s_is_play) (defScope s_is_play) [] [] (He.fAd K ("is_play", none)) fd
  g_is_play : mg "is_play" = some (.ref (He.ga K "is_play"))
  g_BadPlay : mg "BadPlay" = some (.ref (He.ga K "BadPlay"))
  x_BadPlay : PySem.W.excIn K (He.ga K "BadPlay") He.veBase "ValueError.__new__" = true ∧ PySem.W.keepIn K (.ref (He.ga K "BadPlay")) = true ∧ PySem.W.subIn K (.ref (He.ga K "BadPlay")) (.type "BaseException") = some true ∧ PySem.W.typeIn K (.ref (He.ga K "BadPlay")) = some (.type "type")
  d_place : ∃ fd, FunD K "place" "place" (defArgs s_place) (defBody s_place) (defScope s_place) [] [] (He.fAd K ("place", none)) fd
  g_place : mg "place" = some (.ref (He.ga K "place"))
  d_is_change : ∃ fd, FunD K "is_change" "is_change" (defArgs s_is_change) (defBody s_is_change) (defScope s_is_change) [] [] (He.fAd K ("is_change", none)) fd
  g_is_change : mg "is_change" = some (.ref (He.ga K "is_change"))
  f_reversed : mg "reversed" = none
  d_strides : ∃ fd, FunD K "strides" "strides" (defArgs s_strides) (defBody s_strides) (defScope s_strides) [] [] (He.fAd K ("strides", none)) fd
  g_strides : mg "strides" = some (.ref (He.ga K "strides"))
  d_gain : ∃ fd, FunD K "gain" "gain" (defArgs s_gain) (defBody s_gain) (defScope s_gain) [] [] (He.fAd K ("gain", none)) fd
  g_gain : mg "gain" = some (.ref (He.ga K "gain"))
  f_isinstance : mg "isinstance" = none
  f_bool : mg "bool" = none
  d_law_is_whole : ∃ fd, FunD K "_law_is_whole" "_law_is_whole" (defArgs s_law_is_whole) (defBody s_law_is_whole) (defScope s_law_is_whole) [] [] (He.fAd K ("_law_is_whole", none)) fd
  g__law_is_whole : mg "_law_is_whole" = some (.ref (He.ga K "_law_is_whole"))
  f_enumerate : mg "enumerate" = none
  d_arcs : ∃ fd, FunD K "arcs" "arcs" (defArgs s_arcs) (defBody s_arcs) (defScope s_arcs) [] [] (He.fAd K ("arcs", none)) fd
  g_arcs : mg "arcs" = some (.ref (He.ga K "arcs"))
  d_moves : ∃ fd, FunD K "moves" "moves" (defArgs s_moves) (defBody s_moves) (defScope s_moves) [] [] (He.fAd K ("moves", none)) fd
  g_moves : mg "moves" = some (.ref (He.ga K "moves"))
  d_law_is_list : ∃ fd, FunD K "_law_is_list" "_law_is_list" (defArgs s_law_is_list) (defBody s_law_is_list) (defScope s_law_is_list) [] [] (He.fAd K ("_law_is_list", none)) fd
  g__law_is_list : mg "_law_is_list" = some (.ref (He.ga K "_law_is_list"))
  d_law_moves : ∃ fd, FunD K "_law_moves" "_law_moves" (defArgs s_law_moves) (defBody s_law_moves) (defScope s_law_moves) [] [] (He.fAd K ("_law_moves", none)) fd
  g__law_moves : mg "_law_moves" = some (.ref (He.ga K "_law_moves"))
  d_slack : ∃ fd, FunD K "slack" "slack" (defArgs s_slack) (defBody s_slack) (defScope s_slack) [] [] (He.fAd K ("slack", none)) fd
  g_slack : mg "slack" = some (.ref (He.ga K "slack"))
  d_law_at_play : ∃ fd, FunD K "_law_at_play" "_law_at_play" (defArgs s_law_at_play) (defBody s_law_at_play) (defScope s_law_at_play) [] [] (He.fAd K ("_law_at_play", none)) fd
  g__law_at_play : mg "_law_at_play" = some (.ref (He.ga K "_law_at_play"))
  d_play_at : ∃ fd, FunD K "play_at" "play_at" (defArgs s_play_at) (defBody s_play_at) (defScope s_play_at) [] [] (He.fAd K ("play_at", none)) fd
  g_play_at : mg "play_at" = some (.ref (He.ga K "play_at"))
  d_rests : ∃ fd, FunD K "rests" "rests" (defArgs s_rests) (defBody s_rests) (defScope s_rests) [] [] (He.fAd K ("rests", none)) fd
  g_rests : mg "rests" = some (.ref (He.ga K "rests"))
  d_law_bad_play : ∃ fd, FunD K "_law_bad_play" "_law_bad_play" (defArgs s_law_bad_play) (defBody s_law_bad_play) (defScope s_law_bad_play) [] [] (He.fAd K ("_law_bad_play", none)) fd
  g__law_bad_play : mg "_law_bad_play" = some (.ref (He.ga K "_law_bad_play"))
  d_Game_pay : ∃ fd, FunD K "pay" "Game.pay" (defArgs s_Game_pay) (defBody s_Game_pay) (defScope s_Game_pay) [] [] (He.fAd K ("Game", some "pay")) fd
  m_Game_pay : Meth K (He.ga K "Game") "pay" (He.ma K (He.ga K "Game") "pay")
  g_Table : mg "Table" = some (.ref (He.ga K "Table"))
  c_Table : Cls K (He.ga K "Table")
  n_Table_sizes : NoAttr K (He.ga K "Table") "sizes"
  n_Table_numbers : NoAttr K (He.ga K "Table") "numbers"
  n_Table_over : NoAttr K (He.ga K "Table") "over"
  d_Table_init : ∃ fd, FunD K "__init__" "Table.__init__" (defArgs s_Table_init) (defBody s_Table_init) (defScope s_Table_init) [.int 1] [] (He.fAd K ("Table", some "__init__")) fd
  mk_Table : Mk K (He.ga K "Table") (He.ma K (He.ga K "Table") "__init__")
  d_Game_row : ∃ fd, FunD K "row" "Game.row" (defArgs s_Game_row) (defBody s_Game_row) (defScope s_Game_row) [] [] (He.fAd K ("Game", some "row")) fd
  m_Game_row : Meth K (He.ga K "Game") "row" (He.ma K (He.ga K "Game") "row")
  d_Table_at : ∃ fd, FunD K "at" "Table.at" (defArgs s_Table_at) (defBody s_Table_at) (defScope s_Table_at) [] [] (He.fAd K ("Table", some "at")) fd
  m_Table_at : Meth K (He.ga K "Table") "at" (He.ma K (He.ga K "Table") "at")
  d_Game_with_pay : ∃ fd, FunD K "with_pay" "Game.with_pay" (defArgs s_Game_with_pay) (defBody s_Game_with_pay) (defScope s_Game_with_pay) [.int 1] [] (He.fAd K ("Game", some "with_pay")) fd
  m_Game_with_pay : Meth K (He.ga K "Game") "with_pay" (He.ma K (He.ga K "Game") "with_pay")
  g_BadGame : mg "BadGame" = some (.ref (He.ga K "BadGame"))
  g_TooMany : mg "TooMany" = some (.ref (He.ga K "TooMany"))
  g_Fault : mg "Fault" = some (.ref (He.ga K "Fault"))
  e_BadPlay_Fault : PySem.W.exmOne K (.ref (He.ga K "BadPlay")) (.ref (He.ga K "Fault")) = some true
  d_law_refuses : ∃ fd, FunD K "_law_refuses" "_law_refuses" (defArgs s_law_refuses) (defBody s_law_refuses) (defScope s_law_refuses) [] [] (He.fAd K ("_law_refuses", none)) fd
  g__law_refuses : mg "_law_refuses" = some (.ref (He.ga K "_law_refuses"))
  d_law : ∃ fd, FunD K "law" "law" (defArgs s_law) (defBody s_law) (defScope s_law) [] [] (He.fAd K ("law", none)) fd
  g_law : mg "law" = some (.ref (He.ga K "law"))
  ec_BadPlay : ExcC K (He.ga K "BadPlay")
  ki_BadPlay_BadGame : PySem.W.kitOne K (.ref (He.ga K "BadPlay")) (.ref (He.ga K "BadGame")) = some false
  ki_BadPlay_BadPlay : PySem.W.kitOne K (.ref (He.ga K "BadPlay")) (.ref (He.ga K "BadPlay")) = some true
  ki_BadPlay_TooMany : PySem.W.kitOne K (.ref (He.ga K "BadPlay")) (.ref (He.ga K "TooMany")) = some false
def mt_Fault : Str → Option Bool := fun c => if c = "BadPlay" then some true else none
theorem mt_Fault_ok {P : Program} {w : World} {K : PySem.W.Frag} {mg : MG} {base : Heap} (G : Fx P w K mg base) : ∀ y C b, mt_Fault y = some b → mg y = some (.ref C) → PySem.W.exmOne K (.ref C) (.ref (He.ga K "Fault")) = some b := by
  intro y C b h hm
  unfold mt_Fault at h
  split at h
  · rename_i e; subst e; cases h; rw [G.g_BadPlay] at hm; cases hm; exact G.e_BadPlay_Fault
  cases h
def is_BadGame : Str → Option Bool := fun c => if c = "BadPlay" then some false else none
theorem is_BadGame_ok {P : Program} {w : World} {K : PySem.W.Frag} {mg : MG} {base : Heap} (G : Fx P w K mg base) : ∀ y C b, is_BadGame y = some b → mg y = some (.ref C) → ExcC K C ∧ PySem.W.kitOne K (.ref C) (.ref (He.ga K "BadGame")) = some b := by
  intro y C b h hm
  unfold is_BadGame at h
  split at h
  · rename_i e; subst e; cases h; rw [G.g_BadPlay] at hm; cases hm; exact ⟨G.ec_BadPlay, G.ki_BadPlay_BadGame⟩
  cases h
def is_BadPlay : Str → Option Bool := fun c => if c = "BadPlay" then some true else none
theorem is_BadPlay_ok {P : Program} {w : World} {K : PySem.W.Frag} {mg : MG} {base : Heap} (G : Fx P w K mg base) : ∀ y C b, is_BadPlay y = some b → mg y = some (.ref C) → ExcC K C ∧ PySem.W.kitOne K (.ref C) (.ref (He.ga K "BadPlay")) = some b := by
  intro y C b h hm
  unfold is_BadPlay at h
  split at h
  · rename_i e; subst e; cases h; rw [G.g_BadPlay] at hm; cases hm; exact ⟨G.ec_BadPlay, G.ki_BadPlay_BadPlay⟩
  cases h
def is_TooMany : Str → Option Bool := fun c => if c = "BadPlay" then some false else none
theorem is_TooMany_ok {P : Program} {w : World} {K : PySem.W.Frag} {mg : MG} {base : Heap} (G : Fx P w K mg base) : ∀ y C b, is_TooMany y = some b → mg y = some (.ref C) → ExcC K C ∧ PySem.W.kitOne K (.ref C) (.ref (He.ga K "TooMany")) = some b := by
  intro y C b h hm
  unfold is_TooMany at h
  split at h
  · rename_i e; subst e; cases h; rw [G.g_BadPlay] at hm; cases hm; exact ⟨G.ec_BadPlay, G.ki_BadPlay_TooMany⟩
  cases h
abbrev N_law_mix : List Str := ["cell", "k", "first", "second"]
theorem sc_law_mix : FnScope N_law_mix ["cell", "k"] (defScope s_law_mix) := ⟨rfl, rfl, rfl, by decide +kernel, rfl, by decide +kernel, by decide +kernel⟩
def b_law_mix : VS := (seqS (setS 2 (bin2 modV (callN intV (aCons (bin2 addV (bin2 addV (bin2 mulV (rd 0) (cst (.int 48271))) (bin2 mulV (rd 1) (cst (.int 69621)))) (cst (.int 7919))) aNil)) (cst (.int 2147483647))))
    (seqS (setS 3 (bin2 modV (callN intV (aCons (bin2 addV (bin2 addV (bin2 mulV (rd 2) (cst (.int 40692))) (bin2 mulV (rd 1) (cst (.int 52774)))) (bin2 fdivV (rd 2) (cst (.int 977)))) aNil)) (cst (.int 2147483399))))
    (retS (bin2 modV (callN intV (aCons (bin2 addV (bin2 mulV (rd 3) (cst (.int 39373))) (bin2 fdivV (rd 3) (cst (.int 1013)))) aNil)) (cst (.int 2147483647))))))
def f_law_mix : Fn := runFn 4 b_law_mix
theorem ok_law_mix {P : Program} {w : World} {K : PySem.W.Frag} {mg : MG} {base : Heap} {fd : FuncData} (G : Fx P w K mg base) (F : FunD K "_law_mix" "_law_mix" (defArgs s_law_mix) (defBody s_law_mix) (defScope s_law_mix) [] [] (He.fAd K ("_law_mix", none)) fd) : FnOk P w K mg base (L2.CX P w) 1 (He.fAd K ("_law_mix", none)) fd ["cell", "k"] (spV K mg 2 f_law_mix) :=
  fn_okC (N := N_law_mix) F sc_law_mix fun cdv A outer s H E B hr =>
    (b_cons (sset 2 sc_law_mix.nd (xmod (xint G.f_int (a_cons (xadd (xadd (xmul (xv 0) e_int) (xmul (xv 1) e_int)) e_int) a_nil)) e_int))
    (b_cons (sset 3 sc_law_mix.nd (xmod (xint G.f_int (a_cons (xadd (xadd (xmul (xv 2) e_int) (xmul (xv 1) e_int)) (xdiv (xv 2) e_int)) a_nil)) e_int))
    (b_one (s_ret (xmod (xint G.f_int (a_cons (xadd (xmul (xv 3) e_int) (xdiv (xv 3) e_int)) a_nil)) e_int)))))
theorem dv_law_mix_2 {P : Program} {w : World} {K : PySem.W.Frag} {mg : MG} {base : Heap} (G : Fx P w K mg base) : DefV P w K mg base "_law_mix" 1 ["cell", "k"] f_law_mix [] := by
  obtain ⟨fd, F⟩ := G.d_law_mix
  have bd := (F.bindsN (ps := ["cell", "k"]) fun _ _ _ _ _ _ us hl => match us, hl with | [_, _], _ => rfl)
  exact ⟨⟨_, fd, [], [], ok_law_mix G F, G.g__law_mix, F.kp, bd, .nil, fun _ => rfl⟩⟩
abbrev N_law_row : List Str := ["cell", "count", "limit", "row", "left", "k"]
theorem sc_law_row : FnScope N_law_row ["cell", "count", "limit"] (defScope s_law_row) := ⟨rfl, rfl, rfl, by decide +kernel, rfl, by decide +kernel, by decide +kernel⟩
def b_law_row : VS := (seqS (setS 3 (nilD 0))
    (seqS (setS 4 (callN absV' (aCons (rd 0) aNil)))
    (seqS (forS (walkR1 (rd 1)) (asg 5)
    (ifS (andT (boolOf (bin2 geV (callN absV' (aCons (rd 0) aNil)) (bin2 powV (cst (.int 10)) (cst (.int 18))))) (boolOf (bin2 gtV (rd 4) (cst (.int 0)))))
    (seqS (apS 3 (pthN 3) (bin2 modV (callN intV (aCons (rd 4) aNil)) (rd 2)))
    (setS 4 (bin2 fdivV (rd 4) (rd 2))))
    (apS 3 (pthN 3) (bin2 modV (callN intV (aCons (callF f_law_mix [] (aCons (rd 0) (aCons (rd 5) aNil))) aNil)) (rd 2)))))
    (retOwn 3))))
def f_law_row : Fn := runFn 6 b_law_row
theorem ok_law_row {P : Program} {w : World} {K : PySem.W.Frag} {mg : MG} {base : Heap} {fd : FuncData} (G : Fx P w K mg base) (F : FunD K "_law_row" "_law_row" (defArgs s_law_row) (defBody s_law_row) (defScope s_law_row) [] [] (He.fAd K ("_law_row", none)) fd) : FnOk P w K mg base (L2.CX P w) 2 (He.fAd K ("_law_row", none)) fd ["cell", "count", "limit"] (spV K mg 3 f_law_row) :=
  fn_okC (N := N_law_row) F sc_law_row fun cdv A outer s H E B hr =>
    (b_cons (sset 3 sc_law_row.nd (e_nil (d := 0)))
    (b_cons (sset 4 sc_law_row.nd (xabs G.f_abs (a_cons (xv 0) a_nil)))
    (b_cons (s_for (L2.passes_of rfl) rfl (i_range1 (by rfl) G.f_range (xv 1)) (gname 5 sc_law_row.nd)
    (b_one (s_if (w_and (tge (xabs G.f_abs (a_cons (xv 0) a_nil)) (xpow e_int e_int)) (w_and1 (tgt (xv 4) e_int))).tv
    (b_cons (s_app (lname 3) (xmod (xint G.f_int (a_cons (xv 4) a_nil)) (xv 2)))
    (b_one (sset 4 sc_law_row.nd (xdiv (xv 4) (xv 2)))))
    (b_one (s_app (lname 3) (xmod (xint G.f_int (a_cons (cv (dv_law_mix_2 G) (L2.takes_of rfl rfl rfl rfl) hr (by decide) (a_cons (xv 0) (a_cons (xv 5) a_nil)) (lenC (len_cons (len_cons len_nil)) rfl)) a_nil)) (xv 2)))))))
    (b_one (sretOwn 3)))))
theorem dv_law_row_3 {P : Program} {w : World} {K : PySem.W.Frag} {mg : MG} {base : Heap} (G : Fx P w K mg base) : DefV P w K mg base "_law_row" 2 ["cell", "count", "limit"] f_law_row [] := by
  obtain ⟨fd, F⟩ := G.d_law_row
  have bd := (F.bindsN (ps := ["cell", "count", "limit"]) fun _ _ _ _ _ _ us hl => match us, hl with | [_, _, _], _ => rfl)
  exact ⟨⟨_, fd, [], [], ok_law_row G F, G.g__law_row, F.kp, bd, .nil, fun _ => rfl⟩⟩
abbrev N_law_sizes : List Str := ["cell", "row", "people", "most", "sizes", "count", "k", "size"]
theorem sc_law_sizes : FnScope N_law_sizes ["cell"] (defScope s_law_sizes) := ⟨rfl, rfl, rfl, by decide +kernel, rfl, by decide +kernel, by decide +kernel⟩
def b_law_sizes : VS := (seqS (setS 1 (callF f_law_row [] (aCons (rd 0) (aCons (cst (.int 6)) (aCons (cst (.int 60)) aNil)))))
    (seqS (setS 2 (bin2 addV (cst (.int 1)) (bin2 modV (callN intV (aCons (bin2 addV (bin2 ixV (rd 1) (cst (.int 0))) (cst (.int 1))) aNil)) (cst (.int 4)))))
    (seqS (setS 3 (cst (.int 12)))
    (seqS (ifS (boolOf (bin2 ltV (bin2 ixV (rd 1) (cst (.int 1))) (cst (.int 8))))
    (setS 3 (cst (.int 120)))
    nilS)
    (seqS (setS 4 (nilD 0))
    (seqS (setS 5 (cst (.int 1)))
    (seqS (forS (walkR1 (rd 2)) (asg 6)
    (seqS (setS 7 (bin2 addV (cst (.int 1)) (bin2 modV (callN intV (aCons (bin2 ixV (rd 1) (bin2 addV (cst (.int 2)) (rd 6))) aNil)) (cst (.int 5)))))
    (seqS (ifS (boolOf (bin2 gtV (bin2 mulV (rd 5) (rd 7)) (rd 3)))
    (setS 7 (callN maxV (aCons (cst (.int 1)) (aCons (bin2 fdivV (rd 3) (rd 5)) aNil))))
    nilS)
    (seqS (setS 5 (bin2 mulV (rd 5) (rd 7)))
    (apS 4 (pthN 4) (rd 7))))))
    (retOwn 4))))))))
def f_law_sizes : Fn := runFn 8 b_law_sizes
theorem ok_law_sizes {P : Program} {w : World} {K : PySem.W.Frag} {mg : MG} {base : Heap} {fd : FuncData} (G : Fx P w K mg base) (F : FunD K "_law_sizes" "_law_sizes" (defArgs s_law_sizes) (defBody s_law_sizes) (defScope s_law_sizes) [] [] (He.fAd K ("_law_sizes", none)) fd) : FnOk P w K mg base (L2.CX P w) 3 (He.fAd K ("_law_sizes", none)) fd ["cell"] (spV K mg 1 f_law_sizes) :=
  fn_okC (N := N_law_sizes) F sc_law_sizes fun cdv A outer s H E B hr =>
    (b_cons (sset 1 sc_law_sizes.nd (cv (dv_law_row_3 G) (L2.takes_of rfl rfl rfl rfl) hr (by decide) (a_cons (xv 0) (a_cons e_int (a_cons e_int a_nil))) (lenC (len_cons (len_cons (len_cons len_nil))) rfl)))
    (b_cons (sset 2 sc_law_sizes.nd (xadd e_int (xmod (xint G.f_int (a_cons (xadd (xix (xv 1) e_int) e_int) a_nil)) e_int)))
    (b_cons (sset 3 sc_law_sizes.nd e_int)
    (b_cons (s_if (tlt (xix (xv 1) e_int) e_int)
    (b_one (sset 3 sc_law_sizes.nd e_int))
    b_nil)
    (b_cons (sset 4 sc_law_sizes.nd (e_nil (d := 0)))
    (b_cons (sset 5 sc_law_sizes.nd e_int)
    (b_cons (s_for (L2.passes_of rfl) rfl (i_range1 (by rfl) G.f_range (xv 2)) (gname 6 sc_law_sizes.nd)
    (b_cons (sset 7 sc_law_sizes.nd (xadd e_int (xmod (xint G.f_int (a_cons (xix (xv 1) (xadd e_int (xv 6))) a_nil)) e_int)))
    (b_cons (s_if (tgt (xmul (xv 5) (xv 7)) (xv 3))
    (b_one (sset 7 sc_law_sizes.nd (xmax rfl hr G.f_max (a_cons e_int (a_cons (xdiv (xv 3) (xv 5)) a_nil)))))
    b_nil)
    (b_cons (sset 5 sc_law_sizes.nd (xmul (xv 5) (xv 7)))
    (b_one (s_app (lname 4) (xv 7)))))))
    (b_one (sretOwn 4)))))))))
theorem dv_law_sizes_1 {P : Program} {w : World} {K : PySem.W.Frag} {mg : MG} {base : Heap} (G : Fx P w K mg base) : DefV P w K mg base "_law_sizes" 3 ["cell"] f_law_sizes [] := by
  obtain ⟨fd, F⟩ := G.d_law_sizes
  have bd := (F.bindsN (ps := ["cell"]) fun _ _ _ _ _ _ us hl => match us, hl with | [_], _ => rfl)
  exact ⟨⟨_, fd, [], [], ok_law_sizes G F, G.g__law_sizes, F.kp, bd, .nil, fun _ => rfl⟩⟩
abbrev N_law_cell : List Str := ["script", "k"]
theorem sc_law_cell : FnScope N_law_cell ["script", "k"] (defScope s_law_cell) := ⟨rfl, rfl, rfl, by decide +kernel, rfl, by decide +kernel, by decide +kernel⟩
def b_law_cell : VS := (seqS (ifS (boolOf (bin2 ltV (rd 1) (callN lenV (aCons (rd 0) aNil))))
    (retS (bin2 ixV (rd 0) (rd 1)))
    nilS)
    (retS (cst (.int 0))))
def f_law_cell : Fn := runFn 2 b_law_cell
theorem ok_law_cell {P : Program} {w : World} {K : PySem.W.Frag} {mg : MG} {base : Heap} {fd : FuncData} (G : Fx P w K mg base) (F : FunD K "_law_cell" "_law_cell" (defArgs s_law_cell) (defBody s_law_cell) (defScope s_law_cell) [] [] (He.fAd K ("_law_cell", none)) fd) : FnOk P w K mg base (L2.CX P w) 1 (He.fAd K ("_law_cell", none)) fd ["script", "k"] (spV K mg 2 f_law_cell) :=
  fn_okC (N := N_law_cell) F sc_law_cell fun cdv A outer s H E B hr =>
    (b_cons (s_if (tlt (xv 1) (xlen G.f_len (a_cons (xv 0) a_nil)))
    (b_one (s_ret (xix (xv 0) (xv 1))))
    b_nil)
    (b_one (s_ret e_int)))
theorem dv_law_cell_2 {P : Program} {w : World} {K : PySem.W.Frag} {mg : MG} {base : Heap} (G : Fx P w K mg base) : DefV P w K mg base "_law_cell" 1 ["script", "k"] f_law_cell [] := by
  obtain ⟨fd, F⟩ := G.d_law_cell
  have bd := (F.bindsN (ps := ["script", "k"]) fun _ _ _ _ _ _ us hl => match us, hl with | [_, _], _ => rfl)
  exact ⟨⟨_, fd, [], [], ok_law_cell G F, G.g__law_cell, F.kp, bd, .nil, fun _ => rfl⟩⟩
abbrev N_law_count : List Str := ["sizes", "count", "size"]
theorem sc_law_count : FnScope N_law_count ["sizes"] (defScope s_law_count) := ⟨rfl, rfl, rfl, by decide +kernel, rfl, by decide +kernel, by decide +kernel⟩
def b_law_count : VS := (seqS (setS 1 (cst (.int 1)))
    (seqS (forS (walkOf (rd 0)) (asg 2)
    (setS 1 (bin2 mulV (rd 1) (rd 2))))
    (retOwn 1)))
def f_law_count : Fn := runFn 3 b_law_count
theorem ok_law_count {P : Program} {w : World} {K : PySem.W.Frag} {mg : MG} {base : Heap} {fd : FuncData} (G : Fx P w K mg base) (F : FunD K "_law_count" "_law_count" (defArgs s_law_count) (defBody s_law_count) (defScope s_law_count) [] [] (He.fAd K ("_law_count", none)) fd) : FnOk P w K mg base (L2.CX P w) 1 (He.fAd K ("_law_count", none)) fd ["sizes"] (spV K mg 1 f_law_count) :=
  fn_okC (N := N_law_count) F sc_law_count fun cdv A outer s H E B hr =>
    (b_cons (sset 1 sc_law_count.nd e_int)
    (b_cons (s_for (L2.passes_of rfl) rfl (i_seq (xv 0)) (gname 2 sc_law_count.nd)
    (b_one (sset 1 sc_law_count.nd (xmul (xv 1) (xv 2)))))
    (b_one (sretOwn 1))))
theorem dv_law_count_1 {P : Program} {w : World} {K : PySem.W.Frag} {mg : MG} {base : Heap} (G : Fx P w K mg base) : DefV P w K mg base "_law_count" 1 ["sizes"] f_law_count [] := by
  obtain ⟨fd, F⟩ := G.d_law_count
  have bd := (F.bindsN (ps := ["sizes"]) fun _ _ _ _ _ _ us hl => match us, hl with | [_], _ => rfl)
  exact ⟨⟨_, fd, [], [], ok_law_count G F, G.g__law_count, F.kp, bd, .nil, fun _ => rfl⟩⟩
abbrev N_law_plays : List Str := ["sizes", "found", "size", "longer", "play", "choice"]
theorem sc_law_plays : FnScope N_law_plays ["sizes"] (defScope s_law_plays) := ⟨rfl, rfl, rfl, by decide +kernel, rfl, by decide +kernel, by decide +kernel⟩
def b_law_plays : VS := (seqS (setS 1 (lstD (aCons (tupD aNil) aNil)))
    (seqS (forS (walkOf (rd 0)) (asg 2)
    (seqS (setS 3 (nilD 0))
    (seqS (frS 1 (forS (walkOf (callN listV (aCons (rd 1) aNil))) (asg 4)
    (forS (walkR1 (rd 2)) (asg 5)
    (apS 3 (pthN 3) (bin2 addV (rd 4) (tupD (aCons (rd 5) aNil)))))))
    (frS 3 (setS 1 (rd 3))))))
    (retOwn 1)))
def f_law_plays : Fn := runFn 6 b_law_plays
theorem ok_law_plays {P : Program} {w : World} {K : PySem.W.Frag} {mg : MG} {base : Heap} {fd : FuncData} (G : Fx P w K mg base) (F : FunD K "_law_plays" "_law_plays" (defArgs s_law_plays) (defBody s_law_plays) (defScope s_law_plays) [] [] (He.fAd K ("_law_plays", none)) fd) : FnOk P w K mg base (L2.CX P w) 1 (He.fAd K ("_law_plays", none)) fd ["sizes"] (spV K mg 1 f_law_plays) :=
  fn_okC (N := N_law_plays) F sc_law_plays fun cdv A outer s H E B hr =>
    (b_cons (sset 1 sc_law_plays.nd (e_lst (a_cons (e_tup a_nil) a_nil)))
    (b_cons (s_for (L2.passes_of rfl) rfl (i_seq (xv 0)) (gname 2 sc_law_plays.nd)
    (b_cons (sset 3 sc_law_plays.nd (e_nil (d := 0)))
    (b_cons (SV.fr (s_for (L2.passes_of rfl) rfl (i_seq (xlist G.f_list (a_cons (xv 1) a_nil))) (gname 4 sc_law_plays.nd)
    (b_one (s_for (L2.passes_of rfl) rfl (i_range1 (by rfl) G.f_range (xv 2)) (gname 5 sc_law_plays.nd)
    (b_one (s_app (lname 3) (xadd (xv 4) (e_tup (a_cons (xv 5) a_nil)))))))) 1)
    (b_one (SV.fr (sset 1 sc_law_plays.nd (xv 3)) 3)))))
    (b_one (sretOwn 1))))
theorem dv_law_plays_1 {P : Program} {w : World} {K : PySem.W.Frag} {mg : MG} {base : Heap} (G : Fx P w K mg base) : DefV P w K mg base "_law_plays" 1 ["sizes"] f_law_plays [] := by
  obtain ⟨fd, F⟩ := G.d_law_plays
  have bd := (F.bindsN (ps := ["sizes"]) fun _ _ _ _ _ _ us hl => match us, hl with | [_], _ => rfl)
  exact ⟨⟨_, fd, [], [], ok_law_plays G F, G.g__law_plays, F.kp, bd, .nil, fun _ => rfl⟩⟩
abbrev N_law_pays : List Str := ["cell", "count", "kind", "row", "number"]
theorem sc_law_pays : FnScope N_law_pays ["cell", "count"] (defScope s_law_pays) := ⟨rfl, rfl, rfl, by decide +kernel, rfl, by decide +kernel, by decide +kernel⟩
def b_law_pays : VS := (seqS (setS 2 (bin2 modV (callN intV (aCons (callF f_law_mix [] (aCons (rd 0) (aCons (cst (.int 91)) aNil))) aNil)) (cst (.int 5))))
    (seqS (setS 3 (callF f_law_row [] (aCons (rd 0) (aCons (rd 1) (aCons (cst (.int 100003)) aNil)))))
    (seqS (ifS (boolOf (bin2 eqV (rd 2) (cst (.int 0))))
    (frS 3 (retS (lcV 0 (walkOf (rd 3)) (asg 4) yesT (bin2 subV (bin2 modV (callN intV (aCons (rd 4) aNil)) (cst (.int 5))) (cst (.int 2))) [4])))
    nilS)
    (seqS (ifS (boolOf (bin2 eqV (rd 2) (cst (.int 1))))
    (frS 3 (retS (lcV 0 (walkOf (rd 3)) (asg 4) yesT (bin2 subV (bin2 modV (callN intV (aCons (rd 4) aNil)) (cst (.int 41))) (cst (.int 20))) [4])))
    nilS)
    (seqS (ifS (boolOf (bin2 eqV (rd 2) (cst (.int 2))))
    (frS 3 (retS (lcV 0 (walkOf (rd 3)) (asg 4) yesT (bin2 subV (rd 4) (cst (.int 50001))) [4])))
    nilS)
    (seqS (ifS (boolOf (bin2 eqV (rd 2) (cst (.int 3))))
    (frS 3 (retS (lcV 0 (walkOf (rd 3)) (asg 4) yesT (bin2 addV (bin2 mulV (bin2 subV (rd 4) (cst (.int 50001))) (bin2 powV (cst (.int 10)) (cst (.int 24)))) (rd 4)) [4])))
    nilS)
    (frS 3 (retS (lcV 0 (walkOf (rd 3)) (asg 4) yesT (bin2 mulV (bin2 subV (bin2 modV (callN intV (aCons (rd 4) aNil)) (cst (.int 15))) (cst (.int 7))) (cst (.int 60))) [4])))))))))
def f_law_pays : Fn := runFn 5 b_law_pays
theorem ok_law_pays {P : Program} {w : World} {K : PySem.W.Frag} {mg : MG} {base : Heap} {fd : FuncData} (G : Fx P w K mg base) (F : FunD K "_law_pays" "_law_pays" (defArgs s_law_pays) (defBody s_law_pays) (defScope s_law_pays) [] [] (He.fAd K ("_law_pays", none)) fd) : FnOk P w K mg base (L2.CX P w) 3 (He.fAd K ("_law_pays", none)) fd ["cell", "count"] (spV K mg 2 f_law_pays) :=
  fn_okC (N := N_law_pays) F sc_law_pays fun cdv A outer s H E B hr =>
    (b_cons (sset 2 sc_law_pays.nd (xmod (xint G.f_int (a_cons (cv (dv_law_mix_2 G) (L2.takes_of rfl rfl rfl rfl) hr (by decide) (a_cons (xv 0) (a_cons e_int a_nil)) (lenC (len_cons (len_cons len_nil)) rfl)) a_nil)) e_int))
    (b_cons (sset 3 sc_law_pays.nd (cv (dv_law_row_3 G) (L2.takes_of rfl rfl rfl rfl) hr (by decide) (a_cons (xv 0) (a_cons (xv 1) (a_cons e_int a_nil))) (lenC (len_cons (len_cons (len_cons len_nil))) rfl)))
    (b_cons (s_if (teq hr (xv 2) e_int)
    (b_one (SV.fr (s_ret (e_lc (d := 0) (own := [("number", 4)]) rfl sc_law_pays.nd (i_seq (xv 3)) (blkOk_by (by rfl)) (by decide) (fun _ _ _ _ _ => (gname 4 sc_law_pays.nd)) (fun _ _ _ _ _ => ts_nil) (fun _ _ _ _ _ => (xsub (xmod (xint G.f_int (a_cons (xv 4) a_nil)) e_int) e_int)))) 3))
    b_nil)
    (b_cons (s_if (teq hr (xv 2) e_int)
    (b_one (SV.fr (s_ret (e_lc (d := 0) (own := [("number", 4)]) rfl sc_law_pays.nd (i_seq (xv 3)) (blkOk_by (by rfl)) (by decide) (fun _ _ _ _ _ => (gname 4 sc_law_pays.nd)) (fun _ _ _ _ _ => ts_nil) (fun _ _ _ _ _ => (xsub (xmod (xint G.f_int (a_cons (xv 4) a_nil)) e_int) e_int)))) 3))
    b_nil)
    (b_cons (s_if (teq hr (xv 2) e_int)
    (b_one (SV.fr (s_ret (e_lc (d := 0) (own := [("number", 4)]) rfl sc_law_pays.nd (i_seq (xv 3)) (blkOk_by (by rfl)) (by decide) (fun _ _ _ _ _ => (gname 4 sc_law_pays.nd)) (fun _ _ _ _ _ => ts_nil) (fun _ _ _ _ _ => (xsub (xv 4) e_int)))) 3))
    b_nil)
    (b_cons (s_if (teq hr (xv 2) e_int)
    (b_one (SV.fr (s_ret (e_lc (d := 0) (own := [("number", 4)]) rfl sc_law_pays.nd (i_seq (xv 3)) (blkOk_by (by rfl)) (by decide) (fun _ _ _ _ _ => (gname 4 sc_law_pays.nd)) (fun _ _ _ _ _ => ts_nil) (fun _ _ _ _ _ => (xadd (xmul (xsub (xv 4) e_int) (xpow e_int e_int)) (xv 4))))) 3))
    b_nil)
    (b_one (SV.fr (s_ret (e_lc (d := 0) (own := [("number", 4)]) rfl sc_law_pays.nd (i_seq (xv 3)) (blkOk_by (by rfl)) (by decide) (fun _ _ _ _ _ => (gname 4 sc_law_pays.nd)) (fun _ _ _ _ _ => ts_nil) (fun _ _ _ _ _ => (xmul (xsub (xmod (xint G.f_int (a_cons (xv 4) a_nil)) e_int) e_int) e_int)))) 3))))))))
theorem dv_law_pays_2 {P : Program} {w : World} {K : PySem.W.Frag} {mg : MG} {base : Heap} (G : Fx P w K mg base) : DefV P w K mg base "_law_pays" 3 ["cell", "count"] f_law_pays [] := by
  obtain ⟨fd, F⟩ := G.d_law_pays
  have bd := (F.bindsN (ps := ["cell", "count"]) fun _ _ _ _ _ _ us hl => match us, hl with | [_, _], _ => rfl)
  exact ⟨⟨_, fd, [], [], ok_law_pays G F, G.g__law_pays, F.kp, bd, .nil, fun _ => rfl⟩⟩
theorem cls_Game {P : Program} {w : World} {K : PySem.W.Frag} {mg : MG} {base : Heap} (G : Fx P w K mg base) : ClsF K mg "Game" (He.ga K "Game") ["sizes", "pays", "over"] := ⟨G.g_Game, G.c_Game, fun f h => by
  simp only [List.mem_cons, List.not_mem_nil, or_false] at h
  rcases h with rfl | rfl | rfl
  · exact G.n_Game_sizes
  · exact G.n_Game_pays
  · exact G.n_Game_over⟩
theorem fld_Game_sizes {P : Program} {w : World} {K : PySem.W.Frag} {mg : MG} {base : Heap} (G : Fx P w K mg base) : FldV K mg "Game" "sizes" := ⟨_, _, cls_Game G, by simp⟩
theorem fld_Game_pays {P : Program} {w : World} {K : PySem.W.Frag} {mg : MG} {base : Heap} (G : Fx P w K mg base) : FldV K mg "Game" "pays" := ⟨_, _, cls_Game G, by simp⟩
theorem fld_Game_over {P : Program} {w : World} {K : PySem.W.Frag} {mg : MG} {base : Heap} (G : Fx P w K mg base) : FldV K mg "Game" "over" := ⟨_, _, cls_Game G, by simp⟩
abbrev N_count_plays : List Str := ["sizes", "count", "size"]
theorem sc_count_plays : FnScope N_count_plays ["sizes"] (defScope s_count_plays) := ⟨rfl, rfl, rfl, by decide +kernel, rfl, by decide +kernel, by decide +kernel⟩
def b_count_plays : VS := (seqS (setS 1 (cst (.int 1)))
    (seqS (forS (walkOf (rd 0)) (asg 2)
    (setS 1 (bin2 mulV (rd 1) (rd 2))))
    (retOwn 1)))
def f_count_plays : Fn := runFn 3 b_count_plays
theorem ok_count_plays {P : Program} {w : World} {K : PySem.W.Frag} {mg : MG} {base : Heap} {fd : FuncData} (G : Fx P w K mg base) (F : FunD K "count_plays" "count_plays" (defArgs s_count_plays) (defBody s_count_plays) (defScope s_count_plays) [] [] (He.fAd K ("count_plays", none)) fd) : FnOk P w K mg base (L2.CX P w) 1 (He.fAd K ("count_plays", none)) fd ["sizes"] (spV K mg 1 f_count_plays) :=
  fn_okC (N := N_count_plays) F sc_count_plays fun cdv A outer s H E B hr =>
    (b_cons (sset 1 sc_count_plays.nd e_int)
    (b_cons (s_for (L2.passes_of rfl) rfl (i_seq (xv 0)) (gname 2 sc_count_plays.nd)
    (b_one (sset 1 sc_count_plays.nd (xmul (xv 1) (xv 2)))))
    (b_one (sretOwn 1))))
theorem dv_count_plays_1 {P : Program} {w : World} {K : PySem.W.Frag} {mg : MG} {base : Heap} (G : Fx P w K mg base) : DefV P w K mg base "count_plays" 1 ["sizes"] f_count_plays [] := by
  obtain ⟨fd, F⟩ := G.d_count_plays
  have bd := (F.bindsN (ps := ["sizes"]) fun _ _ _ _ _ _ us hl => match us, hl with | [_], _ => rfl)
  exact ⟨⟨_, fd, [], [], ok_count_plays G F, G.g_count_plays, F.kp, bd, .nil, fun _ => rfl⟩⟩
abbrev N_check_sizes : List Str := ["sizes"]
theorem sc_check_sizes : FnScope N_check_sizes ["sizes"] (defScope s_check_sizes) := ⟨rfl, rfl, rfl, by decide +kernel, rfl, by decide +kernel, by decide +kernel⟩
def b_check_sizes : VS := (seqS (ifS (orT (boolOf (bin2 eqV (callN lenV (aCons (rd 0) aNil)) (cst (.int 0)))) (boolOf (bin2 ltV (callN minV (aCons (rd 0) aNil)) (cst (.int 1)))))
    badS
    nilS)
    (seqS (ifS (boolOf (bin2 gtV (callN lenV (aCons (rd 0) aNil)) (cst (.int 4))))
    badS
    nilS)
    (seqS (ifS (boolOf (bin2 gtV (callN maxV (aCons (rd 0) aNil)) (cst (.int 5))))
    badS
    nilS)
    (seqS (ifS (boolOf (bin2 gtV (callF f_count_plays [] (aCons (rd 0) aNil)) (cst (.int 120))))
    badS
    nilS)
    (retS (callN tupleV (aCons (rd 0) aNil)))))))
def f_check_sizes : Fn := runFn 1 b_check_sizes
theorem ok_check_sizes {P : Program} {w : World} {K : PySem.W.Frag} {mg : MG} {base : Heap} {fd : FuncData} (G : Fx P w K mg base) (F : FunD K "check_sizes" "check_sizes" (defArgs s_check_sizes) (defBody s_check_sizes) (defScope s_check_sizes) [] [] (He.fAd K ("check_sizes", none)) fd) : FnOk P w K mg base (L2.CX P w) 2 (He.fAd K ("check_sizes", none)) fd ["sizes"] (spV K mg 1 f_check_sizes) :=
  fn_okC (N := N_check_sizes) F sc_check_sizes fun cdv A outer s H E B hr =>
    (b_cons (s_if (w_or (teq hr (xlen G.f_len (a_cons (xv 0) a_nil)) e_int) (w_or1 (tlt (xmin rfl hr G.f_min (a_cons (xv 0) a_nil)) e_int))).tv
    (b_one s_never)
    b_nil)
    (b_cons (s_if (tgt (xlen G.f_len (a_cons (xv 0) a_nil)) (xgi G.i_MOST_PEOPLE))
    (b_one s_never)
    b_nil)
    (b_cons (s_if (tgt (xmax rfl hr G.f_max (a_cons (xv 0) a_nil)) (xgi G.i_MOST_CHOICES))
    (b_one s_never)
    b_nil)
    (b_cons (s_if (tgt (cv (dv_count_plays_1 G) (L2.takes_of rfl rfl rfl rfl) hr (by decide) (a_cons (xv 0) a_nil) (lenC (len_cons len_nil) rfl)) (xgi G.i_MOST_PLAYS))
    (b_one s_never)
    b_nil)
    (b_one (s_ret (xtuple G.f_tuple (a_cons (xv 0) a_nil))))))))
theorem dv_check_sizes_1 {P : Program} {w : World} {K : PySem.W.Frag} {mg : MG} {base : Heap} (G : Fx P w K mg base) : DefV P w K mg base "check_sizes" 2 ["sizes"] f_check_sizes [] := by
  obtain ⟨fd, F⟩ := G.d_check_sizes
  have bd := (F.bindsN (ps := ["sizes"]) fun _ _ _ _ _ _ us hl => match us, hl with | [_], _ => rfl)
  exact ⟨⟨_, fd, [], [], ok_check_sizes G F, G.g_check_sizes, F.kp, bd, .nil, fun _ => rfl⟩⟩
abbrev N_divisor : List Str := ["row", "common", "number"]
theorem sc_divisor : FnScope N_divisor ["row", "common"] (defScope s_divisor) := ⟨rfl, rfl, rfl, by decide +kernel, rfl, by decide +kernel, by decide +kernel⟩
def b_divisor : VS := (seqS (forS (walkOf (rd 0)) (asg 2)
    (setS 1 (callN gcdV (aCons (rd 1) (aCons (rd 2) aNil)))))
    (retOwn 1))
def f_divisor : Fn := runFn 3 b_divisor
theorem ok_divisor {P : Program} {w : World} {K : PySem.W.Frag} {mg : MG} {base : Heap} {fd : FuncData} (G : Fx P w K mg base) (F : FunD K "divisor" "divisor" (defArgs s_divisor) (defBody s_divisor) (defScope s_divisor) [] [] (He.fAd K ("divisor", none)) fd) : FnOk P w K mg base (L2.CX P w) 1 (He.fAd K ("divisor", none)) fd ["row", "common"] (spV K mg 2 f_divisor) :=
  fn_okC (N := N_divisor) F sc_divisor fun cdv A outer s H E B hr =>
    (b_cons (s_for (L2.passes_of rfl) rfl (i_seq (xv 0)) (gname 2 sc_divisor.nd)
    (b_one (sset 1 sc_divisor.nd (xgcd G.gcd (a_cons (xv 1) (a_cons (xv 2) a_nil))))))
    (b_one (sretOwn 1)))
theorem dv_divisor_2 {P : Program} {w : World} {K : PySem.W.Frag} {mg : MG} {base : Heap} (G : Fx P w K mg base) : DefV P w K mg base "divisor" 1 ["row", "common"] f_divisor [] := by
  obtain ⟨fd, F⟩ := G.d_divisor
  have bd := (F.bindsN (ps := ["row", "common"]) fun _ _ _ _ _ _ us hl => match us, hl with | [_, _], _ => rfl)
  exact ⟨⟨_, fd, [], [], ok_divisor G F, G.g_divisor, F.kp, bd, .nil, fun _ => rfl⟩⟩
abbrev N_Game_init : List Str := ["self", "sizes", "pays", "over", "count", "common", "row", "pay"]
theorem sc_Game_init : FnScope N_Game_init ["self", "sizes", "pays", "over"] (defScope s_Game_init) := ⟨rfl, rfl, rfl, by decide +kernel, rfl, by decide +kernel, by decide +kernel⟩
def b_Game_init : VS := (seqS (fldS 0 "Game" "sizes" (callF f_check_sizes [] (aCons (rd 1) aNil)))
    (seqS (ifS (orT (boolOf (bin2 neV (callN lenV (aCons (rd 2) aNil)) (callN lenV (aCons (rd 1) aNil)))) (boolOf (bin2 ltV (rd 3) (cst (.int 1)))))
    badS
    nilS)
    (seqS (setS 4 (callF f_count_plays [] (aCons (rd 1) aNil)))
    (seqS (setS 5 (rd 3))
    (seqS (forS (walkOf (rd 2)) (asg 6)
    (seqS (frS 4 (ifS (boolOf (bin2 neV (callN lenV (aCons (rd 6) aNil)) (rd 4)))
    badS
    nilS))
    (frS 5 (setS 5 (callF f_divisor [] (aCons (rd 6) (aCons (rd 5) aNil)))))))
    (seqS (frS 5 (fldS 0 "Game" "pays" (callN tupleV (aCons (lcV 0 (walkOf (rd 2)) (asg 6) yesT (callN tupleV (aCons (lcV 0 (walkOf (rd 6)) (asg 7) yesT (bin2 fdivV (rd 7) (rd 5)) [7]) aNil)) [6]) aNil))))
    (frS 5 (fldS 0 "Game" "over" (bin2 fdivV (rd 3) (rd 5))))))))))
def f_Game_init : FnI := runInit 8 "Game" b_Game_init
theorem ok_Game_init {P : Program} {w : World} {K : PySem.W.Frag} {mg : MG} {base : Heap} {fd : FuncData} (G : Fx P w K mg base) (F : FunD K "__init__" "Game.__init__" (defArgs s_Game_init) (defBody s_Game_init) (defScope s_Game_init) [.int 1] [] (He.fAd K ("Game", some "__init__")) fd) : FnOk P w K mg base (L2.CX P w) 3 (He.fAd K ("Game", some "__init__")) fd ["self", "sizes", "pays", "over"] (spI K mg "Game" 4 f_Game_init) :=
  init_okC (N := N_Game_init) F sc_Game_init (by decide) fun cdv A outer s H E B hr =>
    (b_cons (sfld 0 (fld_Game_sizes G) (cv (dv_check_sizes_1 G) (L2.takes_of rfl rfl rfl rfl) hr (by decide) (a_cons (xv 1) a_nil) (lenC (len_cons len_nil) rfl)))
    (b_cons (s_if (w_or (tne hr (xlen G.f_len (a_cons (xv 2) a_nil)) (xlen G.f_len (a_cons (xv 1) a_nil))) (w_or1 (tlt (xv 3) e_int))).tv
    (b_one s_never)
    b_nil)
    (b_cons (sset 4 sc_Game_init.nd (cv (dv_count_plays_1 G) (L2.takes_of rfl rfl rfl rfl) hr (by decide) (a_cons (xv 1) a_nil) (lenC (len_cons len_nil) rfl)))
    (b_cons (sset 5 sc_Game_init.nd (xv 3))
    (b_cons (s_for (L2.passes_of rfl) rfl (i_seq (xv 2)) (gname 6 sc_Game_init.nd)
    (b_cons (SV.fr (s_if (tne hr (xlen G.f_len (a_cons (xv 6) a_nil)) (xv 4))
    (b_one s_never)
    b_nil) 4)
    (b_one (SV.fr (sset 5 sc_Game_init.nd (cv (dv_divisor_2 G) (L2.takes_of rfl rfl rfl rfl) hr (by decide) (a_cons (xv 6) (a_cons (xv 5) a_nil)) (lenC (len_cons (len_cons len_nil)) rfl))) 5))))
    (b_cons (SV.fr (sfld 0 (fld_Game_pays G) (xtuple G.f_tuple (a_cons (e_lc (d := 0) (own := [("row", 6)]) rfl sc_Game_init.nd (i_seq (xv 2)) (blkOk_by (by rfl)) (by decide) (fun _ _ _ _ _ => (gname 6 sc_Game_init.nd)) (fun _ _ _ _ _ => ts_nil) (fun _ _ _ _ _ => (xtuple G.f_tuple (a_cons (e_lc (d := 0) (own := [("pay", 7)]) rfl sc_Game_init.nd (i_seq (xv 6)) (blkOk_by (by rfl)) (by decide) (fun _ _ _ _ _ => (gname 7 sc_Game_init.nd)) (fun _ _ _ _ _ => ts_nil) (fun _ _ _ _ _ => (xdiv (xv 7) (xv 5)))) a_nil)))) a_nil))) 5)
    (b_one (SV.fr (sfld 0 (fld_Game_over G) (xdiv (xv 3) (xv 5))) 5))))))))
theorem mk_Game_init_3 {P : Program} {w : World} {K : PySem.W.Frag} {mg : MG} {base : Heap} (G : Fx P w K mg base) : MakeV P w K mg base "Game" 3 ["self", "sizes", "pays", "over"] f_Game_init [] := by
  obtain ⟨fd, F⟩ := G.d_Game_init
  obtain ⟨ds, hv, bd⟩ := (F.binds1 (ps := ["self", "sizes", "pays", "over"]) 4 1 (by simp) rfl fun _ _ _ _ _ _ _ us its hl hi => match us, its, hl, hi with | [_, _, _, _], [_], _, _ => ⟨_, rfl, rfl⟩)
  exact ⟨⟨_, _, fd, ds, _, G.g_Game, G.mk_Game, ok_Game_init G F, bd, hv, fun _ => rfl⟩⟩
abbrev N_law_gcd : List Str := ["a", "b", "k", "left"]
theorem sc_law_gcd : FnScope N_law_gcd ["a", "b"] (defScope s_law_gcd) := ⟨rfl, rfl, rfl, by decide +kernel, rfl, by decide +kernel, by decide +kernel⟩
def b_law_gcd : VS := (seqS (setS 0 (callN absV' (aCons (rd 0) aNil)))
    (seqS (setS 1 (callN absV' (aCons (rd 1) aNil)))
    (seqS (forS (walkR1 (cst (.int 400))) (asg 2)
    (seqS (ifS (boolOf (bin2 eqV (rd 1) (cst (.int 0))))
    (retOwn 0)
    nilS)
    (seqS (setS 3 (bin2 modV (callN intV (aCons (rd 0) aNil)) (rd 1)))
    (seqS (setS 0 (rd 1))
    (setS 1 (rd 3))))))
    (retOwn 0))))
def f_law_gcd : Fn := runFn 4 b_law_gcd
theorem ok_law_gcd {P : Program} {w : World} {K : PySem.W.Frag} {mg : MG} {base : Heap} {fd : FuncData} (G : Fx P w K mg base) (F : FunD K "_law_gcd" "_law_gcd" (defArgs s_law_gcd) (defBody s_law_gcd) (defScope s_law_gcd) [] [] (He.fAd K ("_law_gcd", none)) fd) : FnOk P w K mg base (L2.CX P w) 1 (He.fAd K ("_law_gcd", none)) fd ["a", "b"] (spV K mg 2 f_law_gcd) :=
  fn_okC (N := N_law_gcd) F sc_law_gcd fun cdv A outer s H E B hr =>
    (b_cons (sset 0 sc_law_gcd.nd (xabs G.f_abs (a_cons (xv 0) a_nil)))
    (b_cons (sset 1 sc_law_gcd.nd (xabs G.f_abs (a_cons (xv 1) a_nil)))
    (b_cons (s_for (L2.passes_of rfl) rfl (i_range1 (by rfl) G.f_range e_int) (gname 2 sc_law_gcd.nd)
    (b_cons (s_if (teq hr (xv 1) e_int)
    (b_one (sretOwn 0))
    b_nil)
    (b_cons (sset 3 sc_law_gcd.nd (xmod (xint G.f_int (a_cons (xv 0) a_nil)) (xv 1)))
    (b_cons (sset 0 sc_law_gcd.nd (xv 1))
    (b_one (sset 1 sc_law_gcd.nd (xv 3)))))))
    (b_one (sretOwn 0)))))
theorem dv_law_gcd_2 {P : Program} {w : World} {K : PySem.W.Frag} {mg : MG} {base : Heap} (G : Fx P w K mg base) : DefV P w K mg base "_law_gcd" 1 ["a", "b"] f_law_gcd [] := by
  obtain ⟨fd, F⟩ := G.d_law_gcd
  have bd := (F.bindsN (ps := ["a", "b"]) fun _ _ _ _ _ _ us hl => match us, hl with | [_, _], _ => rfl)
  exact ⟨⟨_, fd, [], [], ok_law_gcd G F, G.g__law_gcd, F.kp, bd, .nil, fun _ => rfl⟩⟩
abbrev N_law_place : List Str := ["sizes", "play", "at", "k"]
theorem sc_law_place : FnScope N_law_place ["sizes", "play"] (defScope s_law_place) := ⟨rfl, rfl, rfl, by decide +kernel, rfl, by decide +kernel, by decide +kernel⟩
def b_law_place : VS := (seqS (setS 2 (cst (.int 0)))
    (seqS (forS (walkR1 (callN lenV (aCons (rd 0) aNil))) (asg 3)
    (setS 2 (bin2 addV (bin2 mulV (rd 2) (bin2 ixV (rd 0) (rd 3))) (bin2 ixV (rd 1) (rd 3)))))
    (retOwn 2)))
def f_law_place : Fn := runFn 4 b_law_place
theorem ok_law_place {P : Program} {w : World} {K : PySem.W.Frag} {mg : MG} {base : Heap} {fd : FuncData} (G : Fx P w K mg base) (F : FunD K "_law_place" "_law_place" (defArgs s_law_place) (defBody s_law_place) (defScope s_law_place) [] [] (He.fAd K ("_law_place", none)) fd) : FnOk P w K mg base (L2.CX P w) 1 (He.fAd K ("_law_place", none)) fd ["sizes", "play"] (spV K mg 2 f_law_place) :=
  fn_okC (N := N_law_place) F sc_law_place fun cdv A outer s H E B hr =>
    (b_cons (sset 2 sc_law_place.nd e_int)
    (b_cons (s_for (L2.passes_of rfl) rfl (i_range1 (by rfl) G.f_range (xlen G.f_len (a_cons (xv 0) a_nil))) (gname 3 sc_law_place.nd)
    (b_one (sset 2 sc_law_place.nd (xadd (xmul (xv 2) (xix (xv 0) (xv 3))) (xix (xv 1) (xv 3))))))
    (b_one (sretOwn 2))))
theorem dv_law_place_2 {P : Program} {w : World} {K : PySem.W.Frag} {mg : MG} {base : Heap} (G : Fx P w K mg base) : DefV P w K mg base "_law_place" 1 ["sizes", "play"] f_law_place [] := by
  obtain ⟨fd, F⟩ := G.d_law_place
  have bd := (F.bindsN (ps := ["sizes", "play"]) fun _ _ _ _ _ _ us hl => match us, hl with | [_, _], _ => rfl)
  exact ⟨⟨_, fd, [], [], ok_law_place G F, G.g__law_place, F.kp, bd, .nil, fun _ => rfl⟩⟩
abbrev N_law_gain : List Str := ["sizes", "rows", "play", "person", "choice", "there"]
theorem sc_law_gain : FnScope N_law_gain ["sizes", "rows", "play", "person", "choice"] (defScope s_law_gain) := ⟨rfl, rfl, rfl, by decide +kernel, rfl, by decide +kernel, by decide +kernel⟩
def b_law_gain : VS := (seqS (setS 5 (bin2 addV (bin2 addV (sl3 (rd 2) noB (intB (rd 3))) (tupD (aCons (rd 4) aNil))) (sl3 (rd 2) (intB (bin2 addV (rd 3) (cst (.int 1)))) noB)))
    (retS (bin2 subV (bin2 ixV (bin2 ixV (rd 1) (rd 3)) (callF f_law_place [] (aCons (rd 0) (aCons (rd 5) aNil)))) (bin2 ixV (bin2 ixV (rd 1) (rd 3)) (callF f_law_place [] (aCons (rd 0) (aCons (rd 2) aNil)))))))
def f_law_gain : Fn := runFn 6 b_law_gain
theorem ok_law_gain {P : Program} {w : World} {K : PySem.W.Frag} {mg : MG} {base : Heap} {fd : FuncData} (G : Fx P w K mg base) (F : FunD K "_law_gain" "_law_gain" (defArgs s_law_gain) (defBody s_law_gain) (defScope s_law_gain) [] [] (He.fAd K ("_law_gain", none)) fd) : FnOk P w K mg base (L2.CX P w) 2 (He.fAd K ("_law_gain", none)) fd ["sizes", "rows", "play", "person", "choice"] (spV K mg 5 f_law_gain) :=
  fn_okC (N := N_law_gain) F sc_law_gain fun cdv A outer s H E B hr =>
    (b_cons (sset 5 sc_law_gain.nd (xadd (xadd (e_slice (xv 2) o_none (o_some (xv 3))) (e_tup (a_cons (xv 4) a_nil))) (e_slice (xv 2) (o_some (xadd (xv 3) e_int)) o_none)))
    (b_one (s_ret (xsub (xix (xix (xv 1) (xv 3)) (cv (dv_law_place_2 G) (L2.takes_of rfl rfl rfl rfl) hr (by decide) (a_cons (xv 0) (a_cons (xv 5) a_nil)) (lenC (len_cons (len_cons len_nil)) rfl))) (xix (xix (xv 1) (xv 3)) (cv (dv_law_place_2 G) (L2.takes_of rfl rfl rfl rfl) hr (by decide) (a_cons (xv 0) (a_cons (xv 2) a_nil)) (lenC (len_cons (len_cons len_nil)) rfl)))))))
theorem dv_law_gain_5 {P : Program} {w : World} {K : PySem.W.Frag} {mg : MG} {base : Heap} (G : Fx P w K mg base) : DefV P w K mg base "_law_gain" 2 ["sizes", "rows", "play", "person", "choice"] f_law_gain [] := by
  obtain ⟨fd, F⟩ := G.d_law_gain
  have bd := (F.bindsN (ps := ["sizes", "rows", "play", "person", "choice"]) fun _ _ _ _ _ _ us hl => match us, hl with | [_, _, _, _, _], _ => rfl)
  exact ⟨⟨_, fd, [], [], ok_law_gain G F, G.g__law_gain, F.kp, bd, .nil, fun _ => rfl⟩⟩
abbrev N_is_play : List Str := ["sizes", "play", "choice", "size"]
theorem sc_is_play : FnScope N_is_play ["sizes", "play"] (defScope s_is_play) := ⟨rfl, rfl, rfl, by decide +kernel, rfl, by decide +kernel, by decide +kernel⟩
def b_is_play : VS := (seqS (ifS (boolOf (bin2 neV (callN lenV (aCons (rd 1) aNil)) (callN lenV (aCons (rd 0) aNil))))
    (retS (cst (.bl false)))
    nilS)
    (seqS (forS (walkZ (aCons (rd 1) (aCons (rd 0) aNil))) (gtup 2 (gcons (asg 2) (gcons (asg 3) gnil)))
    (ifS (notT (boolOf (chn leV ltV (cst (.int 0)) (rd 2) (rd 3))))
    (retS (cst (.bl false)))
    nilS))
    (retS (cst (.bl true)))))
def f_is_play : Fn := runFn 4 b_is_play
theorem ok_is_play {P : Program} {w : World} {K : PySem.W.Frag} {mg : MG} {base : Heap} {fd : FuncData} (G : Fx P w K mg base) (F : FunD K "is_play" "is_play" (defArgs s_is_play) (defBody s_is_play) (defScope s_is_play) [] [] (He.fAd K ("is_play", none)) fd) : FnOk P w K mg base (L2.CX P w) 1 (He.fAd K ("is_play", none)) fd ["sizes", "play"] (spV K mg 2 f_is_play) :=
  fn_okC (N := N_is_play) F sc_is_play fun cdv A outer s H E B hr =>
    (b_cons (s_if (tne hr (xlen G.f_len (a_cons (xv 1) a_nil)) (xlen G.f_len (a_cons (xv 0) a_nil)))
    (b_one (s_ret e_bl))
    b_nil)
    (b_cons (s_for (L2.passes_of rfl) rfl (i_zip (by rfl) G.f_zip (a_cons (xv 1) (a_cons (xv 0) a_nil))) (g_tup rfl (gs_cons (gname 2 sc_is_play.nd) (gs_cons (gname 3 sc_is_play.nd) gs_nil)))
    (b_one (s_if (t_not (t_chain op_le op_lt (op2_cmp fun _ _ => rfl) (nox_cmp fun _ _ => rfl) (op2_cmp fun _ _ => rfl) (nox_cmp fun _ _ => rfl) e_int (xv 2) (xv 3)))
    (b_one (s_ret e_bl))
    b_nil)))
    (b_one (s_ret e_bl))))
theorem dv_is_play_2 {P : Program} {w : World} {K : PySem.W.Frag} {mg : MG} {base : Heap} (G : Fx P w K mg base) : DefV P w K mg base "is_play" 1 ["sizes", "play"] f_is_play [] := by
  obtain ⟨fd, F⟩ := G.d_is_play
  have bd := (F.bindsN (ps := ["sizes", "play"]) fun _ _ _ _ _ _ us hl => match us, hl with | [_, _], _ => rfl)
  exact ⟨⟨_, fd, [], [], ok_is_play G F, G.g_is_play, F.kp, bd, .nil, fun _ => rfl⟩⟩
abbrev N_place : List Str := ["sizes", "play", "at", "choice", "size"]
theorem sc_place : FnScope N_place ["sizes", "play"] (defScope s_place) := ⟨rfl, rfl, rfl, by decide +kernel, rfl, by decide +kernel, by decide +kernel⟩
def b_place : VS := (seqS (ifS (notT (boolOf (callF f_is_play [] (aCons (rd 0) (aCons (rd 1) aNil)))))
    (raiseS "BadPlay")
    nilS)
    (seqS (setS 2 (cst (.int 0)))
    (seqS (forS (walkZ (aCons (rd 1) (aCons (rd 0) aNil))) (gtup 2 (gcons (asg 3) (gcons (asg 4) gnil)))
    (setS 2 (bin2 addV (bin2 mulV (rd 2) (rd 4)) (rd 3))))
    (retOwn 2))))
def f_place : Fn := runFn 5 b_place
theorem ok_place {P : Program} {w : World} {K : PySem.W.Frag} {mg : MG} {base : Heap} {fd : FuncData} (G : Fx P w K mg base) (F : FunD K "place" "place" (defArgs s_place) (defBody s_place) (defScope s_place) [] [] (He.fAd K ("place", none)) fd) : FnOk P w K mg base (L2.CX P w) 2 (He.fAd K ("place", none)) fd ["sizes", "play"] (spV K mg 2 f_place) :=
  fn_okC (N := N_place) F sc_place fun cdv A outer s H E B hr =>
    (b_cons (s_if (t_not (t_val (cv (dv_is_play_2 G) (L2.takes_of rfl rfl rfl rfl) hr (by decide) (a_cons (xv 0) (a_cons (xv 1) a_nil)) (lenC (len_cons (len_cons len_nil)) rfl))))
    (b_one (sraise ⟨_, G.g_BadPlay, G.x_BadPlay⟩ rfl (L2.takes_of rfl rfl rfl rfl)))
    b_nil)
    (b_cons (sset 2 sc_place.nd e_int)
    (b_cons (s_for (L2.passes_of rfl) rfl (i_zip (by rfl) G.f_zip (a_cons (xv 1) (a_cons (xv 0) a_nil))) (g_tup rfl (gs_cons (gname 3 sc_place.nd) (gs_cons (gname 4 sc_place.nd) gs_nil)))
    (b_one (sset 2 sc_place.nd (xadd (xmul (xv 2) (xv 4)) (xv 3)))))
    (b_one (sretOwn 2)))))
theorem dv_place_2 {P : Program} {w : World} {K : PySem.W.Frag} {mg : MG} {base : Heap} (G : Fx P w K mg base) : DefV P w K mg base "place" 2 ["sizes", "play"] f_place [] := by
  obtain ⟨fd, F⟩ := G.d_place
  have bd := (F.bindsN (ps := ["sizes", "play"]) fun _ _ _ _ _ _ us hl => match us, hl with | [_, _], _ => rfl)
  exact ⟨⟨_, fd, [], [], ok_place G F, G.g_place, F.kp, bd, .nil, fun _ => rfl⟩⟩
abbrev N_is_change : List Str := ["sizes", "person", "choice"]
theorem sc_is_change : FnScope N_is_change ["sizes", "person", "choice"] (defScope s_is_change) := ⟨rfl, rfl, rfl, by decide +kernel, rfl, by decide +kernel, by decide +kernel⟩
def b_is_change : VS := (retS (andV (chn leV ltV (cst (.int 0)) (rd 1) (callN lenV (aCons (rd 0) aNil))) (chn leV ltV (cst (.int 0)) (rd 2) (bin2 ixV (rd 0) (rd 1)))))
def f_is_change : Fn := runFn 3 b_is_change
theorem ok_is_change {P : Program} {w : World} {K : PySem.W.Frag} {mg : MG} {base : Heap} {fd : FuncData} (G : Fx P w K mg base) (F : FunD K "is_change" "is_change" (defArgs s_is_change) (defBody s_is_change) (defScope s_is_change) [] [] (He.fAd K ("is_change", none)) fd) : FnOk P w K mg base (L2.CX P w) 1 (He.fAd K ("is_change", none)) fd ["sizes", "person", "choice"] (spV K mg 3 f_is_change) :=
  fn_okC (N := N_is_change) F sc_is_change fun cdv A outer s H E B hr =>
    (b_one (s_ret (e_and (e_chain op_le op_lt (op2_cmp fun _ _ => rfl) (nox_cmp fun _ _ => rfl) (op2_cmp fun _ _ => rfl) (nox_cmp fun _ _ => rfl) e_int (xv 1) (xlen G.f_len (a_cons (xv 0) a_nil))) (e_one (e_chain op_le op_lt (op2_cmp fun _ _ => rfl) (nox_cmp fun _ _ => rfl) (op2_cmp fun _ _ => rfl) (nox_cmp fun _ _ => rfl) e_int (xv 2) (xix (xv 0) (xv 1)))))))
theorem dv_is_change_3 {P : Program} {w : World} {K : PySem.W.Frag} {mg : MG} {base : Heap} (G : Fx P w K mg base) : DefV P w K mg base "is_change" 1 ["sizes", "person", "choice"] f_is_change [] := by
  obtain ⟨fd, F⟩ := G.d_is_change
  have bd := (F.bindsN (ps := ["sizes", "person", "choice"]) fun _ _ _ _ _ _ us hl => match us, hl with | [_, _, _], _ => rfl)
  exact ⟨⟨_, fd, [], [], ok_is_change G F, G.g_is_change, F.kp, bd, .nil, fun _ => rfl⟩⟩
abbrev N_strides : List Str := ["sizes", "found", "step", "size"]
theorem sc_strides : FnScope N_strides ["sizes"] (defScope s_strides) := ⟨rfl, rfl, rfl, by decide +kernel, rfl, by decide +kernel, by decide +kernel⟩
def b_strides : VS := (seqS (setS 1 (nilD 0))
    (seqS (setS 2 (cst (.int 1)))
    (seqS (forS (walkV (rd 0)) (asg 3)
    (seqS (apS 1 (pthN 1) (rd 2))
    (setS 2 (bin2 mulV (rd 2) (rd 3)))))
    (frS 1 (retS (tupRevV (rd 1)))))))
def f_strides : Fn := runFn 4 b_strides
theorem ok_strides {P : Program} {w : World} {K : PySem.W.Frag} {mg : MG} {base : Heap} {fd : FuncData} (G : Fx P w K mg base) (F : FunD K "strides" "strides" (defArgs s_strides) (defBody s_strides) (defScope s_strides) [] [] (He.fAd K ("strides", none)) fd) : FnOk P w K mg base (L2.CX P w) 1 (He.fAd K ("strides", none)) fd ["sizes"] (spV K mg 1 f_strides) :=
  fn_okC (N := N_strides) F sc_strides fun cdv A outer s H E B hr =>
    (b_cons (sset 1 sc_strides.nd (e_nil (d := 0)))
    (b_cons (sset 2 sc_strides.nd e_int)
    (b_cons (s_for (L2.passes_of rfl) rfl (i_rev (by rfl) G.f_reversed (xv 0)) (gname 3 sc_strides.nd)
    (b_cons (s_app (lname 1) (xv 2))
    (b_one (sset 2 sc_strides.nd (xmul (xv 2) (xv 3))))))
    (b_one (SV.fr (s_ret (e_tupRev (by rfl) (by rfl) G.f_tuple (by rfl) G.f_reversed (xv 1))) 1)))))
theorem dv_strides_1 {P : Program} {w : World} {K : PySem.W.Frag} {mg : MG} {base : Heap} (G : Fx P w K mg base) : DefV P w K mg base "strides" 1 ["sizes"] f_strides [] := by
  obtain ⟨fd, F⟩ := G.d_strides
  have bd := (F.bindsN (ps := ["sizes"]) fun _ _ _ _ _ _ us hl => match us, hl with | [_], _ => rfl)
  exact ⟨⟨_, fd, [], [], ok_strides G F, G.g_strides, F.kp, bd, .nil, fun _ => rfl⟩⟩
abbrev N_gain : List Str := ["game", "play", "person", "choice", "at", "row"]
theorem sc_gain : FnScope N_gain ["game", "play", "person", "choice"] (defScope s_gain) := ⟨rfl, rfl, rfl, by decide +kernel, rfl, by decide +kernel, by decide +kernel⟩
def b_gain : VS := (seqS (setS 4 (callF f_place [] (aCons (fldE "Game" "sizes" (rd 0)) (aCons (rd 1) aNil))))
    (seqS (ifS (notT (boolOf (callF f_is_change [] (aCons (fldE "Game" "sizes" (rd 0)) (aCons (rd 2) (aCons (rd 3) aNil))))))
    (raiseS "BadPlay")
    nilS)
    (seqS (setS 5 (bin2 ixV (fldE "Game" "pays" (rd 0)) (rd 2)))
    (frS 4 (retS (bin2 subV (bin2 ixV (rd 5) (bin2 addV (rd 4) (bin2 mulV (bin2 ixV (callF f_strides [] (aCons (fldE "Game" "sizes" (rd 0)) aNil)) (rd 2)) (bin2 subV (rd 3) (bin2 ixV (rd 1) (rd 2)))))) (bin2 ixV (rd 5) (rd 4))))))))
def f_gain : Fn := runFn 6 b_gain
theorem ok_gain {P : Program} {w : World} {K : PySem.W.Frag} {mg : MG} {base : Heap} {fd : FuncData} (G : Fx P w K mg base) (F : FunD K "gain" "gain" (defArgs s_gain) (defBody s_gain) (defScope s_gain) [] [] (He.fAd K ("gain", none)) fd) : FnOk P w K mg base (L2.CX P w) 3 (He.fAd K ("gain", none)) fd ["game", "play", "person", "choice"] (spV K mg 4 f_gain) :=
  fn_okC (N := N_gain) F sc_gain fun cdv A outer s H E B hr =>
    (b_cons (sset 4 sc_gain.nd (cv (dv_place_2 G) (L2.takes_of rfl rfl rfl rfl) hr (by decide) (a_cons (fv (fld_Game_sizes G) (xv 0)) (a_cons (xv 1) a_nil)) (lenC (len_cons (len_cons len_nil)) rfl)))
    (b_cons (s_if (t_not (t_val (cv (dv_is_change_3 G) (L2.takes_of rfl rfl rfl rfl) hr (by decide) (a_cons (fv (fld_Game_sizes G) (xv 0)) (a_cons (xv 2) (a_cons (xv 3) a_nil))) (lenC (len_cons (len_cons (len_cons len_nil))) rfl))))
    (b_one (sraise ⟨_, G.g_BadPlay, G.x_BadPlay⟩ rfl (L2.takes_of rfl rfl rfl rfl)))
    b_nil)
    (b_cons (sset 5 sc_gain.nd (xix (fv (fld_Game_pays G) (xv 0)) (xv 2)))
    (b_one (SV.fr (s_ret (xsub (xix (xv 5) (xadd (xv 4) (xmul (xix (cv (dv_strides_1 G) (L2.takes_of rfl rfl rfl rfl) hr (by decide) (a_cons (fv (fld_Game_sizes G) (xv 0)) a_nil) (lenC (len_cons len_nil) rfl)) (xv 2)) (xsub (xv 3) (xix (xv 1) (xv 2)))))) (xix (xv 5) (xv 4)))) 4)))))
theorem dv_gain_4 {P : Program} {w : World} {K : PySem.W.Frag} {mg : MG} {base : Heap} (G : Fx P w K mg base) : DefV P w K mg base "gain" 3 ["game", "play", "person", "choice"] f_gain [] := by
  obtain ⟨fd, F⟩ := G.d_gain
  have bd := (F.bindsN (ps := ["game", "play", "person", "choice"]) fun _ _ _ _ _ _ us hl => match us, hl with | [_, _, _, _], _ => rfl)
  exact ⟨⟨_, fd, [], [], ok_gain G F, G.g_gain, F.kp, bd, .nil, fun _ => rfl⟩⟩
abbrev N_law_is_whole : List Str := ["actual"]
theorem sc_law_is_whole : FnScope N_law_is_whole ["actual"] (defScope s_law_is_whole) := ⟨rfl, rfl, rfl, by decide +kernel, rfl, by decide +kernel, by decide +kernel⟩
def b_law_is_whole : VS := (retS (andV (un1 (isV "int") (rd 0)) (notE (un1 (isV "bool") (rd 0)))))
def f_law_is_whole : Fn := runFn 1 b_law_is_whole
theorem ok_law_is_whole {P : Program} {w : World} {K : PySem.W.Frag} {mg : MG} {base : Heap} {fd : FuncData} (G : Fx P w K mg base) (F : FunD K "_law_is_whole" "_law_is_whole" (defArgs s_law_is_whole) (defBody s_law_is_whole) (defScope s_law_is_whole) [] [] (He.fAd K ("_law_is_whole", none)) fd) : FnOk P w K mg base (L2.CX P w) 1 (He.fAd K ("_law_is_whole", none)) fd ["actual"] (spV K mg 1 f_law_is_whole) :=
  fn_okC (N := N_law_is_whole) F sc_law_is_whole fun cdv A outer s H E B hr =>
    (b_one (s_ret (e_and (xisty (xv 0) G.f_isinstance G.f_int PyProof.Rows.boot_int) (e_one (e_not (xisty (xv 0) G.f_isinstance G.f_bool PyProof.Rows.boot_bool))))))
theorem dv_law_is_whole_1 {P : Program} {w : World} {K : PySem.W.Frag} {mg : MG} {base : Heap} (G : Fx P w K mg base) : DefV P w K mg base "_law_is_whole" 1 ["actual"] f_law_is_whole [] := by
  obtain ⟨fd, F⟩ := G.d_law_is_whole
  have bd := (F.bindsN (ps := ["actual"]) fun _ _ _ _ _ _ us hl => match us, hl with | [_], _ => rfl)
  exact ⟨⟨_, fd, [], [], ok_law_is_whole G F, G.g__law_is_whole, F.kp, bd, .nil, fun _ => rfl⟩⟩
abbrev N_arcs : List Str := ["game", "at", "rule", "found", "steps", "person", "size", "step", "own", "base", "row", "here", "most", "choice", "there"]
theorem sc_arcs : FnScope N_arcs ["game", "at", "rule"] (defScope s_arcs) := ⟨rfl, rfl, rfl, by decide +kernel, rfl, by decide +kernel, by decide +kernel⟩
def b_arcs : VS := (seqS (setS 3 (nilD 0))
    (seqS (setS 4 (callF f_strides [] (aCons (fldE "Game" "sizes" (rd 0)) aNil)))
    (seqS (forS (walkE (aCons (fldE "Game" "sizes" (rd 0)) aNil)) (gtup 2 (gcons (asg 5) (gcons (asg 6) gnil)))
    (seqS (setS 7 (bin2 ixV (rd 4) (rd 5)))
    (seqS (setS 8 (bin2 modV (bin2 fdivV (rd 1) (rd 7)) (rd 6)))
    (seqS (setS 9 (bin2 subV (rd 1) (bin2 mulV (rd 8) (rd 7))))
    (seqS (setS 10 (bin2 ixV (fldE "Game" "pays" (rd 0)) (rd 5)))
    (seqS (setS 11 (bin2 ixV (rd 10) (rd 1)))
    (seqS (setS 12 (callN maxV (aCons (lcV 0 (walkR1 (rd 6)) (asg 13) yesT (bin2 ixV (rd 10) (bin2 addV (rd 9) (bin2 mulV (rd 7) (rd 13)))) [13]) aNil)))
    (seqS (ifS (andT (boolOf (bin2 neV (rd 2) (cst (.str "even")))) (boolOf (bin2 eqV (rd 12) (rd 11))))
    contS
    nilS)
    (forS (walkR1 (rd 6)) (asg 13)
    (seqS (setS 14 (bin2 ixV (rd 10) (bin2 addV (rd 9) (bin2 mulV (rd 7) (rd 13)))))
    (seqS (ifS (orT (boolOf (bin2 eqV (rd 13) (rd 8))) (boolOf (bin2 ltV (rd 14) (rd 11))))
    contS
    nilS)
    (ifS (orT (boolOf (bin2 eqV (rd 2) (cst (.str "even")))) (andT (boolOf (bin2 gtV (rd 14) (rd 11))) (orT (boolOf (bin2 eqV (rd 2) (cst (.str "better")))) (boolOf (bin2 eqV (rd 14) (rd 12))))))
    (apS 3 (pthN 3) (tupD (aCons (rd 5) (aCons (rd 13) (aCons (bin2 addV (rd 9) (bin2 mulV (rd 7) (rd 13))) (aCons (bin2 subV (rd 14) (rd 11)) aNil))))))
    nilS))))))))))))
    (retOwn 3))))
def f_arcs : Fn := runFn 15 b_arcs
theorem ok_arcs {P : Program} {w : World} {K : PySem.W.Frag} {mg : MG} {base : Heap} {fd : FuncData} (G : Fx P w K mg base) (F : FunD K "arcs" "arcs" (defArgs s_arcs) (defBody s_arcs) (defScope s_arcs) [] [] (He.fAd K ("arcs", none)) fd) : FnOk P w K mg base (L2.CX P w) 2 (He.fAd K ("arcs", none)) fd ["game", "at", "rule"] (spV K mg 3 f_arcs) :=
  fn_okC (N := N_arcs) F sc_arcs fun cdv A outer s H E B hr =>
    (b_cons (sset 3 sc_arcs.nd (e_nil (d := 0)))
    (b_cons (sset 4 sc_arcs.nd (cv (dv_strides_1 G) (L2.takes_of rfl rfl rfl rfl) hr (by decide) (a_cons (fv (fld_Game_sizes G) (xv 0)) a_nil) (lenC (len_cons len_nil) rfl)))
    (b_cons (s_for (L2.passes_of rfl) rfl (i_enum (by rfl) G.f_enumerate (a_cons (fv (fld_Game_sizes G) (xv 0)) a_nil)) (g_tup rfl (gs_cons (gname 5 sc_arcs.nd) (gs_cons (gname 6 sc_arcs.nd) gs_nil)))
    (b_cons (sset 7 sc_arcs.nd (xix (xv 4) (xv 5)))
    (b_cons (sset 8 sc_arcs.nd (xmod (xdiv (xv 1) (xv 7)) (xv 6)))
    (b_cons (sset 9 sc_arcs.nd (xsub (xv 1) (xmul (xv 8) (xv 7))))
    (b_cons (sset 10 sc_arcs.nd (xix (fv (fld_Game_pays G) (xv 0)) (xv 5)))
    (b_cons (sset 11 sc_arcs.nd (xix (xv 10) (xv 1)))
    (b_cons (sset 12 sc_arcs.nd (xmax rfl hr G.f_max (a_cons (e_lc (d := 0) (own := [("choice", 13)]) rfl sc_arcs.nd (i_range1 (by rfl) G.f_range (xv 6)) (blkOk_by (by rfl)) (by decide) (fun _ _ _ _ _ => (gname 13 sc_arcs.nd)) (fun _ _ _ _ _ => ts_nil) (fun _ _ _ _ _ => (xix (xv 10) (xadd (xv 9) (xmul (xv 7) (xv 13)))))) a_nil)))
    (b_cons (s_if (w_and (tne hr (xv 2) e_str) (w_and1 (teq hr (xv 12) (xv 11)))).tv
    (b_one s_continue)
    b_nil)
    (b_one (s_for (L2.passes_of rfl) rfl (i_range1 (by rfl) G.f_range (xv 6)) (gname 13 sc_arcs.nd)
    (b_cons (sset 14 sc_arcs.nd (xix (xv 10) (xadd (xv 9) (xmul (xv 7) (xv 13)))))
    (b_cons (s_if (w_or (teq hr (xv 13) (xv 8)) (w_or1 (tlt (xv 14) (xv 11)))).tv
    (b_one s_continue)
    b_nil)
    (b_one (s_if (w_or (teq hr (xv 2) e_str) (w_or1 (w_and (tgt (xv 14) (xv 11)) (w_and1 (w_or (teq hr (xv 2) e_str) (w_or1 (teq hr (xv 14) (xv 12)))).tv)).tv)).tv
    (b_one (s_app (lname 3) (e_tup (a_cons (xv 5) (a_cons (xv 13) (a_cons (xadd (xv 9) (xmul (xv 7) (xv 13))) (a_cons (xsub (xv 14) (xv 11)) a_nil)))))))
    b_nil))))))))))))))
    (b_one (sretOwn 3)))))
theorem dv_arcs_3 {P : Program} {w : World} {K : PySem.W.Frag} {mg : MG} {base : Heap} (G : Fx P w K mg base) : DefV P w K mg base "arcs" 2 ["game", "at", "rule"] f_arcs [] := by
  obtain ⟨fd, F⟩ := G.d_arcs
  have bd := (F.bindsN (ps := ["game", "at", "rule"]) fun _ _ _ _ _ _ us hl => match us, hl with | [_, _, _], _ => rfl)
  exact ⟨⟨_, fd, [], [], ok_arcs G F, G.g_arcs, F.kp, bd, .nil, fun _ => rfl⟩⟩
abbrev N_moves : List Str := ["game", "play", "rule", "at", "person", "choice", "new", "more"]
theorem sc_moves : FnScope N_moves ["game", "play", "rule"] (defScope s_moves) := ⟨rfl, rfl, rfl, by decide +kernel, rfl, by decide +kernel, by decide +kernel⟩
def b_moves : VS := (seqS (setS 3 (callF f_place [] (aCons (fldE "Game" "sizes" (rd 0)) (aCons (rd 1) aNil))))
    (frS 3 (retS (lcV 0 (walkOf (callF f_arcs [] (aCons (rd 0) (aCons (rd 3) (aCons (rd 2) aNil))))) (gtup 4 (gcons (asg 4) (gcons (asg 5) (gcons (asg 6) (gcons (asg 7) gnil))))) yesT (tupD (aCons (rd 4) (aCons (rd 5) aNil))) [4, 5, 6, 7]))))
def f_moves : Fn := runFn 8 b_moves
theorem ok_moves {P : Program} {w : World} {K : PySem.W.Frag} {mg : MG} {base : Heap} {fd : FuncData} (G : Fx P w K mg base) (F : FunD K "moves" "moves" (defArgs s_moves) (defBody s_moves) (defScope s_moves) [] [] (He.fAd K ("moves", none)) fd) : FnOk P w K mg base (L2.CX P w) 3 (He.fAd K ("moves", none)) fd ["game", "play", "rule"] (spV K mg 3 f_moves) :=
  fn_okC (N := N_moves) F sc_moves fun cdv A outer s H E B hr =>
    (b_cons (sset 3 sc_moves.nd (cv (dv_place_2 G) (L2.takes_of rfl rfl rfl rfl) hr (by decide) (a_cons (fv (fld_Game_sizes G) (xv 0)) (a_cons (xv 1) a_nil)) (lenC (len_cons (len_cons len_nil)) rfl)))
    (b_one (SV.fr (s_ret (e_lc (d := 0) (own := [("person", 4), ("choice", 5), ("new", 6), ("more", 7)]) rfl sc_moves.nd (i_seq (cv (dv_arcs_3 G) (L2.takes_of rfl rfl rfl rfl) hr (by decide) (a_cons (xv 0) (a_cons (xv 3) (a_cons (xv 2) a_nil))) (lenC (len_cons (len_cons (len_cons len_nil))) rfl))) (blkOk_by (by rfl)) (by decide) (fun _ _ _ _ _ => (g_tup rfl (gs_cons (gname 4 sc_moves.nd) (gs_cons (gname 5 sc_moves.nd) (gs_cons (gname 6 sc_moves.nd) (gs_cons (gname 7 sc_moves.nd) gs_nil)))))) (fun _ _ _ _ _ => ts_nil) (fun _ _ _ _ _ => (e_tup (a_cons (xv 4) (a_cons (xv 5) a_nil)))))) 3)))
theorem dv_moves_3 {P : Program} {w : World} {K : PySem.W.Frag} {mg : MG} {base : Heap} (G : Fx P w K mg base) : DefV P w K mg base "moves" 3 ["game", "play", "rule"] f_moves [] := by
  obtain ⟨fd, F⟩ := G.d_moves
  have bd := (F.bindsN (ps := ["game", "play", "rule"]) fun _ _ _ _ _ _ us hl => match us, hl with | [_, _, _], _ => rfl)
  exact ⟨⟨_, fd, [], [], ok_moves G F, G.g_moves, F.kp, bd, .nil, fun _ => rfl⟩⟩
abbrev N_law_is_list : List Str := ["actual", "expected", "k", "j"]
theorem sc_law_is_list : FnScope N_law_is_list ["actual", "expected"] (defScope s_law_is_list) := ⟨rfl, rfl, rfl, by decide +kernel, rfl, by decide +kernel, by decide +kernel⟩
def b_law_is_list : VS := (seqS (ifS (orT (notT (boolOf (un1 (isV "list") (rd 0)))) (boolOf (bin2 neV (callN lenV (aCons (rd 0) aNil)) (callN lenV (aCons (rd 1) aNil)))))
    (retS (cst (.bl false)))
    nilS)
    (seqS (forS (walkR1 (callN lenV (aCons (rd 1) aNil))) (asg 2)
    (seqS (ifS (orT (notT (boolOf (un1 (isV "tuple") (bin2 ixV (rd 0) (rd 2))))) (boolOf (bin2 neV (callN lenV (aCons (bin2 ixV (rd 0) (rd 2)) aNil)) (callN lenV (aCons (bin2 ixV (rd 1) (rd 2)) aNil)))))
    (retS (cst (.bl false)))
    nilS)
    (forS (walkR1 (callN lenV (aCons (bin2 ixV (rd 1) (rd 2)) aNil))) (asg 3)
    (ifS (orT (notT (boolOf (callF f_law_is_whole [] (aCons (bin2 ixV (bin2 ixV (rd 0) (rd 2)) (rd 3)) aNil)))) (boolOf (bin2 neV (bin2 ixV (bin2 ixV (rd 0) (rd 2)) (rd 3)) (bin2 ixV (bin2 ixV (rd 1) (rd 2)) (rd 3)))))
    (retS (cst (.bl false)))
    nilS))))
    (retS (cst (.bl true)))))
def f_law_is_list : Fn := runFn 4 b_law_is_list
theorem ok_law_is_list {P : Program} {w : World} {K : PySem.W.Frag} {mg : MG} {base : Heap} {fd : FuncData} (G : Fx P w K mg base) (F : FunD K "_law_is_list" "_law_is_list" (defArgs s_law_is_list) (defBody s_law_is_list) (defScope s_law_is_list) [] [] (He.fAd K ("_law_is_list", none)) fd) : FnOk P w K mg base (L2.CX P w) 2 (He.fAd K ("_law_is_list", none)) fd ["actual", "expected"] (spV K mg 2 f_law_is_list) :=
  fn_okC (N := N_law_is_list) F sc_law_is_list fun cdv A outer s H E B hr =>
    (b_cons (s_if (w_or (t_not (t_val (xisty (xv 0) G.f_isinstance G.f_list PyProof.Rows.boot_list))) (w_or1 (tne hr (xlen G.f_len (a_cons (xv 0) a_nil)) (xlen G.f_len (a_cons (xv 1) a_nil))))).tv
    (b_one (s_ret e_bl))
    b_nil)
    (b_cons (s_for (L2.passes_of rfl) rfl (i_range1 (by rfl) G.f_range (xlen G.f_len (a_cons (xv 1) a_nil))) (gname 2 sc_law_is_list.nd)
    (b_cons (s_if (w_or (t_not (t_val (xisty (xix (xv 0) (xv 2)) G.f_isinstance G.f_tuple PyProof.Rows.boot_tuple))) (w_or1 (tne hr (xlen G.f_len (a_cons (xix (xv 0) (xv 2)) a_nil)) (xlen G.f_len (a_cons (xix (xv 1) (xv 2)) a_nil))))).tv
    (b_one (s_ret e_bl))
    b_nil)
    (b_one (s_for (L2.passes_of rfl) rfl (i_range1 (by rfl) G.f_range (xlen G.f_len (a_cons (xix (xv 1) (xv 2)) a_nil))) (gname 3 sc_law_is_list.nd)
    (b_one (s_if (w_or (t_not (t_val (cv (dv_law_is_whole_1 G) (L2.takes_of rfl rfl rfl rfl) hr (by decide) (a_cons (xix (xix (xv 0) (xv 2)) (xv 3)) a_nil) (lenC (len_cons len_nil) rfl)))) (w_or1 (tne hr (xix (xix (xv 0) (xv 2)) (xv 3)) (xix (xix (xv 1) (xv 2)) (xv 3))))).tv
    (b_one (s_ret e_bl))
    b_nil))))))
    (b_one (s_ret e_bl))))
theorem dv_law_is_list_2 {P : Program} {w : World} {K : PySem.W.Frag} {mg : MG} {base : Heap} (G : Fx P w K mg base) : DefV P w K mg base "_law_is_list" 2 ["actual", "expected"] f_law_is_list [] := by
  obtain ⟨fd, F⟩ := G.d_law_is_list
  have bd := (F.bindsN (ps := ["actual", "expected"]) fun _ _ _ _ _ _ us hl => match us, hl with | [_, _], _ => rfl)
  exact ⟨⟨_, fd, [], [], ok_law_is_list G F, G.g__law_is_list, F.kp, bd, .nil, fun _ => rfl⟩⟩
abbrev N_law_moves : List Str := ["sizes", "rows", "play", "rule", "found", "person", "gains", "choice"]
theorem sc_law_moves : FnScope N_law_moves ["sizes", "rows", "play", "rule"] (defScope s_law_moves) := ⟨rfl, rfl, rfl, by decide +kernel, rfl, by decide +kernel, by decide +kernel⟩
def b_law_moves : VS := (seqS (setS 4 (nilD 0))
    (seqS (forS (walkR1 (callN lenV (aCons (rd 0) aNil))) (asg 5)
    (seqS (setS 6 (lcV 0 (walkR1 (bin2 ixV (rd 0) (rd 5))) (asg 7) yesT (callF f_law_gain [] (aCons (rd 0) (aCons (rd 1) (aCons (rd 2) (aCons (rd 5) (aCons (rd 7) aNil)))))) [7]))
    (forS (walkR1 (bin2 ixV (rd 0) (rd 5))) (asg 7)
    (seqS (ifS (boolOf (bin2 eqV (rd 7) (bin2 ixV (rd 2) (rd 5))))
    contS
    nilS)
    (seqS (ifS (andT (boolOf (bin2 eqV (rd 3) (cst (.str "even")))) (boolOf (bin2 geV (bin2 ixV (rd 6) (rd 7)) (cst (.int 0)))))
    (apS 4 (pthN 4) (tupD (aCons (rd 5) (aCons (rd 7) aNil))))
    nilS)
    (seqS (ifS (andT (boolOf (bin2 eqV (rd 3) (cst (.str "better")))) (boolOf (bin2 gtV (bin2 ixV (rd 6) (rd 7)) (cst (.int 0)))))
    (apS 4 (pthN 4) (tupD (aCons (rd 5) (aCons (rd 7) aNil))))
    nilS)
    (frS 6 (ifS (andT (boolOf (bin2 eqV (rd 3) (cst (.str "best")))) (andT (boolOf (bin2 gtV (bin2 ixV (rd 6) (rd 7)) (cst (.int 0)))) (boolOf (bin2 eqV (bin2 ixV (rd 6) (rd 7)) (callN maxV (aCons (rd 6) aNil))))))
    (apS 4 (pthN 4) (tupD (aCons (rd 5) (aCons (rd 7) aNil))))
    nilS))))))))
    (retOwn 4)))
def f_law_moves : Fn := runFn 8 b_law_moves
theorem ok_law_moves {P : Program} {w : World} {K : PySem.W.Frag} {mg : MG} {base : Heap} {fd : FuncData} (G : Fx P w K mg base) (F : FunD K "_law_moves" "_law_moves" (defArgs s_law_moves) (defBody s_law_moves) (defScope s_law_moves) [] [] (He.fAd K ("_law_moves", none)) fd) : FnOk P w K mg base (L2.CX P w) 3 (He.fAd K ("_law_moves", none)) fd ["sizes", "rows", "play", "rule"] (spV K mg 4 f_law_moves) :=
  fn_okC (N := N_law_moves) F sc_law_moves fun cdv A outer s H E B hr =>
    (b_cons (sset 4 sc_law_moves.nd (e_nil (d := 0)))
    (b_cons (s_for (L2.passes_of rfl) rfl (i_range1 (by rfl) G.f_range (xlen G.f_len (a_cons (xv 0) a_nil))) (gname 5 sc_law_moves.nd)
    (b_cons (s_setLc (i := 6) (d := 0) (own := [("choice", 7)]) rfl sc_law_moves.nd rfl rfl (sw_true rfl rfl rfl (by decide +kernel)) (i_range1 (by rfl) G.f_range (xix (xv 0) (xv 5))) (blkOk_by (by rfl)) (by decide) (fun _ _ _ _ _ => (gname 7 sc_law_moves.nd)) (fun _ _ _ _ _ => ts_nil) (fun _ _ _ _ _ => (cv (dv_law_gain_5 G) L2.takes_none5 hr (by decide) (a_cons (xv 0) (a_cons (xv 1) (a_cons (xv 2) (a_cons (xv 5) (a_cons (xv 7) a_nil))))) (lenC (len_cons (len_cons (len_cons (len_cons (len_cons len_nil))))) rfl))))
    (b_one (s_for (L2.passes_of rfl) rfl (i_range1 (by rfl) G.f_range (xix (xv 0) (xv 5))) (gname 7 sc_law_moves.nd)
    (b_cons (s_if (teq hr (xv 7) (xix (xv 2) (xv 5)))
    (b_one s_continue)
    b_nil)
    (b_cons (s_if (w_and (teq hr (xv 3) e_str) (w_and1 (tge (xix (xv 6) (xv 7)) e_int))).tv
    (b_one (s_app (lname 4) (e_tup (a_cons (xv 5) (a_cons (xv 7) a_nil)))))
    b_nil)
    (b_cons (s_if (w_and (teq hr (xv 3) e_str) (w_and1 (tgt (xix (xv 6) (xv 7)) e_int))).tv
    (b_one (s_app (lname 4) (e_tup (a_cons (xv 5) (a_cons (xv 7) a_nil)))))
    b_nil)
    (b_one (SV.fr (s_if (w_and (teq hr (xv 3) e_str) (w_and (tgt (xix (xv 6) (xv 7)) e_int) (w_and1 (teq hr (xix (xv 6) (xv 7)) (xmax rfl hr G.f_max (a_cons (xv 6) a_nil)))))).tv
    (b_one (s_app (lname 4) (e_tup (a_cons (xv 5) (a_cons (xv 7) a_nil)))))
    b_nil) 6)))))))))
    (b_one (sretOwn 4))))
theorem dv_law_moves_4 {P : Program} {w : World} {K : PySem.W.Frag} {mg : MG} {base : Heap} (G : Fx P w K mg base) : DefV P w K mg base "_law_moves" 3 ["sizes", "rows", "play", "rule"] f_law_moves [] := by
  obtain ⟨fd, F⟩ := G.d_law_moves
  have bd := (F.bindsN (ps := ["sizes", "rows", "play", "rule"]) fun _ _ _ _ _ _ us hl => match us, hl with | [_, _, _, _], _ => rfl)
  exact ⟨⟨_, fd, [], [], ok_law_moves G F, G.g__law_moves, F.kp, bd, .nil, fun _ => rfl⟩⟩
abbrev N_slack : List Str := ["game", "play", "at", "person", "choice", "new", "more"]
theorem sc_slack : FnScope N_slack ["game", "play"] (defScope s_slack) := ⟨rfl, rfl, rfl, by decide +kernel, rfl, by decide +kernel, by decide +kernel⟩
def b_slack : VS := (seqS (setS 2 (callF f_place [] (aCons (fldE "Game" "sizes" (rd 0)) (aCons (rd 1) aNil))))
    (frS 2 (retS (callN maxV (aCons (bin2 addV (lstD (aCons (cst (.int 0)) aNil)) (lcV 0 (walkOf (callF f_arcs [] (aCons (rd 0) (aCons (rd 2) (aCons (cst (.str "better")) aNil))))) (gtup 4 (gcons (asg 3) (gcons (asg 4) (gcons (asg 5) (gcons (asg 6) gnil))))) yesT (rd 6) [3, 4, 5, 6])) aNil)))))
def f_slack : Fn := runFn 7 b_slack
theorem ok_slack {P : Program} {w : World} {K : PySem.W.Frag} {mg : MG} {base : Heap} {fd : FuncData} (G : Fx P w K mg base) (F : FunD K "slack" "slack" (defArgs s_slack) (defBody s_slack) (defScope s_slack) [] [] (He.fAd K ("slack", none)) fd) : FnOk P w K mg base (L2.CX P w) 3 (He.fAd K ("slack", none)) fd ["game", "play"] (spV K mg 2 f_slack) :=
  fn_okC (N := N_slack) F sc_slack fun cdv A outer s H E B hr =>
    (b_cons (sset 2 sc_slack.nd (cv (dv_place_2 G) (L2.takes_of rfl rfl rfl rfl) hr (by decide) (a_cons (fv (fld_Game_sizes G) (xv 0)) (a_cons (xv 1) a_nil)) (lenC (len_cons (len_cons len_nil)) rfl)))
    (b_one (SV.fr (s_ret (xmax rfl hr G.f_max (a_cons (xadd (e_lst (a_cons e_int a_nil)) (e_lc (d := 0) (own := [("person", 3), ("choice", 4), ("new", 5), ("more", 6)]) rfl sc_slack.nd (i_seq (cv (dv_arcs_3 G) (L2.takes_of rfl rfl rfl rfl) hr (by decide) (a_cons (xv 0) (a_cons (xv 2) (a_cons e_str a_nil))) (lenC (len_cons (len_cons (len_cons len_nil))) rfl))) (blkOk_by (by rfl)) (by decide) (fun _ _ _ _ _ => (g_tup rfl (gs_cons (gname 3 sc_slack.nd) (gs_cons (gname 4 sc_slack.nd) (gs_cons (gname 5 sc_slack.nd) (gs_cons (gname 6 sc_slack.nd) gs_nil)))))) (fun _ _ _ _ _ => ts_nil) (fun _ _ _ _ _ => (xv 6)))) a_nil))) 2)))
theorem dv_slack_2 {P : Program} {w : World} {K : PySem.W.Frag} {mg : MG} {base : Heap} (G : Fx P w K mg base) : DefV P w K mg base "slack" 3 ["game", "play"] f_slack [] := by
  obtain ⟨fd, F⟩ := G.d_slack
  have bd := (F.bindsN (ps := ["game", "play"]) fun _ _ _ _ _ _ us hl => match us, hl with | [_, _], _ => rfl)
  exact ⟨⟨_, fd, [], [], ok_slack G F, G.g_slack, F.kp, bd, .nil, fun _ => rfl⟩⟩
abbrev N_law_at_play : List Str := ["game", "sizes", "rows", "play", "most", "person", "choice", "due", "told", "rule"]
theorem sc_law_at_play : FnScope N_law_at_play ["game", "sizes", "rows", "play"] (defScope s_law_at_play) := ⟨rfl, rfl, rfl, by decide +kernel, rfl, by decide +kernel, by decide +kernel⟩
def b_law_at_play : VS := (seqS (setS 4 (cst (.int 0)))
    (seqS (forS (walkR1 (callN lenV (aCons (rd 1) aNil))) (asg 5)
    (forS (walkR1 (bin2 ixV (rd 1) (rd 5))) (asg 6)
    (seqS (setS 7 (callF f_law_gain [] (aCons (rd 1) (aCons (rd 2) (aCons (rd 3) (aCons (rd 5) (aCons (rd 6) aNil)))))))
    (seqS (setS 8 (callF f_gain [] (aCons (rd 0) (aCons (rd 3) (aCons (rd 5) (aCons (rd 6) aNil))))))
    (seqS (frS 8 (frS 7 (ifS (orT (notT (boolOf (callF f_law_is_whole [] (aCons (rd 8) aNil)))) (boolOf (bin2 neV (rd 8) (rd 7))))
    (retS (cst (.bl false)))
    nilS)))
    (frS 7 (setS 4 (callN maxV (aCons (rd 4) (aCons (rd 7) aNil))))))))))
    (seqS (forS (walkOf (lstD (aCons (cst (.str "better")) (aCons (cst (.str "best")) (aCons (cst (.str "even")) aNil))))) (asg 9)
    (seqS (setS 8 (callF f_moves [] (aCons (rd 0) (aCons (rd 3) (aCons (rd 9) aNil)))))
    (seqS (ifS (notT (boolOf (callF f_law_is_list [] (aCons (rd 8) (aCons (callF f_law_moves [] (aCons (rd 1) (aCons (rd 2) (aCons (rd 3) (aCons (rd 9) aNil))))) aNil)))))
    (retS (cst (.bl false)))
    nilS)
    (seqS (apS 8 (pthN 8) (tupD (aCons (cst (.int 0)) (aCons (cst (.int 0)) aNil))))
    (ifS (notT (boolOf (callF f_law_is_list [] (aCons (callF f_moves [] (aCons (rd 0) (aCons (rd 3) (aCons (rd 9) aNil)))) (aCons (callF f_law_moves [] (aCons (rd 1) (aCons (rd 2) (aCons (rd 3) (aCons (rd 9) aNil))))) aNil)))))
    (retS (cst (.bl false)))
    nilS)))))
    (seqS (setS 8 (callF f_slack [] (aCons (rd 0) (aCons (rd 3) aNil))))
    (frS 8 (retS (andV (callF f_law_is_whole [] (aCons (rd 8) aNil)) (bin2 eqV (rd 8) (rd 4)))))))))
def f_law_at_play : Fn := runFn 10 b_law_at_play
theorem ok_law_at_play {P : Program} {w : World} {K : PySem.W.Frag} {mg : MG} {base : Heap} {fd : FuncData} (G : Fx P w K mg base) (F : FunD K "_law_at_play" "_law_at_play" (defArgs s_law_at_play) (defBody s_law_at_play) (defScope s_law_at_play) [] [] (He.fAd K ("_law_at_play", none)) fd) : FnOk P w K mg base (L2.CX P w) 4 (He.fAd K ("_law_at_play", none)) fd ["game", "sizes", "rows", "play"] (spV K mg 4 f_law_at_play) :=
  fn_okC (N := N_law_at_play) F sc_law_at_play fun cdv A outer s H E B hr =>
    (b_cons (sset 4 sc_law_at_play.nd e_int)
    (b_cons (s_for (L2.passes_of rfl) rfl (i_range1 (by rfl) G.f_range (xlen G.f_len (a_cons (xv 1) a_nil))) (gname 5 sc_law_at_play.nd)
    (b_one (s_for (L2.passes_of rfl) rfl (i_range1 (by rfl) G.f_range (xix (xv 1) (xv 5))) (gname 6 sc_law_at_play.nd)
    (b_cons (sset 7 sc_law_at_play.nd (cv (dv_law_gain_5 G) (L2.takes_of rfl rfl rfl rfl) hr (by decide) (a_cons (xv 1) (a_cons (xv 2) (a_cons (xv 3) (a_cons (xv 5) (a_cons (xv 6) a_nil))))) (lenC (len_cons (len_cons (len_cons (len_cons (len_cons len_nil))))) rfl)))
    (b_cons (sset 8 sc_law_at_play.nd (cv (dv_gain_4 G) (L2.takes_of rfl rfl rfl rfl) hr (by decide) (a_cons (xv 0) (a_cons (xv 3) (a_cons (xv 5) (a_cons (xv 6) a_nil)))) (lenC (len_cons (len_cons (len_cons (len_cons len_nil)))) rfl)))
    (b_cons (SV.fr (SV.fr (s_if (w_or (t_not (t_val (cv (dv_law_is_whole_1 G) (L2.takes_of rfl rfl rfl rfl) hr (by decide) (a_cons (xv 8) a_nil) (lenC (len_cons len_nil) rfl)))) (w_or1 (tne hr (xv 8) (xv 7)))).tv
    (b_one (s_ret e_bl))
    b_nil) 7) 8)
    (b_one (SV.fr (sset 4 sc_law_at_play.nd (xmax rfl hr G.f_max (a_cons (xv 4) (a_cons (xv 7) a_nil)))) 7))))))))
    (b_cons (s_for (L2.passes_of rfl) rfl (i_seq (e_lst (a_cons e_str (a_cons e_str (a_cons e_str a_nil))))) (gname 9 sc_law_at_play.nd)
    (b_cons (sset 8 sc_law_at_play.nd (cv (dv_moves_3 G) (L2.takes_of rfl rfl rfl rfl) hr (by decide) (a_cons (xv 0) (a_cons (xv 3) (a_cons (xv 9) a_nil))) (lenC (len_cons (len_cons (len_cons len_nil))) rfl)))
    (b_cons (s_if (t_not (t_val (cv (dv_law_is_list_2 G) (L2.takes_of rfl rfl rfl rfl) hr (by decide) (a_cons (xv 8) (a_cons (cv (dv_law_moves_4 G) (L2.takes_of rfl rfl rfl rfl) hr (by decide) (a_cons (xv 1) (a_cons (xv 2) (a_cons (xv 3) (a_cons (xv 9) a_nil)))) (lenC (len_cons (len_cons (len_cons (len_cons len_nil)))) rfl)) a_nil)) (lenC (len_cons (len_cons len_nil)) rfl))))
    (b_one (s_ret e_bl))
    b_nil)
    (b_cons (s_app (lname 8) (e_tup (a_cons e_int (a_cons e_int a_nil))))
    (b_one (s_if (t_not (t_val (cv (dv_law_is_list_2 G) (L2.takes_of rfl rfl rfl rfl) hr (by decide) (a_cons (cv (dv_moves_3 G) (L2.takes_of rfl rfl rfl rfl) hr (by decide) (a_cons (xv 0) (a_cons (xv 3) (a_cons (xv 9) a_nil))) (lenC (len_cons (len_cons (len_cons len_nil))) rfl)) (a_cons (cv (dv_law_moves_4 G) (L2.takes_of rfl rfl rfl rfl) hr (by decide) (a_cons (xv 1) (a_cons (xv 2) (a_cons (xv 3) (a_cons (xv 9) a_nil)))) (lenC (len_cons (len_cons (len_cons (len_cons len_nil)))) rfl)) a_nil)) (lenC (len_cons (len_cons len_nil)) rfl))))
    (b_one (s_ret e_bl))
    b_nil))))))
    (b_cons (sset 8 sc_law_at_play.nd (cv (dv_slack_2 G) (L2.takes_of rfl rfl rfl rfl) hr (by decide) (a_cons (xv 0) (a_cons (xv 3) a_nil)) (lenC (len_cons (len_cons len_nil)) rfl)))
    (b_one (SV.fr (s_ret (e_and (cv (dv_law_is_whole_1 G) (L2.takes_of rfl rfl rfl rfl) hr (by decide) (a_cons (xv 8) a_nil) (lenC (len_cons len_nil) rfl)) (e_one (xeq hr (xv 8) (xv 4))))) 8))))))
theorem dv_law_at_play_4 {P : Program} {w : World} {K : PySem.W.Frag} {mg : MG} {base : Heap} (G : Fx P w K mg base) : DefV P w K mg base "_law_at_play" 4 ["game", "sizes", "rows", "play"] f_law_at_play [] := by
  obtain ⟨fd, F⟩ := G.d_law_at_play
  have bd := (F.bindsN (ps := ["game", "sizes", "rows", "play"]) fun _ _ _ _ _ _ us hl => match us, hl with | [_, _, _, _], _ => rfl)
  exact ⟨⟨_, fd, [], [], ok_law_at_play G F, G.g__law_at_play, F.kp, bd, .nil, fun _ => rfl⟩⟩
abbrev N_play_at : List Str := ["sizes", "at", "found", "size"]
theorem sc_play_at : FnScope N_play_at ["sizes", "at"] (defScope s_play_at) := ⟨rfl, rfl, rfl, by decide +kernel, rfl, by decide +kernel, by decide +kernel⟩
def b_play_at : VS := (seqS (ifS (notT (boolOf (chn leV ltV (cst (.int 0)) (rd 1) (callF f_count_plays [] (aCons (rd 0) aNil)))))
    (raiseS "BadPlay")
    nilS)
    (seqS (setS 2 (nilD 0))
    (seqS (forS (walkV (rd 0)) (asg 3)
    (seqS (apS 2 (pthN 2) (bin2 modV (rd 1) (rd 3)))
    (setS 1 (bin2 fdivV (rd 1) (rd 3)))))
    (frS 2 (retS (tupRevV (rd 2)))))))
def f_play_at : Fn := runFn 4 b_play_at
theorem ok_play_at {P : Program} {w : World} {K : PySem.W.Frag} {mg : MG} {base : Heap} {fd : FuncData} (G : Fx P w K mg base) (F : FunD K "play_at" "play_at" (defArgs s_play_at) (defBody s_play_at) (defScope s_play_at) [] [] (He.fAd K ("play_at", none)) fd) : FnOk P w K mg base (L2.CX P w) 2 (He.fAd K ("play_at", none)) fd ["sizes", "at"] (spV K mg 2 f_play_at) :=
  fn_okC (N := N_play_at) F sc_play_at fun cdv A outer s H E B hr =>
    (b_cons (s_if (t_not (t_chain op_le op_lt (op2_cmp fun _ _ => rfl) (nox_cmp fun _ _ => rfl) (op2_cmp fun _ _ => rfl) (nox_cmp fun _ _ => rfl) e_int (xv 1) (cv (dv_count_plays_1 G) (L2.takes_of rfl rfl rfl rfl) hr (by decide) (a_cons (xv 0) a_nil) (lenC (len_cons len_nil) rfl))))
    (b_one (sraise ⟨_, G.g_BadPlay, G.x_BadPlay⟩ rfl (L2.takes_of rfl rfl rfl rfl)))
    b_nil)
    (b_cons (sset 2 sc_play_at.nd (e_nil (d := 0)))
    (b_cons (s_for (L2.passes_of rfl) rfl (i_rev (by rfl) G.f_reversed (xv 0)) (gname 3 sc_play_at.nd)
    (b_cons (s_app (lname 2) (xmod (xv 1) (xv 3)))
    (b_one (sset 1 sc_play_at.nd (xdiv (xv 1) (xv 3))))))
    (b_one (SV.fr (s_ret (e_tupRev (by rfl) (by rfl) G.f_tuple (by rfl) G.f_reversed (xv 2))) 2)))))
theorem dv_play_at_2 {P : Program} {w : World} {K : PySem.W.Frag} {mg : MG} {base : Heap} (G : Fx P w K mg base) : DefV P w K mg base "play_at" 2 ["sizes", "at"] f_play_at [] := by
  obtain ⟨fd, F⟩ := G.d_play_at
  have bd := (F.bindsN (ps := ["sizes", "at"]) fun _ _ _ _ _ _ us hl => match us, hl with | [_, _], _ => rfl)
  exact ⟨⟨_, fd, [], [], ok_play_at G F, G.g_play_at, F.kp, bd, .nil, fun _ => rfl⟩⟩
abbrev N_rests : List Str := ["game", "found", "at"]
theorem sc_rests : FnScope N_rests ["game"] (defScope s_rests) := ⟨rfl, rfl, rfl, by decide +kernel, rfl, by decide +kernel, by decide +kernel⟩
def b_rests : VS := (seqS (setS 1 (nilD 0))
    (seqS (forS (walkR1 (callF f_count_plays [] (aCons (fldE "Game" "sizes" (rd 0)) aNil))) (asg 2)
    (ifS (boolOf (bin2 eqV (callN lenV (aCons (callF f_arcs [] (aCons (rd 0) (aCons (rd 2) (aCons (cst (.str "better")) aNil)))) aNil)) (cst (.int 0))))
    (apS 1 (pthN 1) (callF f_play_at [] (aCons (fldE "Game" "sizes" (rd 0)) (aCons (rd 2) aNil))))
    nilS))
    (retOwn 1)))
def f_rests : Fn := runFn 3 b_rests
theorem ok_rests {P : Program} {w : World} {K : PySem.W.Frag} {mg : MG} {base : Heap} {fd : FuncData} (G : Fx P w K mg base) (F : FunD K "rests" "rests" (defArgs s_rests) (defBody s_rests) (defScope s_rests) [] [] (He.fAd K ("rests", none)) fd) : FnOk P w K mg base (L2.CX P w) 3 (He.fAd K ("rests", none)) fd ["game"] (spV K mg 1 f_rests) :=
  fn_okC (N := N_rests) F sc_rests fun cdv A outer s H E B hr =>
    (b_cons (sset 1 sc_rests.nd (e_nil (d := 0)))
    (b_cons (s_for (L2.passes_of rfl) rfl (i_range1 (by rfl) G.f_range (cv (dv_count_plays_1 G) (L2.takes_of rfl rfl rfl rfl) hr (by decide) (a_cons (fv (fld_Game_sizes G) (xv 0)) a_nil) (lenC (len_cons len_nil) rfl))) (gname 2 sc_rests.nd)
    (b_one (s_if (teq hr (xlen G.f_len (a_cons (cv (dv_arcs_3 G) (L2.takes_of rfl rfl rfl rfl) hr (by decide) (a_cons (xv 0) (a_cons (xv 2) (a_cons e_str a_nil))) (lenC (len_cons (len_cons (len_cons len_nil))) rfl)) a_nil)) e_int)
    (b_one (s_app (lname 1) (cv (dv_play_at_2 G) (L2.takes_of rfl rfl rfl rfl) hr (by decide) (a_cons (fv (fld_Game_sizes G) (xv 0)) (a_cons (xv 2) a_nil)) (lenC (len_cons (len_cons len_nil)) rfl))))
    b_nil)))
    (b_one (sretOwn 1))))
theorem dv_rests_1 {P : Program} {w : World} {K : PySem.W.Frag} {mg : MG} {base : Heap} (G : Fx P w K mg base) : DefV P w K mg base "rests" 3 ["game"] f_rests [] := by
  obtain ⟨fd, F⟩ := G.d_rests
  have bd := (F.bindsN (ps := ["game"]) fun _ _ _ _ _ _ us hl => match us, hl with | [_], _ => rfl)
  exact ⟨⟨_, fd, [], [], ok_rests G F, G.g_rests, F.kp, bd, .nil, fun _ => rfl⟩⟩
abbrev N_law_bad_play : List Str := ["sizes", "play", "draw", "kind", "k"]
theorem sc_law_bad_play : FnScope N_law_bad_play ["sizes", "play", "draw"] (defScope s_law_bad_play) := ⟨rfl, rfl, rfl, by decide +kernel, rfl, by decide +kernel, by decide +kernel⟩
def b_law_bad_play : VS := (seqS (setS 3 (bin2 modV (callN intV (aCons (rd 2) aNil)) (cst (.int 4))))
    (seqS (setS 4 (bin2 modV (callN intV (aCons (bin2 fdivV (rd 2) (cst (.int 4))) aNil)) (callN lenV (aCons (rd 0) aNil))))
    (seqS (ifS (boolOf (bin2 eqV (rd 3) (cst (.int 0))))
    (retS (bin2 addV (sl3 (rd 1) noB (intB (rd 4))) (sl3 (rd 1) (intB (bin2 addV (rd 4) (cst (.int 1)))) noB)))
    nilS)
    (seqS (ifS (boolOf (bin2 eqV (rd 3) (cst (.int 1))))
    (retS (bin2 addV (rd 1) (tupD (aCons (cst (.int 0)) aNil))))
    nilS)
    (seqS (ifS (boolOf (bin2 eqV (rd 3) (cst (.int 2))))
    (retS (bin2 addV (bin2 addV (sl3 (rd 1) noB (intB (rd 4))) (tupD (aCons (un1 negV (cst (.int 1))) aNil))) (sl3 (rd 1) (intB (bin2 addV (rd 4) (cst (.int 1)))) noB)))
    nilS)
    (retS (bin2 addV (bin2 addV (sl3 (rd 1) noB (intB (rd 4))) (tupD (aCons (bin2 ixV (rd 0) (rd 4)) aNil))) (sl3 (rd 1) (intB (bin2 addV (rd 4) (cst (.int 1)))) noB))))))))
def f_law_bad_play : Fn := runFn 5 b_law_bad_play
theorem ok_law_bad_play {P : Program} {w : World} {K : PySem.W.Frag} {mg : MG} {base : Heap} {fd : FuncData} (G : Fx P w K mg base) (F : FunD K "_law_bad_play" "_law_bad_play" (defArgs s_law_bad_play) (defBody s_law_bad_play) (defScope s_law_bad_play) [] [] (He.fAd K ("_law_bad_play", none)) fd) : FnOk P w K mg base (L2.CX P w) 1 (He.fAd K ("_law_bad_play", none)) fd ["sizes", "play", "draw"] (spV K mg 3 f_law_bad_play) :=
  fn_okC (N := N_law_bad_play) F sc_law_bad_play fun cdv A outer s H E B hr =>
    (b_cons (sset 3 sc_law_bad_play.nd (xmod (xint G.f_int (a_cons (xv 2) a_nil)) e_int))
    (b_cons (sset 4 sc_law_bad_play.nd (xmod (xint G.f_int (a_cons (xdiv (xv 2) e_int) a_nil)) (xlen G.f_len (a_cons (xv 0) a_nil))))
    (b_cons (s_if (teq hr (xv 3) e_int)
    (b_one (s_ret (xadd (e_slice (xv 1) o_none (o_some (xv 4))) (e_slice (xv 1) (o_some (xadd (xv 4) e_int)) o_none))))
    b_nil)
    (b_cons (s_if (teq hr (xv 3) e_int)
    (b_one (s_ret (xadd (xv 1) (e_tup (a_cons e_int a_nil)))))
    b_nil)
    (b_cons (s_if (teq hr (xv 3) e_int)
    (b_one (s_ret (xadd (xadd (e_slice (xv 1) o_none (o_some (xv 4))) (e_tup (a_cons (xneg e_int) a_nil))) (e_slice (xv 1) (o_some (xadd (xv 4) e_int)) o_none))))
    b_nil)
    (b_one (s_ret (xadd (xadd (e_slice (xv 1) o_none (o_some (xv 4))) (e_tup (a_cons (xix (xv 0) (xv 4)) a_nil))) (e_slice (xv 1) (o_some (xadd (xv 4) e_int)) o_none)))))))))
theorem dv_law_bad_play_3 {P : Program} {w : World} {K : PySem.W.Frag} {mg : MG} {base : Heap} (G : Fx P w K mg base) : DefV P w K mg base "_law_bad_play" 1 ["sizes", "play", "draw"] f_law_bad_play [] := by
  obtain ⟨fd, F⟩ := G.d_law_bad_play
  have bd := (F.bindsN (ps := ["sizes", "play", "draw"]) fun _ _ _ _ _ _ us hl => match us, hl with | [_, _, _], _ => rfl)
  exact ⟨⟨_, fd, [], [], ok_law_bad_play G F, G.g__law_bad_play, F.kp, bd, .nil, fun _ => rfl⟩⟩
abbrev N_Game_pay : List Str := ["self", "play", "person", "at"]
theorem sc_Game_pay : FnScope N_Game_pay ["self", "play", "person"] (defScope s_Game_pay) := ⟨rfl, rfl, rfl, by decide +kernel, rfl, by decide +kernel, by decide +kernel⟩
def b_Game_pay : VS := (seqS (setS 3 (callF f_place [] (aCons (fldE "Game" "sizes" (rd 0)) (aCons (rd 1) aNil))))
    (seqS (ifS (notT (boolOf (chn leV ltV (cst (.int 0)) (rd 2) (callN lenV (aCons (fldE "Game" "sizes" (rd 0)) aNil)))))
    (raiseS "BadPlay")
    nilS)
    (retS (bin2 ixV (bin2 ixV (fldE "Game" "pays" (rd 0)) (rd 2)) (rd 3)))))
def f_Game_pay : Fn := runFn 4 b_Game_pay
theorem ok_Game_pay {P : Program} {w : World} {K : PySem.W.Frag} {mg : MG} {base : Heap} {fd : FuncData} (G : Fx P w K mg base) (F : FunD K "pay" "Game.pay" (defArgs s_Game_pay) (defBody s_Game_pay) (defScope s_Game_pay) [] [] (He.fAd K ("Game", some "pay")) fd) : FnOk P w K mg base (L2.CX P w) 3 (He.fAd K ("Game", some "pay")) fd ["self", "play", "person"] (spV K mg 3 f_Game_pay) :=
  fn_okC (N := N_Game_pay) F sc_Game_pay fun cdv A outer s H E B hr =>
    (b_cons (sset 3 sc_Game_pay.nd (cv (dv_place_2 G) (L2.takes_of rfl rfl rfl rfl) hr (by decide) (a_cons (fv (fld_Game_sizes G) (xv 0)) (a_cons (xv 1) a_nil)) (lenC (len_cons (len_cons len_nil)) rfl)))
    (b_cons (s_if (t_not (t_chain op_le op_lt (op2_cmp fun _ _ => rfl) (nox_cmp fun _ _ => rfl) (op2_cmp fun _ _ => rfl) (nox_cmp fun _ _ => rfl) e_int (xv 2) (xlen G.f_len (a_cons (fv (fld_Game_sizes G) (xv 0)) a_nil))))
    (b_one (sraise ⟨_, G.g_BadPlay, G.x_BadPlay⟩ rfl (L2.takes_of rfl rfl rfl rfl)))
    b_nil)
    (b_one (s_ret (xix (xix (fv (fld_Game_pays G) (xv 0)) (xv 2)) (xv 3))))))
theorem mv_Game_pay_2 {P : Program} {w : World} {K : PySem.W.Frag} {mg : MG} {base : Heap} (G : Fx P w K mg base) : MethV P w K mg base "Game" "pay" 3 ["self", "play", "person"] f_Game_pay [] := by
  obtain ⟨fd, F⟩ := G.d_Game_pay
  have bd := (F.bindsN (ps := ["self", "play", "person"]) fun _ _ _ _ _ _ us hl => match us, hl with | [_, _, _], _ => rfl)
  exact ⟨⟨_, _, _, fd, [], [], cls_Game G, G.m_Game_pay, ok_Game_pay G F, bd, .nil, fun _ => rfl⟩⟩
theorem cls_Table {P : Program} {w : World} {K : PySem.W.Frag} {mg : MG} {base : Heap} (G : Fx P w K mg base) : ClsF K mg "Table" (He.ga K "Table") ["sizes", "numbers", "over"] := ⟨G.g_Table, G.c_Table, fun f h => by
  simp only [List.mem_cons, List.not_mem_nil, or_false] at h
  rcases h with rfl | rfl | rfl
  · exact G.n_Table_sizes
  · exact G.n_Table_numbers
  · exact G.n_Table_over⟩
theorem fld_Table_sizes {P : Program} {w : World} {K : PySem.W.Frag} {mg : MG} {base : Heap} (G : Fx P w K mg base) : FldV K mg "Table" "sizes" := ⟨_, _, cls_Table G, by simp⟩
theorem fld_Table_numbers {P : Program} {w : World} {K : PySem.W.Frag} {mg : MG} {base : Heap} (G : Fx P w K mg base) : FldV K mg "Table" "numbers" := ⟨_, _, cls_Table G, by simp⟩
theorem fld_Table_over {P : Program} {w : World} {K : PySem.W.Frag} {mg : MG} {base : Heap} (G : Fx P w K mg base) : FldV K mg "Table" "over" := ⟨_, _, cls_Table G, by simp⟩
abbrev N_Table_init : List Str := ["self", "sizes", "numbers", "over", "common", "number"]
theorem sc_Table_init : FnScope N_Table_init ["self", "sizes", "numbers", "over"] (defScope s_Table_init) := ⟨rfl, rfl, rfl, by decide +kernel, rfl, by decide +kernel, by decide +kernel⟩
def b_Table_init : VS := (seqS (fldS 0 "Table" "sizes" (callF f_check_sizes [] (aCons (rd 1) aNil)))
    (seqS (ifS (orT (boolOf (bin2 neV (callN lenV (aCons (rd 2) aNil)) (callF f_count_plays [] (aCons (rd 1) aNil)))) (boolOf (bin2 ltV (rd 3) (cst (.int 1)))))
    badS
    nilS)
    (seqS (setS 4 (callF f_divisor [] (aCons (rd 2) (aCons (rd 3) aNil))))
    (seqS (frS 4 (fldS 0 "Table" "numbers" (callN tupleV (aCons (lcV 0 (walkOf (rd 2)) (asg 5) yesT (bin2 fdivV (rd 5) (rd 4)) [5]) aNil))))
    (frS 4 (fldS 0 "Table" "over" (bin2 fdivV (rd 3) (rd 4))))))))
def f_Table_init : FnI := runInit 6 "Table" b_Table_init
theorem ok_Table_init {P : Program} {w : World} {K : PySem.W.Frag} {mg : MG} {base : Heap} {fd : FuncData} (G : Fx P w K mg base) (F : FunD K "__init__" "Table.__init__" (defArgs s_Table_init) (defBody s_Table_init) (defScope s_Table_init) [.int 1] [] (He.fAd K ("Table", some "__init__")) fd) : FnOk P w K mg base (L2.CX P w) 3 (He.fAd K ("Table", some "__init__")) fd ["self", "sizes", "numbers", "over"] (spI K mg "Table" 4 f_Table_init) :=
  init_okC (N := N_Table_init) F sc_Table_init (by decide) fun cdv A outer s H E B hr =>
    (b_cons (sfld 0 (fld_Table_sizes G) (cv (dv_check_sizes_1 G) (L2.takes_of rfl rfl rfl rfl) hr (by decide) (a_cons (xv 1) a_nil) (lenC (len_cons len_nil) rfl)))
    (b_cons (s_if (w_or (tne hr (xlen G.f_len (a_cons (xv 2) a_nil)) (cv (dv_count_plays_1 G) (L2.takes_of rfl rfl rfl rfl) hr (by decide) (a_cons (xv 1) a_nil) (lenC (len_cons len_nil) rfl))) (w_or1 (tlt (xv 3) e_int))).tv
    (b_one s_never)
    b_nil)
    (b_cons (sset 4 sc_Table_init.nd (cv (dv_divisor_2 G) (L2.takes_of rfl rfl rfl rfl) hr (by decide) (a_cons (xv 2) (a_cons (xv 3) a_nil)) (lenC (len_cons (len_cons len_nil)) rfl)))
    (b_cons (SV.fr (sfld 0 (fld_Table_numbers G) (xtuple G.f_tuple (a_cons (e_lc (d := 0) (own := [("number", 5)]) rfl sc_Table_init.nd (i_seq (xv 2)) (blkOk_by (by rfl)) (by decide) (fun _ _ _ _ _ => (gname 5 sc_Table_init.nd)) (fun _ _ _ _ _ => ts_nil) (fun _ _ _ _ _ => (xdiv (xv 5) (xv 4)))) a_nil))) 4)
    (b_one (SV.fr (sfld 0 (fld_Table_over G) (xdiv (xv 3) (xv 4))) 4))))))
theorem mk_Table_init_3 {P : Program} {w : World} {K : PySem.W.Frag} {mg : MG} {base : Heap} (G : Fx P w K mg base) : MakeV P w K mg base "Table" 3 ["self", "sizes", "numbers", "over"] f_Table_init [] := by
  obtain ⟨fd, F⟩ := G.d_Table_init
  obtain ⟨ds, hv, bd⟩ := (F.binds1 (ps := ["self", "sizes", "numbers", "over"]) 4 1 (by simp) rfl fun _ _ _ _ _ _ _ us its hl hi => match us, its, hl, hi with | [_, _, _, _], [_], _, _ => ⟨_, rfl, rfl⟩)
  exact ⟨⟨_, _, fd, ds, _, G.g_Table, G.mk_Table, ok_Table_init G F, bd, hv, fun _ => rfl⟩⟩
abbrev N_Game_row : List Str := ["self", "person"]
theorem sc_Game_row : FnScope N_Game_row ["self", "person"] (defScope s_Game_row) := ⟨rfl, rfl, rfl, by decide +kernel, rfl, by decide +kernel, by decide +kernel⟩
def b_Game_row : VS := (seqS (ifS (notT (boolOf (chn leV ltV (cst (.int 0)) (rd 1) (callN lenV (aCons (fldE "Game" "sizes" (rd 0)) aNil)))))
    (raiseS "BadPlay")
    nilS)
    (retS (makeF "Table" f_Table_init [] (aCons (fldE "Game" "sizes" (rd 0)) (aCons (bin2 ixV (fldE "Game" "pays" (rd 0)) (rd 1)) (aCons (fldE "Game" "over" (rd 0)) aNil))))))
def f_Game_row : Fn := runFn 2 b_Game_row
theorem ok_Game_row {P : Program} {w : World} {K : PySem.W.Frag} {mg : MG} {base : Heap} {fd : FuncData} (G : Fx P w K mg base) (F : FunD K "row" "Game.row" (defArgs s_Game_row) (defBody s_Game_row) (defScope s_Game_row) [] [] (He.fAd K ("Game", some "row")) fd) : FnOk P w K mg base (L2.CX P w) 5 (He.fAd K ("Game", some "row")) fd ["self", "person"] (spV K mg 2 f_Game_row) :=
  fn_okC (N := N_Game_row) F sc_Game_row fun cdv A outer s H E B hr =>
    (b_cons (s_if (t_not (t_chain op_le op_lt (op2_cmp fun _ _ => rfl) (nox_cmp fun _ _ => rfl) (op2_cmp fun _ _ => rfl) (nox_cmp fun _ _ => rfl) e_int (xv 1) (xlen G.f_len (a_cons (fv (fld_Game_sizes G) (xv 0)) a_nil))))
    (b_one (sraise ⟨_, G.g_BadPlay, G.x_BadPlay⟩ rfl (L2.takes_of rfl rfl rfl rfl)))
    b_nil)
    (b_one (s_ret (mk (mk_Table_init_3 G) (L2.takes_of rfl rfl rfl rfl) hr (by decide) (a_cons (fv (fld_Game_sizes G) (xv 0)) (a_cons (xix (fv (fld_Game_pays G) (xv 0)) (xv 1)) (a_cons (fv (fld_Game_over G) (xv 0)) a_nil))) (lenM (len_cons (len_cons (len_cons len_nil))) rfl)))))
theorem mv_Game_row_1 {P : Program} {w : World} {K : PySem.W.Frag} {mg : MG} {base : Heap} (G : Fx P w K mg base) : MethV P w K mg base "Game" "row" 5 ["self", "person"] f_Game_row [] := by
  obtain ⟨fd, F⟩ := G.d_Game_row
  have bd := (F.bindsN (ps := ["self", "person"]) fun _ _ _ _ _ _ us hl => match us, hl with | [_, _], _ => rfl)
  exact ⟨⟨_, _, _, fd, [], [], cls_Game G, G.m_Game_row, ok_Game_row G F, bd, .nil, fun _ => rfl⟩⟩
abbrev N_Table_at : List Str := ["self", "play"]
theorem sc_Table_at : FnScope N_Table_at ["self", "play"] (defScope s_Table_at) := ⟨rfl, rfl, rfl, by decide +kernel, rfl, by decide +kernel, by decide +kernel⟩
def b_Table_at : VS := (retS (bin2 ixV (fldE "Table" "numbers" (rd 0)) (callF f_place [] (aCons (fldE "Table" "sizes" (rd 0)) (aCons (rd 1) aNil)))))
def f_Table_at : Fn := runFn 2 b_Table_at
theorem ok_Table_at {P : Program} {w : World} {K : PySem.W.Frag} {mg : MG} {base : Heap} {fd : FuncData} (G : Fx P w K mg base) (F : FunD K "at" "Table.at" (defArgs s_Table_at) (defBody s_Table_at) (defScope s_Table_at) [] [] (He.fAd K ("Table", some "at")) fd) : FnOk P w K mg base (L2.CX P w) 3 (He.fAd K ("Table", some "at")) fd ["self", "play"] (spV K mg 2 f_Table_at) :=
  fn_okC (N := N_Table_at) F sc_Table_at fun cdv A outer s H E B hr =>
    (b_one (s_ret (xix (fv (fld_Table_numbers G) (xv 0)) (cv (dv_place_2 G) (L2.takes_of rfl rfl rfl rfl) hr (by decide) (a_cons (fv (fld_Table_sizes G) (xv 0)) (a_cons (xv 1) a_nil)) (lenC (len_cons (len_cons len_nil)) rfl)))))
theorem mv_Table_at_1 {P : Program} {w : World} {K : PySem.W.Frag} {mg : MG} {base : Heap} (G : Fx P w K mg base) : MethV P w K mg base "Table" "at" 3 ["self", "play"] f_Table_at [] := by
  obtain ⟨fd, F⟩ := G.d_Table_at
  have bd := (F.bindsN (ps := ["self", "play"]) fun _ _ _ _ _ _ us hl => match us, hl with | [_, _], _ => rfl)
  exact ⟨⟨_, _, _, fd, [], [], cls_Table G, G.m_Table_at, ok_Table_at G F, bd, .nil, fun _ => rfl⟩⟩
abbrev N_Game_with_pay : List Str := ["self", "play", "person", "a", "b", "at", "pays", "pay", "row"]
theorem sc_Game_with_pay : FnScope N_Game_with_pay ["self", "play", "person", "a", "b"] (defScope s_Game_with_pay) := ⟨rfl, rfl, rfl, by decide +kernel, rfl, by decide +kernel, by decide +kernel⟩
def b_Game_with_pay : VS := (seqS (setS 5 (callF f_place [] (aCons (fldE "Game" "sizes" (rd 0)) (aCons (rd 1) aNil))))
    (seqS (ifS (notT (boolOf (chn leV ltV (cst (.int 0)) (rd 2) (callN lenV (aCons (fldE "Game" "sizes" (rd 0)) aNil)))))
    (raiseS "BadPlay")
    nilS)
    (seqS (ifS (boolOf (bin2 ltV (rd 4) (cst (.int 1))))
    badS
    nilS)
    (seqS (setS 6 (lcV 1 (walkOf (fldE "Game" "pays" (rd 0))) (asg 8) yesT (lcV 0 (walkOf (rd 8)) (asg 7) yesT (bin2 mulV (rd 7) (rd 4)) [7]) [8]))
    (seqS (ixS 6 (pthI 6 (pthN 6) (rd 2)) (rd 5) (bin2 mulV (rd 3) (fldE "Game" "over" (rd 0))))
    (frS 6 (retS (makeF "Game" f_Game_init [] (aCons (fldE "Game" "sizes" (rd 0)) (aCons (rd 6) (aCons (bin2 mulV (fldE "Game" "over" (rd 0)) (rd 4)) aNil)))))))))))
def f_Game_with_pay : Fn := runFn 9 b_Game_with_pay
theorem ok_Game_with_pay {P : Program} {w : World} {K : PySem.W.Frag} {mg : MG} {base : Heap} {fd : FuncData} (G : Fx P w K mg base) (F : FunD K "with_pay" "Game.with_pay" (defArgs s_Game_with_pay) (defBody s_Game_with_pay) (defScope s_Game_with_pay) [.int 1] [] (He.fAd K ("Game", some "with_pay")) fd) : FnOk P w K mg base (L2.CX P w) 5 (He.fAd K ("Game", some "with_pay")) fd ["self", "play", "person", "a", "b"] (spV K mg 5 f_Game_with_pay) :=
  fn_okC (N := N_Game_with_pay) F sc_Game_with_pay fun cdv A outer s H E B hr =>
    (b_cons (sset 5 sc_Game_with_pay.nd (cv (dv_place_2 G) (L2.takes_of rfl rfl rfl rfl) hr (by decide) (a_cons (fv (fld_Game_sizes G) (xv 0)) (a_cons (xv 1) a_nil)) (lenC (len_cons (len_cons len_nil)) rfl)))
    (b_cons (s_if (t_not (t_chain op_le op_lt (op2_cmp fun _ _ => rfl) (nox_cmp fun _ _ => rfl) (op2_cmp fun _ _ => rfl) (nox_cmp fun _ _ => rfl) e_int (xv 2) (xlen G.f_len (a_cons (fv (fld_Game_sizes G) (xv 0)) a_nil))))
    (b_one (sraise ⟨_, G.g_BadPlay, G.x_BadPlay⟩ rfl (L2.takes_of rfl rfl rfl rfl)))
    b_nil)
    (b_cons (s_if (tlt (xv 4) e_int)
    (b_one s_never)
    b_nil)
    (b_cons (s_setLc (i := 6) (d := 1) (own := [("row", 8)]) rfl sc_Game_with_pay.nd rfl rfl (sw_true rfl rfl rfl (by decide +kernel)) (i_seq (fv (fld_Game_pays G) (xv 0))) (blkOk_by (by rfl)) (by decide) (fun _ _ _ _ _ => (gname 8 sc_Game_with_pay.nd)) (fun _ _ _ _ _ => ts_nil) (fun _ _ _ _ _ => (e_lc (d := 0) (own := [("pay", 7)]) rfl sc_Game_with_pay.nd (i_seq (xv 8)) (blkOk_by (by rfl)) (by decide) (fun _ _ _ _ _ => (gname 7 sc_Game_with_pay.nd)) (fun _ _ _ _ _ => ts_nil) (fun _ _ _ _ _ => (xmul (xv 7) (xv 4))))))
    (b_cons (s_ixS (lv_ix (lname 6) (xv 2) (fun _ _ => rfl)) (xv 5) (xmul (xv 3) (fv (fld_Game_over G) (xv 0))))
    (b_one (SV.fr (s_ret (mk (mk_Game_init_3 G) (L2.takes_of rfl rfl rfl rfl) hr (by decide) (a_cons (fv (fld_Game_sizes G) (xv 0)) (a_cons (xv 6) (a_cons (xmul (fv (fld_Game_over G) (xv 0)) (xv 4)) a_nil))) (lenM (len_cons (len_cons (len_cons len_nil))) rfl))) 6)))))))
theorem mv_Game_with_pay_4 {P : Program} {w : World} {K : PySem.W.Frag} {mg : MG} {base : Heap} (G : Fx P w K mg base) : MethV P w K mg base "Game" "with_pay" 5 ["self", "play", "person", "a", "b"] f_Game_with_pay [] := by
  obtain ⟨fd, F⟩ := G.d_Game_with_pay
  obtain ⟨ds, hv, bd⟩ := (F.binds1 (ps := ["self", "play", "person", "a", "b"]) 5 1 (by simp) rfl fun _ _ _ _ _ _ _ us its hl hi => match us, its, hl, hi with | [_, _, _, _, _], [_], _, _ => ⟨_, rfl, rfl⟩)
  exact ⟨⟨_, _, _, fd, ds, _, cls_Game G, G.m_Game_with_pay, ok_Game_with_pay G F, bd, hv, fun _ => rfl⟩⟩
theorem mv_Game_with_pay_3 {P : Program} {w : World} {K : PySem.W.Frag} {mg : MG} {base : Heap} (G : Fx P w K mg base) : MethV P w K mg base "Game" "with_pay" 5 ["self", "play", "person", "a", "b"] f_Game_with_pay [.int 1] := by
  obtain ⟨fd, F⟩ := G.d_Game_with_pay
  obtain ⟨ds, hv, bd⟩ := (F.binds1 (ps := ["self", "play", "person", "a", "b"]) 4 0 (by simp) rfl fun _ _ _ _ _ _ _ us its hl hi => match us, its, hl, hi with | [_, _, _, _], [_], _, _ => ⟨_, rfl, rfl⟩)
  exact ⟨⟨_, _, _, fd, ds, _, cls_Game G, G.m_Game_with_pay, ok_Game_with_pay G F, bd, hv, fun _ => ⟨_, _, rfl, rep_int, rfl⟩⟩⟩
abbrev N_law_refuses : List Str := ["deed", "game", "play", "bad", "person", "choice", "told", "e"]
theorem sc_law_refuses : FnScope N_law_refuses ["deed", "game", "play", "bad", "person", "choice"] (defScope s_law_refuses) := ⟨rfl, rfl, rfl, by decide +kernel, rfl, by decide +kernel, by decide +kernel⟩
def b_law_refuses : VS := (seqS (setS 6 (cst (.int 0)))
    (seqS (tryS 7 mt_Fault (ifS (boolOf (bin2 eqV (rd 0) (cst (.int 0))))
    (setS 6 (callF f_gain [] (aCons (rd 1) (aCons (rd 3) (aCons (cst (.int 0)) (aCons (cst (.int 0)) aNil))))))
    (ifS (boolOf (bin2 eqV (rd 0) (cst (.int 1))))
    (setS 6 (callF f_gain [] (aCons (rd 1) (aCons (rd 2) (aCons (rd 4) (aCons (cst (.int 0)) aNil))))))
    (ifS (boolOf (bin2 eqV (rd 0) (cst (.int 2))))
    (setS 6 (callF f_gain [] (aCons (rd 1) (aCons (rd 2) (aCons (cst (.int 0)) (aCons (rd 5) aNil))))))
    (ifS (boolOf (bin2 eqV (rd 0) (cst (.int 3))))
    (setS 6 (callF f_moves [] (aCons (rd 1) (aCons (rd 3) (aCons (cst (.str "better")) aNil)))))
    (ifS (boolOf (bin2 eqV (rd 0) (cst (.int 4))))
    (setS 6 (callF f_slack [] (aCons (rd 1) (aCons (rd 3) aNil))))
    (ifS (boolOf (bin2 eqV (rd 0) (cst (.int 5))))
    (setS 6 (methF "Game" "pay" f_Game_pay [] (rd 1) (aCons (rd 3) (aCons (cst (.int 0)) aNil))))
    (ifS (boolOf (bin2 eqV (rd 0) (cst (.int 6))))
    (setS 6 (methF "Game" "pay" f_Game_pay [] (rd 1) (aCons (rd 2) (aCons (rd 4) aNil))))
    (ifS (boolOf (bin2 eqV (rd 0) (cst (.int 7))))
    (setS 6 (methF "Game" "row" f_Game_row [] (rd 1) (aCons (rd 4) aNil)))
    (ifS (boolOf (bin2 eqV (rd 0) (cst (.int 8))))
    (setS 6 (methF "Table" "at" f_Table_at [] (methF "Game" "row" f_Game_row [] (rd 1) (aCons (cst (.int 0)) aNil)) (aCons (rd 3) aNil)))
    (ifS (boolOf (bin2 eqV (rd 0) (cst (.int 9))))
    (setS 6 (methF "Game" "with_pay" f_Game_with_pay [] (rd 1) (aCons (rd 3) (aCons (cst (.int 0)) (aCons (cst (.int 1)) (aCons (cst (.int 0)) aNil))))))
    (setS 6 (methF "Game" "with_pay" f_Game_with_pay [.int 1] (rd 1) (aCons (rd 2) (aCons (rd 4) (aCons (cst (.int 1)) aNil)))))))))))))))
    (retS (andV (isE 7 is_BadPlay) (andV (notE (isE 7 is_BadGame)) (notE (isE 7 is_TooMany))))))
    (retS (cst (.bl false)))))
def f_law_refuses : Fn := runFn 8 b_law_refuses
theorem ok_law_refuses {P : Program} {w : World} {K : PySem.W.Frag} {mg : MG} {base : Heap} {fd : FuncData} (G : Fx P w K mg base) (F : FunD K "_law_refuses" "_law_refuses" (defArgs s_law_refuses) (defBody s_law_refuses) (defScope s_law_refuses) [] [] (He.fAd K ("_law_refuses", none)) fd) : FnOk P w K mg base (L2.CX P w) 6 (He.fAd K ("_law_refuses", none)) fd ["deed", "game", "play", "bad", "person", "choice"] (spV K mg 6 f_law_refuses) :=
  fn_okC (N := N_law_refuses) F sc_law_refuses fun cdv A outer s H E B hr =>
    (b_cons (sset 6 sc_law_refuses.nd e_int)
    (b_cons (try_as (mt := mt_Fault) (cv := .ref (He.ga K "Fault")) rfl rfl sc_law_refuses.nd rfl rfl ⟨rfl, by decide, .inl G.g_Fault⟩ (L2.takes_of rfl rfl rfl rfl) (mt_Fault_ok G)
    (fun W' pn xe tk' pass' =>
    (b_one (s_if (teq hr (xv 0) e_int)
    (b_one (sset 6 sc_law_refuses.nd (cv (dv_gain_4 G) tk' hr (by decide) (a_cons (xv 1) (a_cons (xv 3) (a_cons e_int (a_cons e_int a_nil)))) (lenC (len_cons (len_cons (len_cons (len_cons len_nil)))) rfl))))
    (b_one (s_if (teq hr (xv 0) e_int)
    (b_one (sset 6 sc_law_refuses.nd (cv (dv_gain_4 G) tk' hr (by decide) (a_cons (xv 1) (a_cons (xv 2) (a_cons (xv 4) (a_cons e_int a_nil)))) (lenC (len_cons (len_cons (len_cons (len_cons len_nil)))) rfl))))
    (b_one (s_if (teq hr (xv 0) e_int)
    (b_one (sset 6 sc_law_refuses.nd (cv (dv_gain_4 G) tk' hr (by decide) (a_cons (xv 1) (a_cons (xv 2) (a_cons e_int (a_cons (xv 5) a_nil)))) (lenC (len_cons (len_cons (len_cons (len_cons len_nil)))) rfl))))
    (b_one (s_if (teq hr (xv 0) e_int)
    (b_one (sset 6 sc_law_refuses.nd (cv (dv_moves_3 G) tk' hr (by decide) (a_cons (xv 1) (a_cons (xv 3) (a_cons e_str a_nil))) (lenC (len_cons (len_cons (len_cons len_nil))) rfl))))
    (b_one (s_if (teq hr (xv 0) e_int)
    (b_one (sset 6 sc_law_refuses.nd (cv (dv_slack_2 G) tk' hr (by decide) (a_cons (xv 1) (a_cons (xv 3) a_nil)) (lenC (len_cons (len_cons len_nil)) rfl))))
    (b_one (s_if (teq hr (xv 0) e_int)
    (b_one (sset 6 sc_law_refuses.nd (mv (mv_Game_pay_2 G) tk' hr (by decide) (xv 1) (a_cons (xv 3) (a_cons e_int a_nil)) (lenM (len_cons (len_cons len_nil)) rfl))))
    (b_one (s_if (teq hr (xv 0) e_int)
    (b_one (sset 6 sc_law_refuses.nd (mv (mv_Game_pay_2 G) tk' hr (by decide) (xv 1) (a_cons (xv 2) (a_cons (xv 4) a_nil)) (lenM (len_cons (len_cons len_nil)) rfl))))
    (b_one (s_if (teq hr (xv 0) e_int)
    (b_one (sset 6 sc_law_refuses.nd (mv (mv_Game_row_1 G) tk' hr (by decide) (xv 1) (a_cons (xv 4) a_nil) (lenM (len_cons len_nil) rfl))))
    (b_one (s_if (teq hr (xv 0) e_int)
    (b_one (sset 6 sc_law_refuses.nd (mv (mv_Table_at_1 G) tk' hr (by decide) (mv (mv_Game_row_1 G) tk' hr (by decide) (xv 1) (a_cons e_int a_nil) (lenM (len_cons len_nil) rfl)) (a_cons (xv 3) a_nil) (lenM (len_cons len_nil) rfl))))
    (b_one (s_if (teq hr (xv 0) e_int)
    (b_one (sset 6 sc_law_refuses.nd (mv (mv_Game_with_pay_4 G) tk' hr (by decide) (xv 1) (a_cons (xv 3) (a_cons e_int (a_cons e_int (a_cons e_int a_nil)))) (lenM (len_cons (len_cons (len_cons (len_cons len_nil)))) rfl))))
    (b_one (sset 6 sc_law_refuses.nd (mv (mv_Game_with_pay_3 G) tk' hr (by decide) (xv 1) (a_cons (xv 2) (a_cons (xv 4) (a_cons e_int a_nil))) (lenM (len_cons (len_cons (len_cons len_nil))) rfl)))))))))))))))))))))))))
    (fun a oe cls d pn hz hf =>
    (b_one (s_ret (e_and (e_isE (tbl := is_BadPlay) hz hf (pe_var rfl (.inl rfl) (by decide) (by decide)) rfl G.f_isinstance rfl (by decide) G.g_BadPlay (is_BadPlay_ok G)) (e_and (e_not (e_isE (tbl := is_BadGame) hz hf (pe_var rfl (.inl rfl) (by decide) (by decide)) rfl G.f_isinstance rfl (by decide) G.g_BadGame (is_BadGame_ok G))) (e_one (e_not (e_isE (tbl := is_TooMany) hz hf (pe_var rfl (.inl rfl) (by decide) (by decide)) rfl G.f_isinstance rfl (by decide) G.g_TooMany (is_TooMany_ok G))))))))))
    (b_one (s_ret e_bl))))
theorem dv_law_refuses_6 {P : Program} {w : World} {K : PySem.W.Frag} {mg : MG} {base : Heap} (G : Fx P w K mg base) : DefV P w K mg base "_law_refuses" 6 ["deed", "game", "play", "bad", "person", "choice"] f_law_refuses [] := by
  obtain ⟨fd, F⟩ := G.d_law_refuses
  have bd := (F.bindsN (ps := ["deed", "game", "play", "bad", "person", "choice"]) fun _ _ _ _ _ _ us hl => match us, hl with | [_, _, _, _, _, _], _ => rfl)
  exact ⟨⟨_, fd, [], [], ok_law_refuses G F, G.g__law_refuses, F.kp, bd, .nil, fun _ => rfl⟩⟩
abbrev N_law : List Str := ["script", "sizes", "count", "plays", "numbers", "over", "rows", "game", "common", "row", "pay", "asked", "play", "due", "told", "bad", "person", "choice", "deed", "k"]
theorem sc_law : FnScope N_law ["script"] (defScope s_law) := ⟨rfl, rfl, rfl, by decide +kernel, rfl, by decide +kernel, by decide +kernel⟩
def b_law : VS := (seqS (setS 1 (callF f_law_sizes [] (aCons (callF f_law_cell [] (aCons (rd 0) (aCons (cst (.int 0)) aNil))) aNil)))
    (seqS (frS 1 (setS 2 (callF f_law_count [] (aCons (rd 1) aNil))))
    (seqS (frS 1 (setS 3 (callF f_law_plays [] (aCons (rd 1) aNil))))
    (seqS (setS 4 (callF f_law_row [] (aCons (callF f_law_cell [] (aCons (rd 0) (aCons (cst (.int 1)) aNil))) (aCons (cst (.int 30)) (aCons (cst (.int 3600)) aNil)))))
    (seqS (setS 5 (bin2 addV (cst (.int 1)) (bin2 modV (callN intV (aCons (bin2 ixV (rd 4) (cst (.int 0))) aNil)) (cst (.int 9)))))
    (seqS (frS 2 (setS 6 (lcV 0 (walkR1 (callN lenV (aCons (rd 1) aNil))) (asg 19) yesT (callF f_law_pays [] (aCons (bin2 addV (callF f_law_cell [] (aCons (rd 0) (aCons (bin2 addV (cst (.int 2)) (rd 19)) aNil))) (bin2 mulV (cst (.int 17)) (rd 19))) (aCons (rd 2) aNil))) [19])))
    (seqS (ifS (boolOf (bin2 ltV (bin2 ixV (rd 4) (cst (.int 1))) (cst (.int 1200))))
    (ixS 6 (pthN 6) (bin2 subV (callN lenV (aCons (rd 1) aNil)) (cst (.int 1))) (callN listV (aCons (bin2 ixV (rd 6) (cst (.int 0))) aNil)))
    nilS)
    (seqS (frS 6 (frS 1 (setS 7 (makeF "Game" f_Game_init [] (aCons (rd 1) (aCons (lcV 0 (walkOf (rd 6)) (asg 9) yesT (callN listV (aCons (rd 9) aNil)) [9]) (aCons (rd 5) aNil)))))))
    (seqS (setS 8 (rd 5))
    (seqS (frS 6 (forS (walkOf (rd 6)) (asg 9)
    (forS (walkOf (rd 9)) (asg 10)
    (frS 8 (setS 8 (callF f_law_gcd [] (aCons (rd 8) (aCons (rd 10) aNil))))))))
    (seqS (frS 8 (frS 6 (setS 6 (lcV 0 (walkOf (rd 6)) (asg 9) yesT (lcV 0 (walkOf (rd 9)) (asg 10) yesT (bin2 fdivV (rd 10) (rd 8)) [10]) [9]))))
    (seqS (frS 3 (setS 11 (rd 3)))
    (seqS (frS 2 (ifS (boolOf (bin2 gtV (rd 2) (cst (.int 12))))
    (frS 2 (setS 11 (lcV 0 (walkR1 (cst (.int 12))) (asg 19) yesT (bin2 ixV (rd 3) (bin2 modV (callN intV (aCons (bin2 addV (bin2 mulV (bin2 ixV (rd 4) (bin2 addV (cst (.int 2)) (rd 19))) (cst (.int 3600))) (bin2 ixV (rd 4) (bin2 addV (cst (.int 3)) (rd 19)))) aNil)) (rd 2))) [19])))
    nilS))
    (seqS (frS 11 (forS (walkOf (rd 11)) (asg 12)
    (frS 7 (frS 6 (frS 1 (ifS (notT (boolOf (callF f_law_at_play [] (aCons (rd 7) (aCons (rd 1) (aCons (rd 6) (aCons (rd 12) aNil)))))))
    (retS (cst (.bl false)))
    nilS))))))
    (seqS (setS 13 (nilD 0))
    (seqS (frS 3 (forS (walkOf (rd 3)) (asg 12)
    (frS 6 (frS 1 (ifS (boolOf (bin2 eqV (callF f_law_moves [] (aCons (rd 1) (aCons (rd 6) (aCons (rd 12) (aCons (cst (.str "better")) aNil))))) (nilD 0)))
    (apS 13 (pthN 13) (rd 12))
    nilS)))))
    (seqS (frS 7 (setS 14 (callF f_rests [] (aCons (rd 7) aNil))))
    (seqS (frS 13 (ifS (notT (boolOf (callF f_law_is_list [] (aCons (rd 14) (aCons (rd 13) aNil)))))
    (retS (cst (.bl false)))
    nilS))
    (seqS (apS 14 (pthN 14) (tupD (aCons (cst (.int 0)) aNil)))
    (seqS (frS 13 (frS 7 (ifS (notT (boolOf (callF f_law_is_list [] (aCons (callF f_rests [] (aCons (rd 7) aNil)) (aCons (rd 13) aNil)))))
    (retS (cst (.bl false)))
    nilS)))
    (seqS (setS 12 (bin2 ixV (rd 11) (bin2 modV (callN intV (aCons (bin2 ixV (rd 4) (cst (.int 15))) aNil)) (callN lenV (aCons (rd 11) aNil)))))
    (seqS (frS 1 (setS 15 (callF f_law_bad_play [] (aCons (rd 1) (aCons (rd 12) (aCons (bin2 ixV (rd 4) (cst (.int 16))) aNil))))))
    (seqS (setS 16 (callN lenV (aCons (rd 1) aNil)))
    (seqS (setS 17 (bin2 ixV (rd 1) (cst (.int 0))))
    (seqS (ifS (boolOf (bin2 eqV (bin2 modV (callN intV (aCons (bin2 ixV (rd 4) (cst (.int 17))) aNil)) (cst (.int 2))) (cst (.int 1))))
    (seqS (setS 16 (un1 negV (cst (.int 1))))
    (setS 17 (un1 negV (cst (.int 1)))))
    nilS)
    (seqS (forS (walkR1 (cst (.int 11))) (asg 18)
    (frS 15 (frS 7 (ifS (notT (boolOf (callF f_law_refuses [] (aCons (rd 18) (aCons (rd 7) (aCons (rd 12) (aCons (rd 15) (aCons (rd 16) (aCons (rd 17) aNil)))))))))
    (retS (cst (.bl false)))
    nilS))))
    (frS 7 (frS 6 (frS 1 (retS (callF f_law_at_play [] (aCons (rd 7) (aCons (rd 1) (aCons (rd 6) (aCons (rd 12) aNil)))))))))))))))))))))))))))))))))))
def f_law : Fn := runFn 20 b_law
theorem ok_law {P : Program} {w : World} {K : PySem.W.Frag} {mg : MG} {base : Heap} {fd : FuncData} (G : Fx P w K mg base) (F : FunD K "law" "law" (defArgs s_law) (defBody s_law) (defScope s_law) [] [] (He.fAd K ("law", none)) fd) : FnOk P w K mg base (L2.CX P w) 7 (He.fAd K ("law", none)) fd ["script"] (spV K mg 1 f_law) :=
  fn_okC (N := N_law) F sc_law fun cdv A outer s H E B hr =>
    (b_cons (sset 1 sc_law.nd (cv (dv_law_sizes_1 G) (L2.takes_of rfl rfl rfl rfl) hr (by decide) (a_cons (cv (dv_law_cell_2 G) (L2.takes_of rfl rfl rfl rfl) hr (by decide) (a_cons (xv 0) (a_cons e_int a_nil)) (lenC (len_cons (len_cons len_nil)) rfl)) a_nil) (lenC (len_cons len_nil) rfl)))
    (b_cons (SV.fr (sset 2 sc_law.nd (cv (dv_law_count_1 G) (L2.takes_of rfl rfl rfl rfl) hr (by decide) (a_cons (xv 1) a_nil) (lenC (len_cons len_nil) rfl))) 1)
    (b_cons (SV.fr (sset 3 sc_law.nd (cv (dv_law_plays_1 G) (L2.takes_of rfl rfl rfl rfl) hr (by decide) (a_cons (xv 1) a_nil) (lenC (len_cons len_nil) rfl))) 1)
    (b_cons (sset 4 sc_law.nd (cv (dv_law_row_3 G) (L2.takes_of rfl rfl rfl rfl) hr (by decide) (a_cons (cv (dv_law_cell_2 G) (L2.takes_of rfl rfl rfl rfl) hr (by decide) (a_cons (xv 0) (a_cons e_int a_nil)) (lenC (len_cons (len_cons len_nil)) rfl)) (a_cons e_int (a_cons e_int a_nil))) (lenC (len_cons (len_cons (len_cons len_nil))) rfl)))
    (b_cons (sset 5 sc_law.nd (xadd e_int (xmod (xint G.f_int (a_cons (xix (xv 4) e_int) a_nil)) e_int)))
    (b_cons (SV.fr (s_setLc (i := 6) (d := 0) (own := [("k", 19)]) rfl sc_law.nd rfl rfl (sw_true rfl rfl rfl (by decide +kernel)) (i_range1 (by rfl) G.f_range (xlen G.f_len (a_cons (xv 1) a_nil))) (blkOk_by (by rfl)) (by decide) (fun _ _ _ _ _ => (gname 19 sc_law.nd)) (fun _ _ _ _ _ => ts_nil) (fun _ _ _ _ _ => (cv (dv_law_pays_2 G) L2.takes_none5 hr (by decide) (a_cons (xadd (cv (dv_law_cell_2 G) L2.takes_none5 hr (by decide) (a_cons (xv 0) (a_cons (xadd e_int (xv 19)) a_nil)) (lenC (len_cons (len_cons len_nil)) rfl)) (xmul e_int (xv 19))) (a_cons (xv 2) a_nil)) (lenC (len_cons (len_cons len_nil)) rfl)))) 2)
    (b_cons (s_if (tlt (xix (xv 4) e_int) e_int)
    (b_one (s_ixS (lname 6) (xsub (xlen G.f_len (a_cons (xv 1) a_nil)) e_int) (xlist G.f_list (a_cons (xix (xv 6) e_int) a_nil))))
    b_nil)
    (b_cons (SV.fr (SV.fr (sset 7 sc_law.nd (mk (mk_Game_init_3 G) (L2.takes_of rfl rfl rfl rfl) hr (by decide) (a_cons (xv 1) (a_cons (e_lc (d := 0) (own := [("row", 9)]) rfl sc_law.nd (i_seq (xv 6)) (blkOk_by (by rfl)) (by decide) (fun _ _ _ _ _ => (gname 9 sc_law.nd)) (fun _ _ _ _ _ => ts_nil) (fun _ _ _ _ _ => (xlist G.f_list (a_cons (xv 9) a_nil)))) (a_cons (xv 5) a_nil))) (lenM (len_cons (len_cons (len_cons len_nil))) rfl))) 1) 6)
    (b_cons (sset 8 sc_law.nd (xv 5))
    (b_cons (SV.fr (s_for (L2.passes_of rfl) rfl (i_seq (xv 6)) (gname 9 sc_law.nd)
    (b_one (s_for (L2.passes_of rfl) rfl (i_seq (xv 9)) (gname 10 sc_law.nd)
    (b_one (SV.fr (sset 8 sc_law.nd (cv (dv_law_gcd_2 G) (L2.takes_of rfl rfl rfl rfl) hr (by decide) (a_cons (xv 8) (a_cons (xv 10) a_nil)) (lenC (len_cons (len_cons len_nil)) rfl))) 8))))) 6)
    (b_cons (SV.fr (SV.fr (s_setLc (i := 6) (d := 0) (own := [("row", 9)]) rfl sc_law.nd rfl rfl (sw_true rfl rfl rfl (by decide +kernel)) (i_seq (xv 6)) (blkOk_by (by rfl)) (by decide) (fun _ _ _ _ _ => (gname 9 sc_law.nd)) (fun _ _ _ _ _ => ts_nil) (fun _ _ _ _ _ => (e_lc (d := 0) (own := [("pay", 10)]) rfl sc_law.nd (i_seq (xv 9)) (blkOk_by (by rfl)) (by decide) (fun _ _ _ _ _ => (gname 10 sc_law.nd)) (fun _ _ _ _ _ => ts_nil) (fun _ _ _ _ _ => (xdiv (xv 10) (xv 8)))))) 6) 8)
    (b_cons (SV.fr (sset 11 sc_law.nd (xv 3)) 3)
    (b_cons (SV.fr (s_if (tgt (xv 2) e_int)
    (b_one (SV.fr (s_setLc (i := 11) (d := 0) (own := [("k", 19)]) rfl sc_law.nd rfl rfl (sw_true rfl rfl rfl (by decide +kernel)) (i_range1 (by rfl) G.f_range e_int) (blkOk_by (by rfl)) (by decide) (fun _ _ _ _ _ => (gname 19 sc_law.nd)) (fun _ _ _ _ _ => ts_nil) (fun _ _ _ _ _ => (xix (xv 3) (xmod (xint G.f_int (a_cons (xadd (xmul (xix (xv 4) (xadd e_int (xv 19))) e_int) (xix (xv 4) (xadd e_int (xv 19)))) a_nil)) (xv 2))))) 2))
    b_nil) 2)
    (b_cons (SV.fr (s_for (L2.passes_of rfl) rfl (i_seq (xv 11)) (gname 12 sc_law.nd)
    (b_one (SV.fr (SV.fr (SV.fr (s_if (t_not (t_val (cv (dv_law_at_play_4 G) (L2.takes_of rfl rfl rfl rfl) hr (by decide) (a_cons (xv 7) (a_cons (xv 1) (a_cons (xv 6) (a_cons (xv 12) a_nil)))) (lenC (len_cons (len_cons (len_cons (len_cons len_nil)))) rfl))))
    (b_one (s_ret e_bl))
    b_nil) 1) 6) 7))) 11)
    (b_cons (sset 13 sc_law.nd (e_nil (d := 0)))
    (b_cons (SV.fr (s_for (L2.passes_of rfl) rfl (i_seq (xv 3)) (gname 12 sc_law.nd)
    (b_one (SV.fr (SV.fr (s_if (teq hr (cv (dv_law_moves_4 G) (L2.takes_of rfl rfl rfl rfl) hr (by decide) (a_cons (xv 1) (a_cons (xv 6) (a_cons (xv 12) (a_cons e_str a_nil)))) (lenC (len_cons (len_cons (len_cons (len_cons len_nil)))) rfl)) (e_nil (d := 0)))
    (b_one (s_app (lname 13) (xv 12)))
    b_nil) 1) 6))) 3)
    (b_cons (SV.fr (sset 14 sc_law.nd (cv (dv_rests_1 G) (L2.takes_of rfl rfl rfl rfl) hr (by decide) (a_cons (xv 7) a_nil) (lenC (len_cons len_nil) rfl))) 7)
    (b_cons (SV.fr (s_if (t_not (t_val (cv (dv_law_is_list_2 G) (L2.takes_of rfl rfl rfl rfl) hr (by decide) (a_cons (xv 14) (a_cons (xv 13) a_nil)) (lenC (len_cons (len_cons len_nil)) rfl))))
    (b_one (s_ret e_bl))
    b_nil) 13)
    (b_cons (s_app (lname 14) (e_tup (a_cons e_int a_nil)))
    (b_cons (SV.fr (SV.fr (s_if (t_not (t_val (cv (dv_law_is_list_2 G) (L2.takes_of rfl rfl rfl rfl) hr (by decide) (a_cons (cv (dv_rests_1 G) (L2.takes_of rfl rfl rfl rfl) hr (by decide) (a_cons (xv 7) a_nil) (lenC (len_cons len_nil) rfl)) (a_cons (xv 13) a_nil)) (lenC (len_cons (len_cons len_nil)) rfl))))
    (b_one (s_ret e_bl))
    b_nil) 7) 13)
    (b_cons (sset 12 sc_law.nd (xix (xv 11) (xmod (xint G.f_int (a_cons (xix (xv 4) e_int) a_nil)) (xlen G.f_len (a_cons (xv 11) a_nil)))))
    (b_cons (SV.fr (sset 15 sc_law.nd (cv (dv_law_bad_play_3 G) (L2.takes_of rfl rfl rfl rfl) hr (by decide) (a_cons (xv 1) (a_cons (xv 12) (a_cons (xix (xv 4) e_int) a_nil))) (lenC (len_cons (len_cons (len_cons len_nil))) rfl))) 1)
    (b_cons (sset 16 sc_law.nd (xlen G.f_len (a_cons (xv 1) a_nil)))
    (b_cons (sset 17 sc_law.nd (xix (xv 1) e_int))
    (b_cons (s_if (teq hr (xmod (xint G.f_int (a_cons (xix (xv 4) e_int) a_nil)) e_int) e_int)
    (b_cons (sset 16 sc_law.nd (xneg e_int))
    (b_one (sset 17 sc_law.nd (xneg e_int))))
    b_nil)
    (b_cons (s_for (L2.passes_of rfl) rfl (i_range1 (by rfl) G.f_range e_int) (gname 18 sc_law.nd)
    (b_one (SV.fr (SV.fr (s_if (t_not (t_val (cv (dv_law_refuses_6 G) (L2.takes_of rfl rfl rfl rfl) hr (by decide) (a_cons (xv 18) (a_cons (xv 7) (a_cons (xv 12) (a_cons (xv 15) (a_cons (xv 16) (a_cons (xv 17) a_nil)))))) (lenC (len_cons (len_cons (len_cons (len_cons (len_cons (len_cons len_nil)))))) rfl))))
    (b_one (s_ret e_bl))
    b_nil) 7) 15)))
    (b_one (SV.fr (SV.fr (SV.fr (s_ret (cv (dv_law_at_play_4 G) (L2.takes_of rfl rfl rfl rfl) hr (by decide) (a_cons (xv 7) (a_cons (xv 1) (a_cons (xv 6) (a_cons (xv 12) a_nil)))) (lenC (len_cons (len_cons (len_cons (len_cons len_nil)))) rfl))) 1) 6) 7))))))))))))))))))))))))))))
theorem dv_law_1 {P : Program} {w : World} {K : PySem.W.Frag} {mg : MG} {base : Heap} (G : Fx P w K mg base) : DefV P w K mg base "law" 7 ["script"] f_law [] := by
  obtain ⟨fd, F⟩ := G.d_law
  have bd := (F.bindsN (ps := ["script"]) fun _ _ _ _ _ _ us hl => match us, hl with | [_], _ => rfl)
  exact ⟨⟨_, fd, [], [], ok_law G F, G.g_law, F.kp, bd, .nil, fun _ => rfl⟩⟩
end
end K88
namespace Mz
def pr : List Nat → Nat
  | [] => 1
  | s :: ss => s * pr ss
def Ok : List Nat → List Nat → Prop
  | [], cs => cs = []
  | s :: ss, cs => ∃ c r, cs = c :: r ∧ c < s ∧ Ok ss r
def plc : List Nat → List Nat → Nat
  | s :: ss, c :: cs => c * pr ss + plc ss cs
  | _, _ => 0
def strd : List Nat → List Nat
  | [] => []
  | s :: ss => pr ss :: strd ss
def dig : List Nat → Nat → List Nat
  | [], _ => []
  | s :: ss, n => n / pr ss :: dig ss (n % pr ss)
def Pos (ss : List Nat) : Prop := ∀ s ∈ ss, 0 < s
theorem Pos.tail {s : Nat} {ss : List Nat} (h : Pos (s :: ss)) : Pos ss := fun x hx => h x (List.mem_cons_of_mem _ hx)
theorem Pos.head {s : Nat} {ss : List Nat} (h : Pos (s :: ss)) : 0 < s := h s List.mem_cons_self
theorem pr_pos : ∀ {ss : List Nat}, Pos ss → 0 < pr ss
  | [], _ => Nat.one_pos
  | s :: ss, h => Nat.mul_pos h.head (pr_pos h.tail)
theorem Ok.length : ∀ {ss cs : List Nat}, Ok ss cs → cs.length = ss.length
  | [], _, h => by rw [show _ = [] from h]
  | s :: ss, _, ⟨c, r, e, _, h⟩ => by rw [e, List.length_cons, List.length_cons, Ok.length h]
theorem Ok.get : ∀ {ss cs : List Nat}, Ok ss cs → ∀ (i : Nat) (h : i < ss.length), ∃ c, cs[i]? = some c ∧ c < ss[i]
  | [], _, _, i, h => absurd h (Nat.not_lt_zero _)
  | s :: ss, _, ⟨c, r, e, h1, _⟩, 0, _ => ⟨c, by rw [e]; rfl, h1⟩
  | s :: ss, _, ⟨c, r, e, _, h2⟩, i + 1, h => by
    obtain ⟨d, e1, e2⟩ := Ok.get h2 i (Nat.lt_of_succ_lt_succ h)
    exact ⟨d, by rw [e]; exact e1, e2⟩
theorem Ok.set : ∀ {ss cs : List Nat}, Ok ss cs → ∀ (i c : Nat), (∀ h : i < ss.length, c < ss[i]) → Ok ss (cs.set i c)
  | [], _, h, i, c, _ => by rw [show _ = [] from h]; rfl
  | s :: ss, _, ⟨d, r, e, h1, h2⟩, 0, c, h => by rw [e]; exact ⟨c, r, rfl, h (Nat.succ_pos _), h2⟩
  | s :: ss, _, ⟨d, r, e, h1, h2⟩, i + 1, c, h => by
    rw [e]
    exact ⟨d, r.set i c, rfl, h1, Ok.set h2 i c fun q => h (Nat.succ_lt_succ q)⟩
theorem plc_lt : ∀ {ss cs : List Nat}, Ok ss cs → plc ss cs < pr ss
  | [], _, h => by rw [show _ = [] from h]; exact Nat.one_pos
  | s :: ss, _, ⟨c, r, e, h1, h2⟩ => by
    have := plc_lt h2
    subst e
    show c * pr ss + plc ss r < s * pr ss
    calc c * pr ss + plc ss r < c * pr ss + pr ss := by omega
      _ = (c + 1) * pr ss := by rw [Nat.add_mul, Nat.one_mul]
      _ ≤ s * pr ss := Nat.mul_le_mul_right _ h1
theorem dig_plc : ∀ {ss cs : List Nat}, Ok ss cs → dig ss (plc ss cs) = cs
  | [], _, h => by rw [show _ = [] from h]; rfl
  | s :: ss, _, ⟨c, r, e, h1, h2⟩ => by
    have hl := plc_lt h2
    subst e
    show (c * pr ss + plc ss r) / pr ss :: dig ss ((c * pr ss + plc ss r) % pr ss) = _
    have hp : 0 < pr ss := Nat.lt_of_le_of_lt (Nat.zero_le _) hl
    rw [Nat.add_comm, Nat.add_mul_div_right _ _ hp, Nat.div_eq_of_lt hl, Nat.zero_add, Nat.add_mul_mod_self_right, Nat.mod_eq_of_lt hl, dig_plc h2]
theorem plc_dig : ∀ {ss : List Nat} {n : Nat}, Pos ss → n < pr ss → Ok ss (dig ss n) ∧ plc ss (dig ss n) = n
  | [], n, _, h => ⟨rfl, by show 0 = n; have : n < 1 := h; omega⟩
  | s :: ss, n, hp, h => by
    have h0 := pr_pos hp.tail
    obtain ⟨h1, h2⟩ := plc_dig hp.tail (Nat.mod_lt n h0)
    refine ⟨⟨n / pr ss, _, rfl, ?_, h1⟩, ?_⟩
    · exact Nat.div_lt_of_lt_mul (by rw [Nat.mul_comm]; exact h)
    · show n / pr ss * pr ss + plc ss (dig ss (n % pr ss)) = n
      rw [h2, Nat.mul_comm]; exact Nat.div_add_mod n (pr ss)
theorem strd_length : ∀ {ss : List Nat}, (strd ss).length = ss.length
  | [] => rfl
  | s :: ss => by simp only [strd, List.length_cons, strd_length]
theorem strd_pos : ∀ {ss : List Nat}, Pos ss → ∀ (i : Nat) (h : i < (strd ss).length), 0 < (strd ss)[i]
  | [], _, i, h => absurd h (Nat.not_lt_zero _)
  | s :: ss, hp, 0, _ => pr_pos hp.tail
  | s :: ss, hp, i + 1, h => strd_pos hp.tail i (Nat.lt_of_succ_lt_succ h)
theorem plc_set : ∀ {ss cs : List Nat}, Ok ss cs → ∀ (p c d t : Nat), cs[p]? = some d → (strd ss)[p]? = some t → plc ss (cs.set p c) + t * d = plc ss cs + t * c
  | [], _, h, p, c, d, t, e, _ => by rw [show _ = [] from h] at e; cases e
  | s :: ss, _, ⟨a, r, e, h1, h2⟩, 0, c, d, t, e1, e2 => by
    subst e
    cases e1
    cases e2
    show c * pr ss + plc ss r + pr ss * a = a * pr ss + plc ss r + pr ss * c
    rw [Nat.mul_comm (pr ss) a, Nat.mul_comm (pr ss) c]; omega
  | s :: ss, _, ⟨a, r, e, h1, h2⟩, p + 1, c, d, t, e1, e2 => by
    subst e
    have := plc_set h2 p c d t e1 e2
    show a * pr ss + plc ss (r.set p c) + t * d = a * pr ss + plc ss r + t * c
    omega
theorem strd_dvd : ∀ {ss : List Nat} (p : Nat) (s t : Nat), ss[p]? = some s → (strd ss)[p]? = some t → t * s ∣ pr ss
  | [], p, s, t, e, _ => by cases e
  | a :: ss, 0, s, t, e1, e2 => by cases e1; cases e2; exact ⟨1, by show a * pr ss = _; rw [Nat.mul_one, Nat.mul_comm]⟩
  | a :: ss, p + 1, s, t, e1, e2 => Nat.dvd_trans (strd_dvd p s t e1 e2) ⟨a, Nat.mul_comm _ _⟩
theorem own_eq : ∀ {ss cs : List Nat}, Pos ss → Ok ss cs → ∀ (p s t d : Nat), ss[p]? = some s → (strd ss)[p]? = some t → cs[p]? = some d → plc ss cs / t % s = d
  | [], _, _, h, p, s, t, d, e, _, _ => by cases e
  | a :: ss, _, hp, ⟨c, r, e, h1, h2⟩, 0, s, t, d, e1, e2, e3 => by
    subst e
    cases e1; cases e2; cases e3
    have h0 := pr_pos hp.tail
    have hl := plc_lt h2
    show (c * pr ss + plc ss r) / pr ss % a = c
    rw [Nat.add_comm, Nat.add_mul_div_right _ _ h0, Nat.div_eq_of_lt hl, Nat.zero_add, Nat.mod_eq_of_lt h1]
  | a :: ss, _, hp, ⟨c, r, e, h1, h2⟩, p + 1, s, t, d, e1, e2, e3 => by
    subst e
    have ih := own_eq hp.tail h2 p s t d e1 e2 e3
    obtain ⟨m, hm⟩ := strd_dvd p s t e1 e2
    have e2' : (strd ss)[p]? = some t := e2
    have hpl : p < (strd ss).length := (List.getElem?_eq_some_iff.mp e2').1
    have ht : 0 < t := by
      have := strd_pos hp.tail p hpl
      rw [(List.getElem?_eq_some_iff.mp e2').2] at this; exact this
    show (c * pr ss + plc ss r) / t % s = d
    rw [hm, show c * (t * s * m) + plc ss r = plc ss r + (c * m * s) * t by
      rw [show c * (t * s * m) = (c * m * s) * t by
        rw [Nat.mul_comm t s, Nat.mul_assoc s t m, Nat.mul_comm t m, ← Nat.mul_assoc s m t, ← Nat.mul_assoc, ← Nat.mul_assoc, Nat.mul_assoc c s m, Nat.mul_comm s m, ← Nat.mul_assoc]]
      omega, Nat.add_mul_div_right _ _ ht, Nat.add_mul_mod_self_right, ih]
def hor : Nat → List Nat → List Nat → Nat
  | n, s :: ss, c :: cs => hor (n * s + c) ss cs
  | n, _, _ => n
theorem hor_eq : ∀ {ss cs : List Nat} (n : Nat), Ok ss cs → hor n ss cs = n * pr ss + plc ss cs
  | [], _, n, h => by rw [show _ = [] from h]; show n = n * 1 + 0; omega
  | s :: ss, _, n, ⟨c, r, e, h1, h2⟩ => by
    subst e
    show hor (n * s + c) ss r = n * (s * pr ss) + (c * pr ss + plc ss r)
    rw [hor_eq _ h2, Nat.add_mul, Nat.mul_assoc]; omega
end Mz
namespace Mz
theorem pr_snoc' : ∀ (xs : List Nat) (x : Nat), pr (xs ++ [x]) = pr xs * x
  | [], x => by show x * 1 = 1 * x; omega
  | y :: ys, x => by show y * pr (ys ++ [x]) = y * pr ys * x; rw [pr_snoc' ys x, Nat.mul_assoc]
theorem dig_snoc : ∀ (pre : List Nat) (s n : Nat), n < pr pre * s → dig (pre ++ [s]) n = dig pre (n / s) ++ [n % s]
  | [], s, n, h => by
    show [n / 1] = [n % s]
    rw [Nat.div_one, Nat.mod_eq_of_lt (by have : pr [] = 1 := rfl; rw [this, Nat.one_mul] at h; exact h)]
  | a :: pre, s, n, h => by
    show n / pr (pre ++ [s]) :: dig (pre ++ [s]) (n % pr (pre ++ [s])) = (n / s / pr pre :: dig pre (n / s % pr pre)) ++ [n % s]
    have hp : 0 < pr pre * s := by
      rcases Nat.eq_zero_or_pos (pr pre * s) with z | z
      · have : pr (a :: pre) * s = a * (pr pre * s) := by show a * pr pre * s = _; rw [Nat.mul_assoc]
        rw [this, z, Nat.mul_zero] at h; omega
      · exact z
    rw [pr_snoc', dig_snoc pre s _ (Nat.mod_lt _ hp), Nat.mod_mul_left_div_self, Nat.mod_mul_left_mod, Nat.div_div_eq_div_mul, Nat.mul_comm s]; rfl
def ext (found : List (List Nat)) (s : Nat) : List (List Nat) := found.flatMap fun p => (List.range s).map fun c => p ++ [c]
def allP (ss : List Nat) : List (List Nat) := (List.range (pr ss)).map (dig ss)
theorem range_mul {α : Type} (f : Nat → α) (s : Nat) : ∀ a, (List.range (a * s)).map f = (List.range a).flatMap fun i => (List.range s).map fun j => f (i * s + j)
  | 0 => by simp
  | a + 1 => by
    rw [Nat.add_mul, Nat.one_mul, List.range_add, List.map_append, range_mul f s a, List.range_succ, List.flatMap_append, List.map_map]
    simp [List.flatMap_cons]
theorem allP_snoc (pre : List Nat) (s : Nat) : allP (pre ++ [s]) = ext (allP pre) s := by
  unfold allP ext
  rw [pr_snoc', range_mul, List.flatMap_map]
  have : ∀ i ∈ List.range (pr pre), ((List.range s).map fun j => dig (pre ++ [s]) (i * s + j)) = (List.range s).map fun c => dig pre i ++ [c] := fun i hi => by
    apply List.map_congr_left
    intro j hj
    rw [List.mem_range] at hi hj
    have h1 : i * s + j < pr pre * s := by
      calc i * s + j < i * s + s := by omega
        _ = (i + 1) * s := by rw [Nat.add_mul, Nat.one_mul]
        _ ≤ pr pre * s := Nat.mul_le_mul_right _ hi
    have h2 : (i * s + j) / s = i := by rw [Nat.add_comm, Nat.add_mul_div_right _ _ (by omega), Nat.div_eq_of_lt hj, Nat.zero_add]
    have h3 : (i * s + j) % s = j := by rw [Nat.add_comm, Nat.add_mul_mod_self_right, Nat.mod_eq_of_lt hj]
    rw [dig_snoc _ _ _ h1, h2, h3]
  rw [List.flatMap_def, List.flatMap_def]
  congr 1
  exact List.map_congr_left this
theorem allP_nil : allP [] = [[]] := rfl
theorem allP_length (ss : List Nat) : (allP ss).length = pr ss := by unfold allP; rw [List.length_map, List.length_range]
theorem allP_ok {ss : List Nat} (h : Pos ss) : ∀ p ∈ allP ss, Ok ss p := fun p hp => by
  unfold allP at hp
  obtain ⟨n, h1, h2⟩ := List.mem_map.mp hp
  rw [← h2]
  exact (plc_dig h (List.mem_range.mp h1)).1
def gfold (g : Nat) (xs : List Int) : Nat := xs.foldl (fun g x => Nat.gcd g x.natAbs) g
theorem gfold_nil (g : Nat) : gfold g [] = g := rfl
theorem gfold_cons (g : Nat) (x : Int) (xs : List Int) : gfold g (x :: xs) = gfold (Nat.gcd g x.natAbs) xs := rfl
theorem gfold_dvd : ∀ (xs : List Int) (g : Nat), gfold g xs ∣ g
  | [], g => Nat.dvd_refl g
  | x :: xs, g => Nat.dvd_trans (gfold_dvd xs _) (Nat.gcd_dvd_left _ _)
theorem gfold_pos (xs : List Int) (g : Nat) (h : 0 < g) : 0 < gfold g xs := Nat.pos_of_dvd_of_pos (gfold_dvd xs g) h
theorem gfold_le (xs : List Int) (g : Nat) (h : 0 < g) : gfold g xs ≤ g := Nat.le_of_dvd h (gfold_dvd xs g)
def gfolds (g : Nat) (rows : List (List Int)) : Nat := rows.foldl gfold g
theorem gfolds_dvd : ∀ (rows : List (List Int)) (g : Nat), gfolds g rows ∣ g
  | [], g => Nat.dvd_refl g
  | x :: xs, g => Nat.dvd_trans (gfolds_dvd xs _) (gfold_dvd x g)
theorem gfolds_pos (rows : List (List Int)) (g : Nat) (h : 0 < g) : 0 < gfolds g rows := Nat.pos_of_dvd_of_pos (gfolds_dvd rows g) h
theorem gfolds_le (rows : List (List Int)) (g : Nat) (h : 0 < g) : gfolds g rows ≤ g := Nat.le_of_dvd h (gfolds_dvd rows g)
end Mz
namespace K88
open PySem PySem.Spec L2 Pv
noncomputable section

theorem v_law_mix (c k : Int) : ∃ m : Int, (0 ≤ m ∧ m < 2147483647) ∧ f_law_mix [.val (.int c), .val (.int k)] = .ok (.val (.int m)) := by
  simp only [f_law_mix, runFn, b_law_mix, seqS_ap, nilS_ap, brkS_ap, contS_ap, badS_ap, raiseS_ap, frS_ap, setS_ap, dropS_ap, retS_ap, ifS_ap, asg_val, asg_new, asg_bor, retR_val, retR_new, rd_ap, retOwn_ap, cst_ap, bin2_ap, un1_ap, callN_ap, callF_ap, fldE_ap, aNil_ap, aCons_ap, tupD_ap, lstD_ap, nilD_ap, walkOf_ap, walkR1_ap, walkR2_ap, walkZ_ap, walkE_ap, walkV_ap, tupRevV_ap, andT_ap, orT_ap, notT_ap, boolOf_ap, boolR_bl, andV_ap, orV_ap, notE_ap, ifV_ap, chn_ap, noB_ap, intB_ap, sl3_ap, forS_ap, lcV_ap, yesT_ap, stD_val, stD_new0, stAll_nil, stAll_cons, stR_val, stR_new, argR_val, argR_new, argR_bor, argR_lend, addV_int, subV_int, negV_int, ltV_int, leV_int, gtV_int, geV_int, eqV_int, neV_int, eqV_str, neV_str, intV_int, absV_int, max2_int, min2_int, lenV_tup, lenV_lst, lenV_scr, lenV_lend, R.ok_bind, slotOf, List.map_cons, List.map_nil, List.length_cons, List.length_nil, List.cons_append, List.nil_append, List.append_nil, List.replicate, List.getElem?_cons_succ, List.getElem?_cons_zero, Res.items, List.set_cons_succ, List.set_cons_zero, Nat.reduceAdd, Nat.reduceSub, Res.pv, mulV_int (mul_ok (i := c) (j := 48271) (by omega)), mulV_int (mul_ok (i := k) (j := 69621) (by omega)), mulV_int (mul_ok (i := k) (j := 52774) (by omega)), modV_int (y := 2147483647) (by decide),
    modV_int (y := 2147483399) (by decide), fdivV_int (y := 977) (div_ok (by omega)), fdivV_int (y := 1013) (div_ok (by omega)), fun i => mulV_int (mul_ok (i := i) (j := 40692) (by omega)), fun i => mulV_int (mul_ok (i := i) (j := 39373) (by omega))]
  exact ⟨_, fmod_in (by omega), rfl⟩
abbrev row_body : VS := (ifS (andT (boolOf (bin2 geV (callN absV' (aCons (rd 0) aNil)) (bin2 powV (cst (.int 10)) (cst (.int 18))))) (boolOf (bin2 gtV (rd 4) (cst (.int 0)))))
    (seqS (apS 3 (pthN 3) (bin2 modV (callN intV (aCons (rd 4) aNil)) (rd 2)))
    (setS 4 (bin2 fdivV (rd 4) (rd 2))))
    (apS 3 (pthN 3) (bin2 modV (callN intV (aCons (callF f_law_mix [] (aCons (rd 0) (aCons (rd 5) aNil))) aNil)) (rd 2))))
theorem row_loop (c cnt lim : Int) (hl : 0 < lim ∧ lim < 2 ^ 60) : ∀ (n a : Nat) (acc : List Int) (left : Int) (t : Slot), acc.length + n ≤ 100000 → ∃ (row : List Int) (left' : Int) (t' : Slot), row.length = n ∧ In 0 lim row ∧
    runFor (asg 5) row_body (rngF a n) [.val (.int c), .val (.int cnt), .val (.int lim), .own 0 (zs acc), .val (.int left), t] = .next [.val (.int c), .val (.int cnt), .val (.int lim), .own 0 (zs (acc ++ row)), .val (.int left'), t']
  | 0, a, acc, left, t, _ => ⟨[], left, t, rfl, (fun _ h => by cases h), by rw [rngF_zero, runFor_nil, List.append_nil]⟩
  | n + 1, a, acc, left, t, hn => by
    have hp : powOk 10 18 := pow_ok (by decide)
    have hm : lim ≠ 0 := by omega
    have hz : acc.length < sizeLine := line_lt (by omega)
    have key : ∃ x left', (0 ≤ x ∧ x < lim) ∧ row_body [.val (.int c), .val (.int cnt), .val (.int lim), .own 0 (zs acc), .val (.int left), .val (.int (a : Int))] = .next [.val (.int c), .val (.int cnt), .val (.int lim), .own 0 (zs (acc ++ [x])), .val (.int left'), .val (.int (a : Int))] := by
      obtain ⟨m, hm1, hm2⟩ := v_law_mix c a
      have e1 : apS 3 (pthN 3) (bin2 modV (callN intV (aCons (rd 4) aNil)) (rd 2)) [.val (.int c), .val (.int cnt), .val (.int lim), .own 0 (zs acc), .val (.int left), .val (.int (a : Int))] = .next [.val (.int c), .val (.int cnt), .val (.int lim), .own 0 (zs (acc ++ [left.fmod lim])), .val (.int left), .val (.int (a : Int))] := by
        rw [apS_own (n := 0) (xs := zs acc) (r := .val (.int (left.fmod lim))) (p := .int (left.fmod lim)) rfl (by simp only [seqS_ap, nilS_ap, brkS_ap, contS_ap, badS_ap, raiseS_ap, frS_ap, setS_ap, dropS_ap, retS_ap, ifS_ap, asg_val, asg_new, asg_bor, retR_val, retR_new, rd_ap, retOwn_ap, cst_ap, bin2_ap, un1_ap, callN_ap, callF_ap, fldE_ap, aNil_ap, aCons_ap, tupD_ap, lstD_ap, nilD_ap, walkOf_ap, walkR1_ap, walkR2_ap, walkZ_ap, walkE_ap, walkV_ap, tupRevV_ap, andT_ap, orT_ap, notT_ap, boolOf_ap, boolR_bl, andV_ap, orV_ap, notE_ap, ifV_ap, chn_ap, noB_ap, intB_ap, sl3_ap, forS_ap, lcV_ap, yesT_ap, stD_val, stD_new0, stAll_nil, stAll_cons, stR_val, stR_new, argR_val, argR_new, argR_bor, argR_lend, addV_int, subV_int, negV_int, ltV_int, leV_int, gtV_int, geV_int, eqV_int, neV_int, eqV_str, neV_str, intV_int, absV_int, max2_int, min2_int, lenV_tup, lenV_lst, lenV_scr, lenV_lend, R.ok_bind, slotOf, List.map_cons, List.map_nil, List.length_cons, List.length_nil, List.cons_append, List.nil_append, List.append_nil, List.replicate, List.getElem?_cons_succ, List.getElem?_cons_zero, Res.items, List.set_cons_succ, List.set_cons_zero, Nat.reduceAdd, Nat.reduceSub, Res.pv, modV_int hm]) rfl (by rw [zs_length]; exact hz), zs_snoc]; rfl
      have e2 : apS 3 (pthN 3) (bin2 modV (callN intV (aCons (callF f_law_mix [] (aCons (rd 0) (aCons (rd 5) aNil))) aNil)) (rd 2)) [.val (.int c), .val (.int cnt), .val (.int lim), .own 0 (zs acc), .val (.int left), .val (.int (a : Int))] = .next [.val (.int c), .val (.int cnt), .val (.int lim), .own 0 (zs (acc ++ [m.fmod lim])), .val (.int left), .val (.int (a : Int))] := by
        rw [apS_own (n := 0) (xs := zs acc) (r := .val (.int (m.fmod lim))) (p := .int (m.fmod lim)) rfl (by simp only [seqS_ap, nilS_ap, brkS_ap, contS_ap, badS_ap, raiseS_ap, frS_ap, setS_ap, dropS_ap, retS_ap, ifS_ap, asg_val, asg_new, asg_bor, retR_val, retR_new, rd_ap, retOwn_ap, cst_ap, bin2_ap, un1_ap, callN_ap, callF_ap, fldE_ap, aNil_ap, aCons_ap, tupD_ap, lstD_ap, nilD_ap, walkOf_ap, walkR1_ap, walkR2_ap, walkZ_ap, walkE_ap, walkV_ap, tupRevV_ap, andT_ap, orT_ap, notT_ap, boolOf_ap, boolR_bl, andV_ap, orV_ap, notE_ap, ifV_ap, chn_ap, noB_ap, intB_ap, sl3_ap, forS_ap, lcV_ap, yesT_ap, stD_val, stD_new0, stAll_nil, stAll_cons, stR_val, stR_new, argR_val, argR_new, argR_bor, argR_lend, addV_int, subV_int, negV_int, ltV_int, leV_int, gtV_int, geV_int, eqV_int, neV_int, eqV_str, neV_str, intV_int, absV_int, max2_int, min2_int, lenV_tup, lenV_lst, lenV_scr, lenV_lend, R.ok_bind, slotOf, List.map_cons, List.map_nil, List.length_cons, List.length_nil, List.cons_append, List.nil_append, List.append_nil, List.replicate, List.getElem?_cons_succ, List.getElem?_cons_zero, Res.items, List.set_cons_succ, List.set_cons_zero, Nat.reduceAdd, Nat.reduceSub, Res.pv, hm2, modV_int hm]) rfl (by rw [zs_length]; exact hz), zs_snoc]; rfl
      have f1 := fmod_in (x := left) hl.1
      have f2 := fmod_in (x := m) hl.1
      unfold row_body
      rw [ifS_ap]
      simp only [andT_ap, boolOf_ap, bin2_ap, callN_ap, aCons_ap, aNil_ap, rd_ap, List.getElem?_cons_succ, List.getElem?_cons_zero, R.ok_bind, absV_int, cst_ap, powV_int hp, geV_int, boolR_bl, gtV_int]
      cases decide ((if c < 0 then -c else c) ≥ 10 ^ (18 : Int).toNat) with
      | false =>
        simp only [Bool.false_eq_true, if_false]
        exact ⟨_, _, f2, e2⟩
      | true =>
        simp only [if_true]
        cases decide (left > 0) with
        | false =>
          simp only [Bool.false_eq_true, if_false]
          exact ⟨_, _, f2, e2⟩
        | true =>
          simp only [if_true]
          refine ⟨_, left.fdiv lim, f1, ?_⟩
          rw [seqS_ap, e1]
          simp only [seqS_ap, nilS_ap, brkS_ap, contS_ap, badS_ap, raiseS_ap, frS_ap, setS_ap, dropS_ap, retS_ap, ifS_ap, asg_val, asg_new, asg_bor, retR_val, retR_new, rd_ap, retOwn_ap, cst_ap, bin2_ap, un1_ap, callN_ap, callF_ap, fldE_ap, aNil_ap, aCons_ap, tupD_ap, lstD_ap, nilD_ap, walkOf_ap, walkR1_ap, walkR2_ap, walkZ_ap, walkE_ap, walkV_ap, tupRevV_ap, andT_ap, orT_ap, notT_ap, boolOf_ap, boolR_bl, andV_ap, orV_ap, notE_ap, ifV_ap, chn_ap, noB_ap, intB_ap, sl3_ap, forS_ap, lcV_ap, yesT_ap, stD_val, stD_new0, stAll_nil, stAll_cons, stR_val, stR_new, argR_val, argR_new, argR_bor, argR_lend, addV_int, subV_int, negV_int, ltV_int, leV_int, gtV_int, geV_int, eqV_int, neV_int, eqV_str, neV_str, intV_int, absV_int, max2_int, min2_int, lenV_tup, lenV_lst, lenV_scr, lenV_lend, R.ok_bind, slotOf, List.map_cons, List.map_nil, List.length_cons, List.length_nil, List.cons_append, List.nil_append, List.append_nil, List.replicate, List.getElem?_cons_succ, List.getElem?_cons_zero, Res.items, List.set_cons_succ, List.set_cons_zero, Nat.reduceAdd, Nat.reduceSub, Res.pv, fdivV_int (x := left) (div_ok (show 0 < lim ∧ lim < 2 ^ 1000 by omega))]
    obtain ⟨x, left', hx, e⟩ := key
    obtain ⟨row, l2, t2, r1, r2, r3⟩ := row_loop c cnt lim hl n (a + 1) (acc ++ [x]) left' (.val (.int (a : Int))) (by rw [List.length_append]; simp; omega)
    refine ⟨x :: row, l2, t2, by rw [List.length_cons, r1], r2.cons hx, ?_⟩
    rw [rngF_succ, runFor_cons]
    simp only [asg_val, List.set_cons_succ, List.set_cons_zero]
    rw [e]
    simp only
    rw [r3, List.append_assoc]; rfl
theorem v_law_row (c lim : Int) (n : Nat) (hl : 0 < lim ∧ lim < 2 ^ 60) (hn : n ≤ 100000) : ∃ row : List Int, row.length = n ∧ In 0 lim row ∧ f_law_row [.val (.int c), .val (.int (n : Int)), .val (.int lim)] = .ok (.new 0 (zs row)) := by
  obtain ⟨row, l2, t2, r1, r2, r3⟩ := row_loop c n lim hl n 0 [] (if c < 0 then -c else c) .unset (by rw [List.length_nil]; omega)
  refine ⟨row, r1, r2, ?_⟩
  rw [zs_nil] at r3
  have hf : forS (walkR1 (rd 1)) (asg 5) row_body [.val (.int c), .val (.int (n : Int)), .val (.int lim), .own 0 [], .val (.int (if c < 0 then -c else c)), .unset] = .next [.val (.int c), .val (.int (n : Int)), .val (.int lim), .own 0 (zs row), .val (.int l2), t2] := by
    rw [forS_ok (walkR1_nat (n := n) rfl hn), r3]; rfl
  have hb : b_law_row [.val (.int c), .val (.int (n : Int)), .val (.int lim), .unset, .unset, .unset] = .ret (.new 0 (zs row)) := by
    unfold b_law_row
    simp only [seqS_ap, setS_ap, nilD_ap, asg_new, callN_ap, aCons_ap, aNil_ap, rd_ap, List.getElem?_cons_succ, List.getElem?_cons_zero, R.ok_bind, absV_int, asg_val, List.set_cons_succ, List.set_cons_zero]
    rw [hf]
    rfl
  exact runFn_ret hb
theorem v_law_cell (ns : List Int) (k : Nat) : ∃ c : Int, f_law_cell [.val (.scr ns), .val (.int (k : Int))] = .ok (.val (.int c)) := by
  by_cases h : k < ns.length
  · refine ⟨ns[k], ?_⟩
    have h' : (k : Int) < (ns.length : Int) := by omega
    have hg : atI ns (k : Int) = some ns[k] := by rw [Pv.atI_nat]; exact List.getElem?_eq_getElem h
    simp only [f_law_cell, runFn, b_law_cell, seqS_ap, nilS_ap, brkS_ap, contS_ap, badS_ap, raiseS_ap, frS_ap, setS_ap, dropS_ap, retS_ap, ifS_ap, asg_val, asg_new, asg_bor, retR_val, retR_new, rd_ap, retOwn_ap, cst_ap, bin2_ap, un1_ap, callN_ap, callF_ap, fldE_ap, aNil_ap, aCons_ap, tupD_ap, lstD_ap, nilD_ap, walkOf_ap, walkR1_ap, walkR2_ap, walkZ_ap, walkE_ap, walkV_ap, tupRevV_ap, andT_ap, orT_ap, notT_ap, boolOf_ap, boolR_bl, andV_ap, orV_ap, notE_ap, ifV_ap, chn_ap, noB_ap, intB_ap, sl3_ap, forS_ap, lcV_ap, yesT_ap, stD_val, stD_new0, stAll_nil, stAll_cons, stR_val, stR_new, argR_val, argR_new, argR_bor, argR_lend, addV_int, subV_int, negV_int, ltV_int, leV_int, gtV_int, geV_int, eqV_int, neV_int, eqV_str, neV_str, intV_int, absV_int, max2_int, min2_int, lenV_tup, lenV_lst, lenV_scr, lenV_lend, R.ok_bind, slotOf, List.map_cons, List.map_nil, List.length_cons, List.length_nil, List.cons_append, List.nil_append, List.append_nil, List.replicate, List.getElem?_cons_succ, List.getElem?_cons_zero, Res.items, List.set_cons_succ, List.set_cons_zero, Nat.reduceAdd, Nat.reduceSub, Res.pv, ixV_scr, hg, decide_eq_true h', if_true]
  · refine ⟨0, ?_⟩
    have h' : ¬ (k : Int) < (ns.length : Int) := by omega
    simp only [f_law_cell, runFn, b_law_cell, seqS_ap, nilS_ap, brkS_ap, contS_ap, badS_ap, raiseS_ap, frS_ap, setS_ap, dropS_ap, retS_ap, ifS_ap, asg_val, asg_new, asg_bor, retR_val, retR_new, rd_ap, retOwn_ap, cst_ap, bin2_ap, un1_ap, callN_ap, callF_ap, fldE_ap, aNil_ap, aCons_ap, tupD_ap, lstD_ap, nilD_ap, walkOf_ap, walkR1_ap, walkR2_ap, walkZ_ap, walkE_ap, walkV_ap, tupRevV_ap, andT_ap, orT_ap, notT_ap, boolOf_ap, boolR_bl, andV_ap, orV_ap, notE_ap, ifV_ap, chn_ap, noB_ap, intB_ap, sl3_ap, forS_ap, lcV_ap, yesT_ap, stD_val, stD_new0, stAll_nil, stAll_cons, stR_val, stR_new, argR_val, argR_new, argR_bor, argR_lend, addV_int, subV_int, negV_int, ltV_int, leV_int, gtV_int, geV_int, eqV_int, neV_int, eqV_str, neV_str, intV_int, absV_int, max2_int, min2_int, lenV_tup, lenV_lst, lenV_scr, lenV_lend, R.ok_bind, slotOf, List.map_cons, List.map_nil, List.length_cons, List.length_nil, List.cons_append, List.nil_append, List.append_nil, List.replicate, List.getElem?_cons_succ, List.getElem?_cons_zero, Res.items, List.set_cons_succ, List.set_cons_zero, Nat.reduceAdd, Nat.reduceSub, Res.pv, decide_eq_false h', Bool.false_eq_true, if_false]
end
end K88
namespace K88
open PySem PySem.Spec L2 Pv Mz
noncomputable section
def zn (xs : List Nat) : List PV := xs.map fun (n : Nat) => PV.int (n : Int)
theorem zn_nil : zn [] = [] := (rfl)
theorem zn_cons {x : Nat} {xs : List Nat} : zn (x :: xs) = .int (x : Int) :: zn xs := (rfl)
theorem zn_snoc {x : Nat} {xs : List Nat} : zn xs ++ [.int (x : Int)] = zn (xs ++ [x]) := by unfold zn; rw [List.map_append]; rfl
theorem zn_length {xs : List Nat} : (zn xs).length = xs.length := by unfold zn; rw [List.length_map]
theorem zn_get {xs : List Nat} {i : Nat} : (zn xs)[i]? = (xs[i]?).map fun (n : Nat) => PV.int (n : Int) := by unfold zn; rw [List.getElem?_map]
theorem zn_append {xs ys : List Nat} : zn xs ++ zn ys = zn (xs ++ ys) := by unfold zn; rw [List.map_append]
theorem fdiv_nat (a b : Nat) : Int.fdiv (a : Int) (b : Int) = ((a / b : Nat) : Int) := by rw [Int.fdiv_eq_ediv_of_nonneg _ (Int.natCast_nonneg b)]; rfl
theorem fmod_nat (a b : Nat) : Int.fmod (a : Int) (b : Int) = ((a % b : Nat) : Int) := by rw [Int.fmod_eq_emod_of_nonneg _ (Int.natCast_nonneg b)]; rfl
theorem pr_snoc : ∀ (xs : List Nat) (x : Nat), pr (xs ++ [x]) = pr xs * x
  | [], x => by show x * 1 = 1 * x; omega
  | y :: ys, x => by show y * pr (ys ++ [x]) = y * pr ys * x; rw [pr_snoc ys x, Nat.mul_assoc]
theorem at_zs {xs : List Int} {i : Nat} {x : Int} (h : xs[i]? = some x) : atI (zs xs) (i : Int) = some (.int x) := by rw [Pv.atI_nat, zs_get, h]; rfl
theorem at_zn {xs : List Nat} {i : Nat} {x : Nat} (h : xs[i]? = some x) : atI (zn xs) (i : Int) = some (.int (x : Int)) := by rw [Pv.atI_nat, zn_get, h]; rfl
theorem nat_of {x : Int} (h : 0 ≤ x) : ∃ n : Nat, x = (n : Int) := ⟨x.toNat, by omega⟩
abbrev sizes_body : VS := (seqS (setS 7 (bin2 addV (cst (.int 1)) (bin2 modV (callN intV (aCons (bin2 ixV (rd 1) (bin2 addV (cst (.int 2)) (rd 6))) aNil)) (cst (.int 5)))))
    (seqS (ifS (boolOf (bin2 gtV (bin2 mulV (rd 5) (rd 7)) (rd 3)))
    (setS 7 (callN maxV (aCons (cst (.int 1)) (aCons (bin2 fdivV (rd 3) (rd 5)) aNil))))
    nilS)
    (seqS (setS 5 (bin2 mulV (rd 5) (rd 7)))
    (apS 4 (pthN 4) (rd 7)))))
theorem seqS_next {f g : VS} {ρ ρ' : Pv.Env} (h : f ρ = .next ρ') : seqS f g ρ = g ρ' := by rw [seqS_ap, h]
theorem seqS_ret {f g : VS} {ρ : Pv.Env} {r : Res} (h : f ρ = .ret r) : seqS f g ρ = .ret r := by rw [seqS_ap, h]
theorem sizes_loop (cell ppl : Slot) (row : List Int) (hrow : In 0 60 row) (hr : row.length = 6) (most : Nat) (hm : most ≤ 120) : ∀ (n : Nat) (acc : List Nat) (t6 t7 : Slot), acc.length + n ≤ 4 → pr acc ≤ most → 0 < pr acc →
    ∃ (more : List Nat) (t6' t7' : Slot), more.length = n ∧ (∀ s ∈ more, 1 ≤ s ∧ s ≤ 5) ∧ pr (acc ++ more) ≤ most ∧
      runFor (asg 6) sizes_body (rngF acc.length n) [cell, .own 0 (zs row), ppl, .val (.int (most : Int)), .own 0 (zn acc), .val (.int (pr acc : Int)), t6, t7] = .next [cell, .own 0 (zs row), ppl, .val (.int (most : Int)), .own 0 (zn (acc ++ more)), .val (.int (pr (acc ++ more) : Int)), t6', t7']
  | 0, acc, t6, t7, _, h2, _ => ⟨[], t6, t7, rfl, (fun _ h => by cases h), by rw [List.append_nil]; exact h2, by rw [rngF_zero, runFor_nil, List.append_nil]⟩
  | n + 1, acc, t6, t7, h1, h2, h3 => by
    have key : ∃ s, (1 ≤ s ∧ s ≤ 5) ∧ pr acc * s ≤ most ∧ sizes_body [cell, .own 0 (zs row), ppl, .val (.int (most : Int)), .own 0 (zn acc), .val (.int (pr acc : Int)), .val (.int (acc.length : Int)), t7] =
        .next [cell, .own 0 (zs row), ppl, .val (.int (most : Int)), .own 0 (zn (acc ++ [s])), .val (.int ((pr acc * s : Nat) : Int)), .val (.int (acc.length : Int)), .val (.int (s : Int))] := by
      obtain ⟨x, hx⟩ : ∃ x, row[2 + acc.length]? = some x := ⟨_, List.getElem?_eq_getElem (by omega)⟩
      obtain ⟨f1, f2⟩ := fmod_in (x := x) (m := 5) (by omega)
      obtain ⟨s0, hs0⟩ := nat_of (x := 1 + x.fmod 5) (by omega)
      have ha : atI (zs row) (2 + (acc.length : Int)) = some (.int x) := at_zs (i := 2 + acc.length) hx
      have e1 : setS 7 (bin2 addV (cst (.int 1)) (bin2 modV (callN intV (aCons (bin2 ixV (rd 1) (bin2 addV (cst (.int 2)) (rd 6))) aNil)) (cst (.int 5)))) [cell, .own 0 (zs row), ppl, .val (.int (most : Int)), .own 0 (zn acc), .val (.int (pr acc : Int)), .val (.int (acc.length : Int)), t7] =
          .next [cell, .own 0 (zs row), ppl, .val (.int (most : Int)), .own 0 (zn acc), .val (.int (pr acc : Int)), .val (.int (acc.length : Int)), .val (.int (s0 : Int))] := by
        simp only [seqS_ap, nilS_ap, brkS_ap, contS_ap, badS_ap, raiseS_ap, frS_ap, setS_ap, dropS_ap, retS_ap, ifS_ap, asg_val, asg_new, asg_bor, retR_val, retR_new, rd_ap, retOwn_ap, cst_ap, bin2_ap, un1_ap, callN_ap, callF_ap, fldE_ap, aNil_ap, aCons_ap, tupD_ap, lstD_ap, nilD_ap, walkOf_ap, walkR1_ap, walkR2_ap, walkZ_ap, walkE_ap, walkV_ap, tupRevV_ap, andT_ap, orT_ap, notT_ap, boolOf_ap, boolR_bl, andV_ap, orV_ap, notE_ap, ifV_ap, chn_ap, noB_ap, intB_ap, sl3_ap, forS_ap, lcV_ap, yesT_ap, stD_val, stD_new0, stAll_nil, stAll_cons, stR_val, stR_new, argR_val, argR_new, argR_bor, argR_lend, addV_int, subV_int, negV_int, ltV_int, leV_int, gtV_int, geV_int, eqV_int, neV_int, eqV_str, neV_str, intV_int, absV_int, max2_int, min2_int, lenV_tup, lenV_lst, lenV_scr, lenV_lend, R.ok_bind, slotOf, List.map_cons, List.map_nil, List.length_cons, List.length_nil, List.cons_append, List.nil_append, List.append_nil, List.replicate, List.getElem?_cons_succ, List.getElem?_cons_zero, Res.items, List.set_cons_succ, List.set_cons_zero, Nat.reduceAdd, Nat.reduceSub, Res.pv, ixV_lend0, ha, modV_int (y := 5) (by decide), hs0]
      have hb : s0 ≤ 5 ∧ 1 ≤ s0 := by omega
      have hmul : mulOk (pr acc : Int) (s0 : Int) := mul_ok (by omega)
      have e3 : ∀ s : Nat, s ≤ 5 → seqS (setS 5 (bin2 mulV (rd 5) (rd 7))) (apS 4 (pthN 4) (rd 7)) [cell, .own 0 (zs row), ppl, .val (.int (most : Int)), .own 0 (zn acc), .val (.int (pr acc : Int)), .val (.int (acc.length : Int)), .val (.int (s : Int))] =
          .next [cell, .own 0 (zs row), ppl, .val (.int (most : Int)), .own 0 (zn (acc ++ [s])), .val (.int ((pr acc * s : Nat) : Int)), .val (.int (acc.length : Int)), .val (.int (s : Int))] := fun s hs => by
        rw [seqS_next (ρ' := [cell, .own 0 (zs row), ppl, .val (.int (most : Int)), .own 0 (zn acc), .val (.int ((pr acc * s : Nat) : Int)), .val (.int (acc.length : Int)), .val (.int (s : Int))])
          (by simp only [seqS_ap, nilS_ap, brkS_ap, contS_ap, badS_ap, raiseS_ap, frS_ap, setS_ap, dropS_ap, retS_ap, ifS_ap, asg_val, asg_new, asg_bor, retR_val, retR_new, rd_ap, retOwn_ap, cst_ap, bin2_ap, un1_ap, callN_ap, callF_ap, fldE_ap, aNil_ap, aCons_ap, tupD_ap, lstD_ap, nilD_ap, walkOf_ap, walkR1_ap, walkR2_ap, walkZ_ap, walkE_ap, walkV_ap, tupRevV_ap, andT_ap, orT_ap, notT_ap, boolOf_ap, boolR_bl, andV_ap, orV_ap, notE_ap, ifV_ap, chn_ap, noB_ap, intB_ap, sl3_ap, forS_ap, lcV_ap, yesT_ap, stD_val, stD_new0, stAll_nil, stAll_cons, stR_val, stR_new, argR_val, argR_new, argR_bor, argR_lend, addV_int, subV_int, negV_int, ltV_int, leV_int, gtV_int, geV_int, eqV_int, neV_int, eqV_str, neV_str, intV_int, absV_int, max2_int, min2_int, lenV_tup, lenV_lst, lenV_scr, lenV_lend, R.ok_bind, slotOf, List.map_cons, List.map_nil, List.length_cons, List.length_nil, List.cons_append, List.nil_append, List.append_nil, List.replicate, List.getElem?_cons_succ, List.getElem?_cons_zero, Res.items, List.set_cons_succ, List.set_cons_zero, Nat.reduceAdd, Nat.reduceSub, Res.pv, mulV_big (x := (pr acc : Int)) (y := (s : Int)) (by omega), Int.natCast_mul])]
        rw [apS_own (n := 0) (xs := zn acc) (r := .val (.int (s : Int))) (p := .int (s : Int)) rfl (by simp only [seqS_ap, nilS_ap, brkS_ap, contS_ap, badS_ap, raiseS_ap, frS_ap, setS_ap, dropS_ap, retS_ap, ifS_ap, asg_val, asg_new, asg_bor, retR_val, retR_new, rd_ap, retOwn_ap, cst_ap, bin2_ap, un1_ap, callN_ap, callF_ap, fldE_ap, aNil_ap, aCons_ap, tupD_ap, lstD_ap, nilD_ap, walkOf_ap, walkR1_ap, walkR2_ap, walkZ_ap, walkE_ap, walkV_ap, tupRevV_ap, andT_ap, orT_ap, notT_ap, boolOf_ap, boolR_bl, andV_ap, orV_ap, notE_ap, ifV_ap, chn_ap, noB_ap, intB_ap, sl3_ap, forS_ap, lcV_ap, yesT_ap, stD_val, stD_new0, stAll_nil, stAll_cons, stR_val, stR_new, argR_val, argR_new, argR_bor, argR_lend, addV_int, subV_int, negV_int, ltV_int, leV_int, gtV_int, geV_int, eqV_int, neV_int, eqV_str, neV_str, intV_int, absV_int, max2_int, min2_int, lenV_tup, lenV_lst, lenV_scr, lenV_lend, R.ok_bind, slotOf, List.map_cons, List.map_nil, List.length_cons, List.length_nil, List.cons_append, List.nil_append, List.append_nil, List.replicate, List.getElem?_cons_succ, List.getElem?_cons_zero, Res.items, List.set_cons_succ, List.set_cons_zero, Nat.reduceAdd, Nat.reduceSub, Res.pv]) rfl (by rw [zn_length]; exact line_lt (by omega)), zn_snoc]; rfl
      unfold sizes_body
      rw [seqS_next e1]
      by_cases hc : pr acc * s0 ≤ most
      · refine ⟨s0, ⟨hb.2, hb.1⟩, hc, ?_⟩
        have hd : ¬ ((pr acc : Int) * (s0 : Int) > (most : Int)) := by rw [← Int.natCast_mul]; omega
        rw [seqS_next (ρ' := [cell, .own 0 (zs row), ppl, .val (.int (most : Int)), .own 0 (zn acc), .val (.int (pr acc : Int)), .val (.int (acc.length : Int)), .val (.int (s0 : Int))])
          (by simp only [seqS_ap, nilS_ap, brkS_ap, contS_ap, badS_ap, raiseS_ap, frS_ap, setS_ap, dropS_ap, retS_ap, ifS_ap, asg_val, asg_new, asg_bor, retR_val, retR_new, rd_ap, retOwn_ap, cst_ap, bin2_ap, un1_ap, callN_ap, callF_ap, fldE_ap, aNil_ap, aCons_ap, tupD_ap, lstD_ap, nilD_ap, walkOf_ap, walkR1_ap, walkR2_ap, walkZ_ap, walkE_ap, walkV_ap, tupRevV_ap, andT_ap, orT_ap, notT_ap, boolOf_ap, boolR_bl, andV_ap, orV_ap, notE_ap, ifV_ap, chn_ap, noB_ap, intB_ap, sl3_ap, forS_ap, lcV_ap, yesT_ap, stD_val, stD_new0, stAll_nil, stAll_cons, stR_val, stR_new, argR_val, argR_new, argR_bor, argR_lend, addV_int, subV_int, negV_int, ltV_int, leV_int, gtV_int, geV_int, eqV_int, neV_int, eqV_str, neV_str, intV_int, absV_int, max2_int, min2_int, lenV_tup, lenV_lst, lenV_scr, lenV_lend, R.ok_bind, slotOf, List.map_cons, List.map_nil, List.length_cons, List.length_nil, List.cons_append, List.nil_append, List.append_nil, List.replicate, List.getElem?_cons_succ, List.getElem?_cons_zero, Res.items, List.set_cons_succ, List.set_cons_zero, Nat.reduceAdd, Nat.reduceSub, Res.pv, mulV_int hmul, decide_eq_false hd, Bool.false_eq_true, if_false])]
        exact e3 s0 hb.1
      · have hd : ((pr acc : Int) * (s0 : Int) > (most : Int)) := by rw [← Int.natCast_mul]; omega
        have q1 : most / pr acc < s0 := Nat.div_lt_of_lt_mul (by omega)
        have q2 : 1 ≤ most / pr acc := (Nat.one_le_div_iff h3).mpr h2
        refine ⟨most / pr acc, ⟨q2, by omega⟩, Nat.mul_div_le most (pr acc), ?_⟩
        have hp3 : (0 : Int) < (pr acc : Int) ∧ (pr acc : Int) < 2 ^ 1000 := by
          have : (2 : Int) ^ 1000 > 1000 := by decide
          omega
        have hmx : (if ((most / pr acc : Nat) : Int) > 1 then ((most / pr acc : Nat) : Int) else 1) = ((most / pr acc : Nat) : Int) := by split <;> omega
        rw [seqS_next (ρ' := [cell, .own 0 (zs row), ppl, .val (.int (most : Int)), .own 0 (zn acc), .val (.int (pr acc : Int)), .val (.int (acc.length : Int)), .val (.int ((most / pr acc : Nat) : Int))])
          (by simp only [seqS_ap, nilS_ap, brkS_ap, contS_ap, badS_ap, raiseS_ap, frS_ap, setS_ap, dropS_ap, retS_ap, ifS_ap, asg_val, asg_new, asg_bor, retR_val, retR_new, rd_ap, retOwn_ap, cst_ap, bin2_ap, un1_ap, callN_ap, callF_ap, fldE_ap, aNil_ap, aCons_ap, tupD_ap, lstD_ap, nilD_ap, walkOf_ap, walkR1_ap, walkR2_ap, walkZ_ap, walkE_ap, walkV_ap, tupRevV_ap, andT_ap, orT_ap, notT_ap, boolOf_ap, boolR_bl, andV_ap, orV_ap, notE_ap, ifV_ap, chn_ap, noB_ap, intB_ap, sl3_ap, forS_ap, lcV_ap, yesT_ap, stD_val, stD_new0, stAll_nil, stAll_cons, stR_val, stR_new, argR_val, argR_new, argR_bor, argR_lend, addV_int, subV_int, negV_int, ltV_int, leV_int, gtV_int, geV_int, eqV_int, neV_int, eqV_str, neV_str, intV_int, absV_int, max2_int, min2_int, lenV_tup, lenV_lst, lenV_scr, lenV_lend, R.ok_bind, slotOf, List.map_cons, List.map_nil, List.length_cons, List.length_nil, List.cons_append, List.nil_append, List.append_nil, List.replicate, List.getElem?_cons_succ, List.getElem?_cons_zero, Res.items, List.set_cons_succ, List.set_cons_zero, Nat.reduceAdd, Nat.reduceSub, Res.pv, mulV_int hmul, decide_eq_true hd, if_true, fdivV_pos hp3, fdiv_nat, hmx])]
        exact e3 _ (by omega)
    obtain ⟨s, hs, hp, e⟩ := key
    have hp' : pr (acc ++ [s]) = pr acc * s := pr_snoc acc s
    obtain ⟨more, t6', t7', r1, r2, r3, r4⟩ := sizes_loop cell ppl row hrow hr most hm n (acc ++ [s]) (.val (.int (acc.length : Int))) (.val (.int (s : Int))) (by rw [List.length_append, List.length_singleton]; omega) (by rw [hp']; exact hp) (by rw [hp']; exact Nat.mul_pos h3 (by omega))
    refine ⟨s :: more, t6', t7', by rw [List.length_cons, r1], fun x hx => ?_, by rw [List.append_assoc] at r3; exact r3, ?_⟩
    · rcases List.mem_cons.mp hx with rfl | h
      · exact hs
      · exact r2 x h
    · rw [rngF_succ, runFor_cons]
      simp only [asg_val, List.set_cons_succ, List.set_cons_zero]
      rw [e]
      simp only
      rw [List.length_append, List.length_singleton, hp'] at r4
      rw [r4, List.append_assoc]; rfl
structure Sizes (ss : List Nat) : Prop where
  n1 : 1 ≤ ss.length
  n4 : ss.length ≤ 4
  el : ∀ s ∈ ss, 1 ≤ s ∧ s ≤ 5
  pr : Mz.pr ss ≤ 120
theorem Sizes.pos {ss : List Nat} (h : Sizes ss) : Pos ss := fun s hs => (h.el s hs).1
theorem v_law_sizes (c : Int) : ∃ ss : List Nat, Sizes ss ∧ f_law_sizes [.val (.int c)] = .ok (.new 0 (zn ss)) := by
  obtain ⟨row, r1, r2, r3⟩ := v_law_row c 60 6 (by decide) (by decide)
  match row, r1 with
  | [x0, x1, x2, x3, x4, x5], _ =>
    obtain ⟨f1, f2⟩ := fmod_in (x := x0 + 1) (m := 4) (by omega)
    obtain ⟨p, hp⟩ := nat_of (x := 1 + (x0 + 1).fmod 4) (by omega)
    have g0 : atI (zs [x0, x1, x2, x3, x4, x5]) 0 = some (.int x0) := rfl
    have g1 : atI (zs [x0, x1, x2, x3, x4, x5]) 1 = some (.int x1) := rfl
    have go : ∀ most : Nat, 1 ≤ most → most ≤ 120 → ∃ ss : List Nat, Sizes ss ∧ (seqS (setS 4 (nilD 0)) (seqS (setS 5 (cst (.int 1))) (seqS (forS (walkR1 (rd 2)) (asg 6) sizes_body) (retOwn 4)))) [.val (.int c), .own 0 (zs [x0, x1, x2, x3, x4, x5]), .val (.int (p : Int)), .val (.int (most : Int)), .unset, .unset, .unset, .unset] = .ret (.new 0 (zn ss)) := fun most h1 h2 => by
      obtain ⟨more, t6, t7, q1, q2, q3, q4⟩ := sizes_loop (.val (.int c)) (.val (.int (p : Int))) [x0, x1, x2, x3, x4, x5] r2 rfl most h2 p [] .unset .unset (by rw [List.length_nil]; omega) h1 Nat.one_pos
      refine ⟨more, ⟨by omega, by omega, q2, Nat.le_trans q3 h2⟩, ?_⟩
      rw [seqS_next (ρ' := [.val (.int c), .own 0 (zs [x0, x1, x2, x3, x4, x5]), .val (.int (p : Int)), .val (.int (most : Int)), .own 0 [], .unset, .unset, .unset]) (by rfl),
        seqS_next (ρ' := [.val (.int c), .own 0 (zs [x0, x1, x2, x3, x4, x5]), .val (.int (p : Int)), .val (.int (most : Int)), .own 0 [], .val (.int 1), .unset, .unset]) (by rfl)]
      have e : runFor (asg 6) sizes_body (rngF 0 p) [.val (.int c), .own 0 (zs [x0, x1, x2, x3, x4, x5]), .val (.int (p : Int)), .val (.int (most : Int)), .own 0 [], .val (.int 1), .unset, .unset] = _ := q4
      rw [seqS_next ((forS_ok (walkR1_nat (n := p) (by rfl) (by omega))).trans e)]
      rfl
    have e1 : ∀ q, b_law_sizes [.val (.int c), .unset, .unset, .unset, .unset, .unset, .unset, .unset] = q ↔ (seqS (ifS (boolOf (bin2 ltV (bin2 ixV (rd 1) (cst (.int 1))) (cst (.int 8)))) (setS 3 (cst (.int 120))) nilS) (seqS (setS 4 (nilD 0)) (seqS (setS 5 (cst (.int 1))) (seqS (forS (walkR1 (rd 2)) (asg 6) sizes_body) (retOwn 4))))) [.val (.int c), .own 0 (zs [x0, x1, x2, x3, x4, x5]), .val (.int (p : Int)), .val (.int 12), .unset, .unset, .unset, .unset] = q := fun q => by
      unfold b_law_sizes
      have r3' : f_law_row [Res.val (.int c), Res.val (.int 6), Res.val (.int 60)] = .ok (.new 0 (zs [x0, x1, x2, x3, x4, x5])) := r3
      rw [seqS_next (ρ' := [.val (.int c), .own 0 (zs [x0, x1, x2, x3, x4, x5]), .unset, .unset, .unset, .unset, .unset, .unset]) (by simp only [seqS_ap, nilS_ap, brkS_ap, contS_ap, badS_ap, raiseS_ap, frS_ap, setS_ap, dropS_ap, retS_ap, ifS_ap, asg_val, asg_new, asg_bor, retR_val, retR_new, rd_ap, retOwn_ap, cst_ap, bin2_ap, un1_ap, callN_ap, callF_ap, fldE_ap, aNil_ap, aCons_ap, tupD_ap, lstD_ap, nilD_ap, walkOf_ap, walkR1_ap, walkR2_ap, walkZ_ap, walkE_ap, walkV_ap, tupRevV_ap, andT_ap, orT_ap, notT_ap, boolOf_ap, boolR_bl, andV_ap, orV_ap, notE_ap, ifV_ap, chn_ap, noB_ap, intB_ap, sl3_ap, forS_ap, lcV_ap, yesT_ap, stD_val, stD_new0, stAll_nil, stAll_cons, stR_val, stR_new, argR_val, argR_new, argR_bor, argR_lend, addV_int, subV_int, negV_int, ltV_int, leV_int, gtV_int, geV_int, eqV_int, neV_int, eqV_str, neV_str, intV_int, absV_int, max2_int, min2_int, lenV_tup, lenV_lst, lenV_scr, lenV_lend, R.ok_bind, slotOf, List.map_cons, List.map_nil, List.length_cons, List.length_nil, List.cons_append, List.nil_append, List.append_nil, List.replicate, List.getElem?_cons_succ, List.getElem?_cons_zero, Res.items, List.set_cons_succ, List.set_cons_zero, Nat.reduceAdd, Nat.reduceSub, Res.pv, r3']),
        seqS_next (ρ' := [.val (.int c), .own 0 (zs [x0, x1, x2, x3, x4, x5]), .val (.int (p : Int)), .unset, .unset, .unset, .unset, .unset]) (by simp only [seqS_ap, nilS_ap, brkS_ap, contS_ap, badS_ap, raiseS_ap, frS_ap, setS_ap, dropS_ap, retS_ap, ifS_ap, asg_val, asg_new, asg_bor, retR_val, retR_new, rd_ap, retOwn_ap, cst_ap, bin2_ap, un1_ap, callN_ap, callF_ap, fldE_ap, aNil_ap, aCons_ap, tupD_ap, lstD_ap, nilD_ap, walkOf_ap, walkR1_ap, walkR2_ap, walkZ_ap, walkE_ap, walkV_ap, tupRevV_ap, andT_ap, orT_ap, notT_ap, boolOf_ap, boolR_bl, andV_ap, orV_ap, notE_ap, ifV_ap, chn_ap, noB_ap, intB_ap, sl3_ap, forS_ap, lcV_ap, yesT_ap, stD_val, stD_new0, stAll_nil, stAll_cons, stR_val, stR_new, argR_val, argR_new, argR_bor, argR_lend, addV_int, subV_int, negV_int, ltV_int, leV_int, gtV_int, geV_int, eqV_int, neV_int, eqV_str, neV_str, intV_int, absV_int, max2_int, min2_int, lenV_tup, lenV_lst, lenV_scr, lenV_lend, R.ok_bind, slotOf, List.map_cons, List.map_nil, List.length_cons, List.length_nil, List.cons_append, List.nil_append, List.append_nil, List.replicate, List.getElem?_cons_succ, List.getElem?_cons_zero, Res.items, List.set_cons_succ, List.set_cons_zero, Nat.reduceAdd, Nat.reduceSub, Res.pv, ixV_lend0, g0, modV_int (y := 4) (by decide), hp]),
        seqS_next (ρ' := [.val (.int c), .own 0 (zs [x0, x1, x2, x3, x4, x5]), .val (.int (p : Int)), .val (.int 12), .unset, .unset, .unset, .unset]) (by rfl)]
    by_cases hx : x1 < 8
    · obtain ⟨ss, s1, s2⟩ := go 120 (by omega) (by omega)
      refine ⟨ss, s1, runFn_ret ((e1 _).mpr ?_)⟩
      rw [seqS_next (ρ' := [.val (.int c), .own 0 (zs [x0, x1, x2, x3, x4, x5]), .val (.int (p : Int)), .val (.int 120), .unset, .unset, .unset, .unset]) (by simp only [seqS_ap, nilS_ap, brkS_ap, contS_ap, badS_ap, raiseS_ap, frS_ap, setS_ap, dropS_ap, retS_ap, ifS_ap, asg_val, asg_new, asg_bor, retR_val, retR_new, rd_ap, retOwn_ap, cst_ap, bin2_ap, un1_ap, callN_ap, callF_ap, fldE_ap, aNil_ap, aCons_ap, tupD_ap, lstD_ap, nilD_ap, walkOf_ap, walkR1_ap, walkR2_ap, walkZ_ap, walkE_ap, walkV_ap, tupRevV_ap, andT_ap, orT_ap, notT_ap, boolOf_ap, boolR_bl, andV_ap, orV_ap, notE_ap, ifV_ap, chn_ap, noB_ap, intB_ap, sl3_ap, forS_ap, lcV_ap, yesT_ap, stD_val, stD_new0, stAll_nil, stAll_cons, stR_val, stR_new, argR_val, argR_new, argR_bor, argR_lend, addV_int, subV_int, negV_int, ltV_int, leV_int, gtV_int, geV_int, eqV_int, neV_int, eqV_str, neV_str, intV_int, absV_int, max2_int, min2_int, lenV_tup, lenV_lst, lenV_scr, lenV_lend, R.ok_bind, slotOf, List.map_cons, List.map_nil, List.length_cons, List.length_nil, List.cons_append, List.nil_append, List.append_nil, List.replicate, List.getElem?_cons_succ, List.getElem?_cons_zero, Res.items, List.set_cons_succ, List.set_cons_zero, Nat.reduceAdd, Nat.reduceSub, Res.pv, ixV_lend0, g1, decide_eq_true hx, if_true])]
      exact s2
    · obtain ⟨ss, s1, s2⟩ := go 12 (by omega) (by omega)
      refine ⟨ss, s1, runFn_ret ((e1 _).mpr ?_)⟩
      rw [seqS_next (ρ' := [.val (.int c), .own 0 (zs [x0, x1, x2, x3, x4, x5]), .val (.int (p : Int)), .val (.int 12), .unset, .unset, .unset, .unset]) (by simp only [seqS_ap, nilS_ap, brkS_ap, contS_ap, badS_ap, raiseS_ap, frS_ap, setS_ap, dropS_ap, retS_ap, ifS_ap, asg_val, asg_new, asg_bor, retR_val, retR_new, rd_ap, retOwn_ap, cst_ap, bin2_ap, un1_ap, callN_ap, callF_ap, fldE_ap, aNil_ap, aCons_ap, tupD_ap, lstD_ap, nilD_ap, walkOf_ap, walkR1_ap, walkR2_ap, walkZ_ap, walkE_ap, walkV_ap, tupRevV_ap, andT_ap, orT_ap, notT_ap, boolOf_ap, boolR_bl, andV_ap, orV_ap, notE_ap, ifV_ap, chn_ap, noB_ap, intB_ap, sl3_ap, forS_ap, lcV_ap, yesT_ap, stD_val, stD_new0, stAll_nil, stAll_cons, stR_val, stR_new, argR_val, argR_new, argR_bor, argR_lend, addV_int, subV_int, negV_int, ltV_int, leV_int, gtV_int, geV_int, eqV_int, neV_int, eqV_str, neV_str, intV_int, absV_int, max2_int, min2_int, lenV_tup, lenV_lst, lenV_scr, lenV_lend, R.ok_bind, slotOf, List.map_cons, List.map_nil, List.length_cons, List.length_nil, List.cons_append, List.nil_append, List.append_nil, List.replicate, List.getElem?_cons_succ, List.getElem?_cons_zero, Res.items, List.set_cons_succ, List.set_cons_zero, Nat.reduceAdd, Nat.reduceSub, Res.pv, ixV_lend0, g1, decide_eq_false hx, Bool.false_eq_true, if_false])]
      exact s2
end
end K88
namespace K88
open PySem PySem.Spec L2 Pv Mz
noncomputable section
theorem count_loop (a : Slot) : ∀ (xs : List Nat) (s : Slot) (c : Nat), (∀ x ∈ xs, x ≤ 1000) → ∃ t, runFor (asg 2) (setS 1 (bin2 mulV (rd 1) (rd 2))) ((zn xs).map .val) [a, .val (.int (c : Int)), s] = .next [a, .val (.int ((c * pr xs : Nat) : Int)), t]
  | [], s, c, _ => ⟨s, by rw [zn_nil]; show Fl.next _ = _; rw [show pr [] = 1 from rfl, Nat.mul_one]⟩
  | x :: xs, s, c, h => by
    have hx := h x (by simp)
    obtain ⟨t, ht⟩ := count_loop a xs (.val (.int (x : Int))) (c * x) (fun y hy => h y (by simp [hy]))
    refine ⟨t, ?_⟩
    rw [zn_cons, List.map_cons, runFor_cons]
    simp only [asg_val, List.set_cons_succ, List.set_cons_zero, setS_ap, bin2_ap, rd_ap, List.getElem?_cons_succ, List.getElem?_cons_zero, R.ok_bind, mulV_big (x := (c : Int)) (y := (x : Int)) (by omega)]
    rw [← Int.natCast_mul, ht, Nat.mul_assoc]; rfl
theorem v_law_count (ss : List Nat) (h : ∀ x ∈ ss, x ≤ 1000) : f_law_count [.val (.lst (zn ss))] = .ok (.val (.int (pr ss : Int))) := by
  obtain ⟨t, ht⟩ := count_loop (.val (.lst (zn ss))) ss .unset 1 h
  refine runFn_ret (f := b_law_count) ?_
  unfold b_law_count
  rw [seqS_next (ρ' := [.val (.lst (zn ss)), .val (.int ((1 : Nat) : Int)), .unset]) (by rfl), seqS_next ((forS_ok (walkOf_lst (xs := zn ss) (by rfl))).trans ht), Nat.one_mul]; rfl
theorem v_count_plays {r : Res} (ss : List Nat) (hr : r = .val (.lst (zn ss)) ∨ r = .val (.tup (zn ss))) (h : ∀ x ∈ ss, x ≤ 1000) : f_count_plays [r] = .ok (.val (.int (pr ss : Int))) := by
  rcases hr with rfl | rfl
  · obtain ⟨t, ht⟩ := count_loop (.val (.lst (zn ss))) ss .unset 1 h
    refine runFn_ret (f := b_count_plays) ?_
    unfold b_count_plays
    rw [seqS_next (ρ' := [.val (.lst (zn ss)), .val (.int ((1 : Nat) : Int)), .unset]) (by rfl), seqS_next ((forS_ok (walkOf_lst (xs := zn ss) (by rfl))).trans ht), Nat.one_mul]; rfl
  · obtain ⟨t, ht⟩ := count_loop (.val (.tup (zn ss))) ss .unset 1 h
    refine runFn_ret (f := b_count_plays) ?_
    unfold b_count_plays
    rw [seqS_next (ρ' := [.val (.tup (zn ss)), .val (.int ((1 : Nat) : Int)), .unset]) (by rfl), seqS_next ((forS_ok (walkOf_tup (xs := zn ss) (by rfl))).trans ht), Nat.one_mul]; rfl
def tps (ps : List (List Nat)) : List PV := ps.map fun p => .tup (zn p)
theorem tps_append {xs ys : List (List Nat)} : tps xs ++ tps ys = tps (xs ++ ys) := by unfold tps; rw [List.map_append]
theorem tps_length {xs : List (List Nat)} : (tps xs).length = xs.length := by unfold tps; rw [List.length_map]
theorem tps_cons {x : List Nat} {xs : List (List Nat)} : tps (x :: xs) = .tup (zn x) :: tps xs := (rfl)
abbrev pl_in : VS := apS 3 (pthN 3) (bin2 addV (rd 4) (tupD (aCons (rd 5) aNil)))
theorem pl_inner (s0 s1 s2 : Slot) (p : List Nat) (hp : p.length ≤ 10) : ∀ (n a : Nat) (acc : List (List Nat)) (t : Slot), acc.length + n ≤ 1000 → ∃ t', runFor (asg 5) pl_in (rngF a n) [s0, s1, s2, .own 0 (tps acc), .val (.tup (zn p)), t] = .next [s0, s1, s2, .own 0 (tps (acc ++ (List.range' a n).map fun c => p ++ [c])), .val (.tup (zn p)), t']
  | 0, a, acc, t, _ => ⟨t, by rw [rngF_zero, runFor_nil]; simp⟩
  | n + 1, a, acc, t, h => by
    obtain ⟨t', ht⟩ := pl_inner s0 s1 s2 p hp n (a + 1) (acc ++ [p ++ [a]]) (.val (.int (a : Int))) (by simp; omega)
    refine ⟨t', ?_⟩
    rw [rngF_succ, runFor_cons]
    simp only [asg_val, List.set_cons_succ, List.set_cons_zero]
    have e1 : tupD (aCons (rd 5) aNil) [s0, s1, s2, .own 0 (tps acc), .val (.tup (zn p)), .val (.int (a : Int))] = .ok (.val (.tup (zn [a]))) := tup_val (rs := [.val (.int (a : Int))]) (by rfl) (by rfl) (by show 1 ≤ 100000; decide)
    have e2 : addV (.val (.tup (zn p))) (.val (.tup (zn [a]))) = .ok (.val (.tup (zn (p ++ [a])))) := by rw [addV_tup (by rw [zn_length, zn_length]; simp; omega), zn_append]
    have e : pl_in [s0, s1, s2, .own 0 (tps acc), .val (.tup (zn p)), .val (.int (a : Int))] = .next [s0, s1, s2, .own 0 (tps (acc ++ [p ++ [a]])), .val (.tup (zn p)), .val (.int (a : Int))] := by
      unfold pl_in
      rw [apS_own (n := 0) (xs := tps acc) (r := .val (.tup (zn (p ++ [a])))) (p := .tup (zn (p ++ [a]))) (by rfl) (by rw [bin2_ap, show rd 4 [s0, s1, s2, .own 0 (tps acc), .val (.tup (zn p)), .val (.int (a : Int))] = .ok (.val (.tup (zn p))) from rfl, R.ok_bind, e1, R.ok_bind, e2]) (by rfl) (by rw [tps_length]; exact line_lt (by omega)), ← tps_append]; rfl
    rw [e]
    simp only
    rw [ht, List.range'_succ, List.map_cons, List.append_assoc]; rfl
abbrev pl_mid : VS := forS (walkR1 (rd 2)) (asg 5) pl_in
theorem pl_middle (s0 s1 : Slot) (s : Nat) (hs : s ≤ 100) : ∀ (ps : List (List Nat)) (acc : List (List Nat)) (t4 t5 : Slot), (∀ p ∈ ps, p.length ≤ 10) → acc.length + ps.length * s ≤ 1000 →
    ∃ t4' t5', runFor (asg 4) pl_mid ((tps ps).map .val) [s0, s1, .val (.int (s : Int)), .own 0 (tps acc), t4, t5] = .next [s0, s1, .val (.int (s : Int)), .own 0 (tps (acc ++ ext ps s)), t4', t5']
  | [], acc, t4, t5, _, _ => ⟨t4, t5, by show Fl.next _ = _; rw [show ext [] s = [] from rfl, List.append_nil]⟩
  | p :: ps, acc, t4, t5, h1, h2 => by
    rw [List.length_cons, Nat.add_mul, Nat.one_mul] at h2
    obtain ⟨t, ht⟩ := pl_inner s0 s1 (.val (.int (s : Int))) p (h1 p (by simp)) s 0 acc t5 (by omega)
    obtain ⟨t4', t5', hr⟩ := pl_middle s0 s1 s hs ps (acc ++ (List.range s).map fun c => p ++ [c]) (.val (.tup (zn p))) t (fun q hq => h1 q (by simp [hq])) (by rw [List.length_append, List.length_map, List.length_range]; omega)
    refine ⟨t4', t5', ?_⟩
    rw [tps_cons, List.map_cons, runFor_cons]
    simp only [asg_val, List.set_cons_succ, List.set_cons_zero]
    have e : pl_mid [s0, s1, .val (.int (s : Int)), .own 0 (tps acc), .val (.tup (zn p)), t5] = .next [s0, s1, .val (.int (s : Int)), .own 0 (tps (acc ++ (List.range s).map fun c => p ++ [c])), .val (.tup (zn p)), t] := by
      unfold pl_mid
      rw [forS_ok (walkR1_nat (n := s) (by rfl) (by omega)), ht, ← List.range_eq_range']
    rw [e]
    simp only
    rw [hr, List.append_assoc]; rfl
abbrev pl_body : VS := (seqS (setS 3 (nilD 0))
    (seqS (frS 1 (forS (walkOf (callN listV (aCons (rd 1) aNil))) (asg 4) pl_mid))
    (frS 3 (setS 1 (rd 3)))))
theorem pl_step (s0 S1 : Slot) (found : List (List Nat)) (hS : S1 = .own 0 (tps found) ∨ S1 = .val (.lst (tps found))) (s : Nat) (hs : s ≤ 100) (h1 : ∀ p ∈ found, p.length ≤ 10) (h2 : found.length * s ≤ 1000) (t3 t4 t5 : Slot) :
    ∃ t4' t5', pl_body [s0, S1, .val (.int (s : Int)), t3, t4, t5] = .next [s0, .val (.lst (tps (ext found s))), .val (.int (s : Int)), .val (.lst (tps (ext found s))), t4', t5'] := by
  obtain ⟨t4', t5', hr⟩ := pl_middle s0 (.val (.lst (tps found))) s hs found [] t4 t5 h1 (by rw [List.length_nil]; omega)
  refine ⟨t4', t5', ?_⟩
  unfold pl_body
  rw [seqS_next (ρ' := [s0, S1, .val (.int (s : Int)), .own 0 (tps []), t4, t5]) (by rfl)]
  have e1 : frE 1 [s0, S1, .val (.int (s : Int)), .own 0 (tps []), t4, t5] = [s0, .val (.lst (tps found)), .val (.int (s : Int)), .own 0 (tps []), t4, t5] := by rcases hS with rfl | rfl <;> rfl
  rw [seqS_next (ρ' := [s0, .val (.lst (tps found)), .val (.int (s : Int)), .own 0 (tps (ext found s)), t4', t5']) (by
    rw [frS_ap, e1, forS_ok (walkOf_new (n := 0) (xs := tps found) (by rfl)), hr, List.nil_append])]
  rfl
theorem pl_loop (s0 : Slot) : ∀ (ss pre : List Nat) (S1 t2 t3 t4 t5 : Slot), (S1 = .own 0 (tps (allP pre)) ∨ S1 = .val (.lst (tps (allP pre)))) → (∀ s ∈ pre ++ ss, 1 ≤ s ∧ s ≤ 5) → (pre ++ ss).length ≤ 4 →
    ∃ S1' t2' t3' t4' t5', (S1' = .own 0 (tps (allP (pre ++ ss))) ∨ S1' = .val (.lst (tps (allP (pre ++ ss))))) ∧ (ss ≠ [] → S1' = .val (.lst (tps (allP (pre ++ ss))))) ∧ runFor (asg 2) pl_body ((zn ss).map .val) [s0, S1, t2, t3, t4, t5] = .next [s0, S1', t2', t3', t4', t5']
  | [], pre, S1, t2, t3, t4, t5, h, _, _ => ⟨S1, t2, t3, t4, t5, by rw [List.append_nil]; exact h, fun z => absurd rfl z, rfl⟩
  | s :: ss, pre, S1, t2, t3, t4, t5, h, h1, h2 => by
    have hs := h1 s (by simp)
    have hpre : Pos pre := fun x hx => (h1 x (by simp [hx])).1
    have hle : pr pre ≤ 125 := by
      have : ∀ (l : List Nat), (∀ x ∈ l, x ≤ 5) → pr l ≤ 5 ^ l.length := fun l => by
        induction l with
        | nil => intro _; exact Nat.le_refl _
        | cons x l ih =>
          intro hx
          show x * pr l ≤ 5 ^ (l.length + 1)
          rw [Nat.pow_succ, Nat.mul_comm (5 ^ l.length)]
          exact Nat.mul_le_mul (hx x (by simp)) (ih fun y hy => hx y (by simp [hy]))
      refine Nat.le_trans (this pre fun x hx => (h1 x (by simp [hx])).2) ?_
      have hl : pre.length ≤ 3 := by simp at h2; omega
      exact Nat.le_trans (Nat.pow_le_pow_right (by omega) hl) (by decide)
    obtain ⟨t4', t5', e⟩ := pl_step s0 S1 (allP pre) h s (by omega) (fun p hp => by rw [(allP_ok hpre p hp).length]; simp at h2; omega) (by rw [allP_length]; exact Nat.le_trans (Nat.mul_le_mul hle hs.2) (by decide)) t3 t4 t5
    rw [← allP_snoc] at e
    obtain ⟨S1', u2, u3, u4, u5, q1, q2, q3⟩ := pl_loop s0 ss (pre ++ [s]) (.val (.lst (tps (allP (pre ++ [s]))))) (.val (.int (s : Int))) (.val (.lst (tps (allP (pre ++ [s]))))) t4' t5' (.inr rfl) (by rw [List.append_assoc]; exact h1) (by rw [List.append_assoc]; exact h2)
    rw [List.append_assoc] at q1 q2
    refine ⟨S1', u2, u3, u4, u5, q1, fun _ => ?_, ?_⟩
    · by_cases hn : ss = []
      · subst hn
        have q3 : Fl.next _ = Fl.next _ := q3
        injection q3 with q3
        injection q3 with _ q3
        injection q3 with q3 _
        rw [← q3]
      · exact q2 hn
    · rw [zn_cons, List.map_cons, runFor_cons]
      simp only [asg_val, List.set_cons_succ, List.set_cons_zero]
      rw [e]
      exact q3
theorem v_law_plays (ss : List Nat) (h : Sizes ss) : f_law_plays [.val (.lst (zn ss))] = .ok (.val (.lst (tps (allP ss)))) := by
  obtain ⟨S1', t2, t3, t4, t5, q1, q2, q3⟩ := pl_loop (.val (.lst (zn ss))) ss [] (.own 0 (tps (allP []))) .unset .unset .unset .unset (.inl rfl) (by rw [List.nil_append]; exact h.el) (by rw [List.nil_append]; exact h.n4)
  have e := q2 (fun z => by have := h.n1; rw [z] at this; exact absurd this (by decide))
  rw [List.nil_append] at e
  subst e
  refine runFn_ret (f := b_law_plays) (show b_law_plays [.val (.lst (zn ss)), .unset, .unset, .unset, .unset, .unset] = _ from ?_)
  unfold b_law_plays
  have e0 : lstD (aCons (tupD aNil) aNil) [.val (.lst (zn ss)), .unset, .unset, .unset, .unset, .unset] = .ok (.new 0 (tps (allP []))) := by
    have e1 : tupD aNil [.val (.lst (zn ss)), .unset, .unset, .unset, .unset, .unset] = .ok (.val (.tup [])) := tup_val (rs := []) (by rfl) (by rfl) (by decide)
    exact lst_val (rs := [.val (.tup [])]) (by rw [aCons_ap, e1]; rfl) (by rfl) (by decide)
  rw [seqS_next (ρ' := [.val (.lst (zn ss)), .own 0 (tps (allP [])), .unset, .unset, .unset, .unset]) (by rw [setS_ap, e0]; rfl), seqS_next ((forS_ok (walkOf_lst (xs := zn ss) (by rfl))).trans q3)]
  rfl
end
end K88
namespace K88
open PySem PySem.Spec L2 Pv Mz
noncomputable section
theorem runLc_zs {i : Nat} {te : VE} {ρ : Pv.Env} (h : Int → Int) : ∀ (row : List Int), (∀ x ∈ row, te (ρ.set i (.val (.int x))) = .ok (.val (.int (h x)))) → runLc 0 (asg i) yesT te ((zs row).map .val) ρ = .ok (zs (row.map h))
  | [], _ => rfl
  | x :: row, hx => by
    have ih := runLc_zs (i := i) (te := te) (ρ := ρ) h row (fun y hy => hx y (by simp [hy]))
    rw [zs_cons, List.map_cons]
    unfold runLc
    simp only [asg_val, yesT_ap, R.ok_bind, if_true, hx x (by simp), stD_val, ih]
    rfl
theorem lc_zs {i : Nat} {src te : VE} {ρ : Pv.Env} {row : List Int} (h : Int → Int) (hs : src ρ = .ok (.val (.lst (zs row)))) (hn : row.length ≤ 100000) (hx : ∀ x ∈ row, te ((wipeE ρ [i]).set i (.val (.int x))) = .ok (.val (.int (h x)))) : lcV 0 (walkOf src) (asg i) yesT te [i] ρ = .ok (.new 0 (zs (row.map h))) :=
  lcV_ok (walkOf_lst hs) (runLc_zs h row hx) (by rw [zs_length, List.length_map]; exact hn)
theorem lc_zsT {i : Nat} {src te : VE} {ρ : Pv.Env} {row : List Int} (h : Int → Int) (hs : src ρ = .ok (.val (.tup (zs row)))) (hn : row.length ≤ 100000) (hx : ∀ x ∈ row, te ((wipeE ρ [i]).set i (.val (.int x))) = .ok (.val (.int (h x)))) : lcV 0 (walkOf src) (asg i) yesT te [i] ρ = .ok (.new 0 (zs (row.map h))) :=
  lcV_ok (walkOf_tup hs) (runLc_zs h row hx) (by rw [zs_length, List.length_map]; exact hn)
def big : Int := 10 ^ 30
theorem v_law_pays (c : Int) (n : Nat) (hn : n ≤ 1000) : ∃ row : List Int, row.length = n ∧ In (-big) big row ∧ f_law_pays [.val (.int c), .val (.int (n : Int))] = .ok (.new 0 (zs row)) := by
  obtain ⟨m, m1, m2⟩ := v_law_mix c 91
  obtain ⟨row, r1, r2, r3⟩ := v_law_row c 100003 n (by decide) (by omega)
  obtain ⟨f1, f2⟩ := fmod_in (x := m) (m := 5) (by omega)
  have hp : powOk 10 24 := pow_ok (by decide)
  have hbig : big = 1000000000000000000000000000000 := by unfold big; decide
  have key : ∀ (h : Int → Int), (∀ x, 0 ≤ x ∧ x < 100003 → -big ≤ h x ∧ h x < big) → ∃ row' : List Int, row'.length = n ∧ In (-big) big row' ∧ zs (row.map h) = zs row' := fun h hh => ⟨row.map h, by rw [List.length_map, r1], (fun y hy => by
    obtain ⟨x, hx, e⟩ := List.mem_map.mp hy
    rw [← e]; exact hh x (r2 x hx)), rfl⟩
  have e0 : b_law_pays [.val (.int c), .val (.int (n : Int)), .unset, .unset, .unset] = (seqS (ifS (boolOf (bin2 eqV (rd 2) (cst (.int 0))))
    (frS 3 (retS (lcV 0 (walkOf (rd 3)) (asg 4) yesT (bin2 subV (bin2 modV (callN intV (aCons (rd 4) aNil)) (cst (.int 5))) (cst (.int 2))) [4])))
    nilS)
    (seqS (ifS (boolOf (bin2 eqV (rd 2) (cst (.int 1))))
    (frS 3 (retS (lcV 0 (walkOf (rd 3)) (asg 4) yesT (bin2 subV (bin2 modV (callN intV (aCons (rd 4) aNil)) (cst (.int 41))) (cst (.int 20))) [4])))
    nilS)
    (seqS (ifS (boolOf (bin2 eqV (rd 2) (cst (.int 2))))
    (frS 3 (retS (lcV 0 (walkOf (rd 3)) (asg 4) yesT (bin2 subV (rd 4) (cst (.int 50001))) [4])))
    nilS)
    (seqS (ifS (boolOf (bin2 eqV (rd 2) (cst (.int 3))))
    (frS 3 (retS (lcV 0 (walkOf (rd 3)) (asg 4) yesT (bin2 addV (bin2 mulV (bin2 subV (rd 4) (cst (.int 50001))) (bin2 powV (cst (.int 10)) (cst (.int 24)))) (rd 4)) [4])))
    nilS)
    (frS 3 (retS (lcV 0 (walkOf (rd 3)) (asg 4) yesT (bin2 mulV (bin2 subV (bin2 modV (callN intV (aCons (rd 4) aNil)) (cst (.int 15))) (cst (.int 7))) (cst (.int 60))) [4]))))))) [.val (.int c), .val (.int (n : Int)), .val (.int (m.fmod 5)), .own 0 (zs row), .unset] := by
    unfold b_law_pays
    have m2' : f_law_mix [Res.val (.int c), Res.val (.int 91)] = .ok (.val (.int m)) := m2
    have r3' : f_law_row [Res.val (.int c), Res.val (.int (n : Int)), Res.val (.int 100003)] = .ok (.new 0 (zs row)) := r3
    rw [seqS_next (ρ' := [.val (.int c), .val (.int (n : Int)), .val (.int (m.fmod 5)), .unset, .unset]) (by simp only [seqS_ap, nilS_ap, brkS_ap, contS_ap, badS_ap, raiseS_ap, frS_ap, setS_ap, dropS_ap, retS_ap, ifS_ap, asg_val, asg_new, asg_bor, retR_val, retR_new, rd_ap, retOwn_ap, cst_ap, bin2_ap, un1_ap, callN_ap, callF_ap, fldE_ap, aNil_ap, aCons_ap, tupD_ap, lstD_ap, nilD_ap, walkOf_ap, walkR1_ap, walkR2_ap, walkZ_ap, walkE_ap, walkV_ap, tupRevV_ap, andT_ap, orT_ap, notT_ap, boolOf_ap, boolR_bl, andV_ap, orV_ap, notE_ap, ifV_ap, chn_ap, noB_ap, intB_ap, sl3_ap, forS_ap, lcV_ap, yesT_ap, stD_val, stD_new0, stAll_nil, stAll_cons, stR_val, stR_new, argR_val, argR_new, argR_bor, argR_lend, addV_int, subV_int, negV_int, ltV_int, leV_int, gtV_int, geV_int, eqV_int, neV_int, eqV_str, neV_str, intV_int, absV_int, max2_int, min2_int, lenV_tup, lenV_lst, lenV_scr, lenV_lend, R.ok_bind, slotOf, List.map_cons, List.map_nil, List.length_cons, List.length_nil, List.cons_append, List.nil_append, List.append_nil, List.replicate, List.getElem?_cons_succ, List.getElem?_cons_zero, Res.items, List.set_cons_succ, List.set_cons_zero, Nat.reduceAdd, Nat.reduceSub, Res.pv, m2', modV_int (x := m) (y := 5) (by decide)]),
      seqS_next (ρ' := [.val (.int c), .val (.int (n : Int)), .val (.int (m.fmod 5)), .own 0 (zs row), .unset]) (by simp only [seqS_ap, nilS_ap, brkS_ap, contS_ap, badS_ap, raiseS_ap, frS_ap, setS_ap, dropS_ap, retS_ap, ifS_ap, asg_val, asg_new, asg_bor, retR_val, retR_new, rd_ap, retOwn_ap, cst_ap, bin2_ap, un1_ap, callN_ap, callF_ap, fldE_ap, aNil_ap, aCons_ap, tupD_ap, lstD_ap, nilD_ap, walkOf_ap, walkR1_ap, walkR2_ap, walkZ_ap, walkE_ap, walkV_ap, tupRevV_ap, andT_ap, orT_ap, notT_ap, boolOf_ap, boolR_bl, andV_ap, orV_ap, notE_ap, ifV_ap, chn_ap, noB_ap, intB_ap, sl3_ap, forS_ap, lcV_ap, yesT_ap, stD_val, stD_new0, stAll_nil, stAll_cons, stR_val, stR_new, argR_val, argR_new, argR_bor, argR_lend, addV_int, subV_int, negV_int, ltV_int, leV_int, gtV_int, geV_int, eqV_int, neV_int, eqV_str, neV_str, intV_int, absV_int, max2_int, min2_int, lenV_tup, lenV_lst, lenV_scr, lenV_lend, R.ok_bind, slotOf, List.map_cons, List.map_nil, List.length_cons, List.length_nil, List.cons_append, List.nil_append, List.append_nil, List.replicate, List.getElem?_cons_succ, List.getElem?_cons_zero, Res.items, List.set_cons_succ, List.set_cons_zero, Nat.reduceAdd, Nat.reduceSub, Res.pv, r3'])]
  have fin : ∀ (h : Int → Int) (te : VE), (∀ x, 0 ≤ x ∧ x < 100003 → -big ≤ h x ∧ h x < big) → (∀ x, 0 ≤ x ∧ x < 100003 → te [.val (.int c), .val (.int (n : Int)), .val (.int (m.fmod 5)), .val (.lst (zs row)), .val (.int x)] = .ok (.val (.int (h x)))) →
      ∃ row' : List Int, row'.length = n ∧ In (-big) big row' ∧ frS 3 (retS (lcV 0 (walkOf (rd 3)) (asg 4) yesT te [4])) [.val (.int c), .val (.int (n : Int)), .val (.int (m.fmod 5)), .own 0 (zs row), .unset] = .ret (.new 0 (zs row')) := fun h te hh ht => by
    obtain ⟨row', q1, q2, q3⟩ := key h hh
    refine ⟨row', q1, q2, ?_⟩
    have e1 : lcV 0 (walkOf (rd 3)) (asg 4) yesT te [4] [.val (.int c), .val (.int (n : Int)), .val (.int (m.fmod 5)), .val (.lst (zs row)), .unset] = .ok (.new 0 (zs row')) := by
      rw [lc_zs h (by rfl) (by omega) (fun x hx => ht x (r2 x hx)), q3]
    rw [frS_ap, show frE 3 [Slot.val (.int c), .val (.int (n : Int)), .val (.int (m.fmod 5)), .own 0 (zs row), .unset] = [.val (.int c), .val (.int (n : Int)), .val (.int (m.fmod 5)), .val (.lst (zs row)), .unset] from rfl, retS_ap, e1]
    rfl
  have no : ∀ (k : Int) (g : VS), ¬ m.fmod 5 = k → ifS (boolOf (bin2 eqV (rd 2) (cst (.int k)))) g nilS [.val (.int c), .val (.int (n : Int)), .val (.int (m.fmod 5)), .own 0 (zs row), .unset] = .next [.val (.int c), .val (.int (n : Int)), .val (.int (m.fmod 5)), .own 0 (zs row), .unset] := fun k g hk => by
    simp only [seqS_ap, nilS_ap, brkS_ap, contS_ap, badS_ap, raiseS_ap, frS_ap, setS_ap, dropS_ap, retS_ap, ifS_ap, asg_val, asg_new, asg_bor, retR_val, retR_new, rd_ap, retOwn_ap, cst_ap, bin2_ap, un1_ap, callN_ap, callF_ap, fldE_ap, aNil_ap, aCons_ap, tupD_ap, lstD_ap, nilD_ap, walkOf_ap, walkR1_ap, walkR2_ap, walkZ_ap, walkE_ap, walkV_ap, tupRevV_ap, andT_ap, orT_ap, notT_ap, boolOf_ap, boolR_bl, andV_ap, orV_ap, notE_ap, ifV_ap, chn_ap, noB_ap, intB_ap, sl3_ap, forS_ap, lcV_ap, yesT_ap, stD_val, stD_new0, stAll_nil, stAll_cons, stR_val, stR_new, argR_val, argR_new, argR_bor, argR_lend, addV_int, subV_int, negV_int, ltV_int, leV_int, gtV_int, geV_int, eqV_int, neV_int, eqV_str, neV_str, intV_int, absV_int, max2_int, min2_int, lenV_tup, lenV_lst, lenV_scr, lenV_lend, R.ok_bind, slotOf, List.map_cons, List.map_nil, List.length_cons, List.length_nil, List.cons_append, List.nil_append, List.append_nil, List.replicate, List.getElem?_cons_succ, List.getElem?_cons_zero, Res.items, List.set_cons_succ, List.set_cons_zero, Nat.reduceAdd, Nat.reduceSub, Res.pv, decide_eq_false hk, Bool.false_eq_true, if_false]
  have yes : ∀ (k : Int) (g : VS) (z : Fl), m.fmod 5 = k → g [.val (.int c), .val (.int (n : Int)), .val (.int (m.fmod 5)), .own 0 (zs row), .unset] = z → ifS (boolOf (bin2 eqV (rd 2) (cst (.int k)))) g nilS [.val (.int c), .val (.int (n : Int)), .val (.int (m.fmod 5)), .own 0 (zs row), .unset] = z := fun k g z hk hz => by
    simp only [seqS_ap, nilS_ap, brkS_ap, contS_ap, badS_ap, raiseS_ap, frS_ap, setS_ap, dropS_ap, retS_ap, ifS_ap, asg_val, asg_new, asg_bor, retR_val, retR_new, rd_ap, retOwn_ap, cst_ap, bin2_ap, un1_ap, callN_ap, callF_ap, fldE_ap, aNil_ap, aCons_ap, tupD_ap, lstD_ap, nilD_ap, walkOf_ap, walkR1_ap, walkR2_ap, walkZ_ap, walkE_ap, walkV_ap, tupRevV_ap, andT_ap, orT_ap, notT_ap, boolOf_ap, boolR_bl, andV_ap, orV_ap, notE_ap, ifV_ap, chn_ap, noB_ap, intB_ap, sl3_ap, forS_ap, lcV_ap, yesT_ap, stD_val, stD_new0, stAll_nil, stAll_cons, stR_val, stR_new, argR_val, argR_new, argR_bor, argR_lend, addV_int, subV_int, negV_int, ltV_int, leV_int, gtV_int, geV_int, eqV_int, neV_int, eqV_str, neV_str, intV_int, absV_int, max2_int, min2_int, lenV_tup, lenV_lst, lenV_scr, lenV_lend, R.ok_bind, slotOf, List.map_cons, List.map_nil, List.length_cons, List.length_nil, List.cons_append, List.nil_append, List.append_nil, List.replicate, List.getElem?_cons_succ, List.getElem?_cons_zero, Res.items, List.set_cons_succ, List.set_cons_zero, Nat.reduceAdd, Nat.reduceSub, Res.pv, decide_eq_true hk, if_true, hz]
  have m5 : ∀ x : Int, 0 ≤ x.fmod 5 ∧ x.fmod 5 < 5 := fun x => fmod_in (by omega)
  have m41 : ∀ x : Int, 0 ≤ x.fmod 41 ∧ x.fmod 41 < 41 := fun x => fmod_in (by omega)
  have m15 : ∀ x : Int, 0 ≤ x.fmod 15 ∧ x.fmod 15 < 15 := fun x => fmod_in (by omega)
  have h24 : (10 : Int) ^ (24 : Int).toNat = 1000000000000000000000000 := by decide
  by_cases k0 : m.fmod 5 = 0
  · obtain ⟨row', q1, q2, q3⟩ := fin (fun x => x.fmod 5 - 2) (bin2 subV (bin2 modV (callN intV (aCons (rd 4) aNil)) (cst (.int 5))) (cst (.int 2))) (fun x _ => by have := m5 x; show _ ≤ x.fmod 5 - 2 ∧ x.fmod 5 - 2 < _; omega) (fun x _ => by simp only [seqS_ap, nilS_ap, brkS_ap, contS_ap, badS_ap, raiseS_ap, frS_ap, setS_ap, dropS_ap, retS_ap, ifS_ap, asg_val, asg_new, asg_bor, retR_val, retR_new, rd_ap, retOwn_ap, cst_ap, bin2_ap, un1_ap, callN_ap, callF_ap, fldE_ap, aNil_ap, aCons_ap, tupD_ap, lstD_ap, nilD_ap, walkOf_ap, walkR1_ap, walkR2_ap, walkZ_ap, walkE_ap, walkV_ap, tupRevV_ap, andT_ap, orT_ap, notT_ap, boolOf_ap, boolR_bl, andV_ap, orV_ap, notE_ap, ifV_ap, chn_ap, noB_ap, intB_ap, sl3_ap, forS_ap, lcV_ap, yesT_ap, stD_val, stD_new0, stAll_nil, stAll_cons, stR_val, stR_new, argR_val, argR_new, argR_bor, argR_lend, addV_int, subV_int, negV_int, ltV_int, leV_int, gtV_int, geV_int, eqV_int, neV_int, eqV_str, neV_str, intV_int, absV_int, max2_int, min2_int, lenV_tup, lenV_lst, lenV_scr, lenV_lend, R.ok_bind, slotOf, List.map_cons, List.map_nil, List.length_cons, List.length_nil, List.cons_append, List.nil_append, List.append_nil, List.replicate, List.getElem?_cons_succ, List.getElem?_cons_zero, Res.items, List.set_cons_succ, List.set_cons_zero, Nat.reduceAdd, Nat.reduceSub, Res.pv, modV_int (x := x) (y := 5) (by decide)])
    exact ⟨row', q1, q2, runFn_ret (e0.trans (seqS_ret (yes 0 _ _ k0 q3)))⟩
  by_cases k1 : m.fmod 5 = 1
  · obtain ⟨row', q1, q2, q3⟩ := fin (fun x => x.fmod 41 - 20) (bin2 subV (bin2 modV (callN intV (aCons (rd 4) aNil)) (cst (.int 41))) (cst (.int 20))) (fun x _ => by have := m41 x; show _ ≤ x.fmod 41 - 20 ∧ x.fmod 41 - 20 < _; omega) (fun x _ => by simp only [seqS_ap, nilS_ap, brkS_ap, contS_ap, badS_ap, raiseS_ap, frS_ap, setS_ap, dropS_ap, retS_ap, ifS_ap, asg_val, asg_new, asg_bor, retR_val, retR_new, rd_ap, retOwn_ap, cst_ap, bin2_ap, un1_ap, callN_ap, callF_ap, fldE_ap, aNil_ap, aCons_ap, tupD_ap, lstD_ap, nilD_ap, walkOf_ap, walkR1_ap, walkR2_ap, walkZ_ap, walkE_ap, walkV_ap, tupRevV_ap, andT_ap, orT_ap, notT_ap, boolOf_ap, boolR_bl, andV_ap, orV_ap, notE_ap, ifV_ap, chn_ap, noB_ap, intB_ap, sl3_ap, forS_ap, lcV_ap, yesT_ap, stD_val, stD_new0, stAll_nil, stAll_cons, stR_val, stR_new, argR_val, argR_new, argR_bor, argR_lend, addV_int, subV_int, negV_int, ltV_int, leV_int, gtV_int, geV_int, eqV_int, neV_int, eqV_str, neV_str, intV_int, absV_int, max2_int, min2_int, lenV_tup, lenV_lst, lenV_scr, lenV_lend, R.ok_bind, slotOf, List.map_cons, List.map_nil, List.length_cons, List.length_nil, List.cons_append, List.nil_append, List.append_nil, List.replicate, List.getElem?_cons_succ, List.getElem?_cons_zero, Res.items, List.set_cons_succ, List.set_cons_zero, Nat.reduceAdd, Nat.reduceSub, Res.pv, modV_int (x := x) (y := 41) (by decide)])
    exact ⟨row', q1, q2, runFn_ret (e0.trans ((seqS_next (no 0 _ k0)).trans (seqS_ret (yes 1 _ _ k1 q3))))⟩
  by_cases k2 : m.fmod 5 = 2
  · obtain ⟨row', q1, q2, q3⟩ := fin (fun x => x - 50001) (bin2 subV (rd 4) (cst (.int 50001))) (fun x hx => by show _ ≤ x - 50001 ∧ x - 50001 < _; omega) (fun x _ => by simp only [seqS_ap, nilS_ap, brkS_ap, contS_ap, badS_ap, raiseS_ap, frS_ap, setS_ap, dropS_ap, retS_ap, ifS_ap, asg_val, asg_new, asg_bor, retR_val, retR_new, rd_ap, retOwn_ap, cst_ap, bin2_ap, un1_ap, callN_ap, callF_ap, fldE_ap, aNil_ap, aCons_ap, tupD_ap, lstD_ap, nilD_ap, walkOf_ap, walkR1_ap, walkR2_ap, walkZ_ap, walkE_ap, walkV_ap, tupRevV_ap, andT_ap, orT_ap, notT_ap, boolOf_ap, boolR_bl, andV_ap, orV_ap, notE_ap, ifV_ap, chn_ap, noB_ap, intB_ap, sl3_ap, forS_ap, lcV_ap, yesT_ap, stD_val, stD_new0, stAll_nil, stAll_cons, stR_val, stR_new, argR_val, argR_new, argR_bor, argR_lend, addV_int, subV_int, negV_int, ltV_int, leV_int, gtV_int, geV_int, eqV_int, neV_int, eqV_str, neV_str, intV_int, absV_int, max2_int, min2_int, lenV_tup, lenV_lst, lenV_scr, lenV_lend, R.ok_bind, slotOf, List.map_cons, List.map_nil, List.length_cons, List.length_nil, List.cons_append, List.nil_append, List.append_nil, List.replicate, List.getElem?_cons_succ, List.getElem?_cons_zero, Res.items, List.set_cons_succ, List.set_cons_zero, Nat.reduceAdd, Nat.reduceSub, Res.pv])
    exact ⟨row', q1, q2, runFn_ret (e0.trans ((seqS_next (no 0 _ k0)).trans ((seqS_next (no 1 _ k1)).trans (seqS_ret (yes 2 _ _ k2 q3)))))⟩
  by_cases k3 : m.fmod 5 = 3
  · obtain ⟨row', q1, q2, q3⟩ := fin (fun x => (x - 50001) * 1000000000000000000000000 + x) (bin2 addV (bin2 mulV (bin2 subV (rd 4) (cst (.int 50001))) (bin2 powV (cst (.int 10)) (cst (.int 24)))) (rd 4)) (fun x hx => by show _ ≤ (x - 50001) * 1000000000000000000000000 + x ∧ (x - 50001) * 1000000000000000000000000 + x < _; omega) (fun x hx => by
      have hm : mulOk (x - 50001) ((10 : Int) ^ (24 : Int).toNat) := mul_ok' (by omega)
      simp only [seqS_ap, nilS_ap, brkS_ap, contS_ap, badS_ap, raiseS_ap, frS_ap, setS_ap, dropS_ap, retS_ap, ifS_ap, asg_val, asg_new, asg_bor, retR_val, retR_new, rd_ap, retOwn_ap, cst_ap, bin2_ap, un1_ap, callN_ap, callF_ap, fldE_ap, aNil_ap, aCons_ap, tupD_ap, lstD_ap, nilD_ap, walkOf_ap, walkR1_ap, walkR2_ap, walkZ_ap, walkE_ap, walkV_ap, tupRevV_ap, andT_ap, orT_ap, notT_ap, boolOf_ap, boolR_bl, andV_ap, orV_ap, notE_ap, ifV_ap, chn_ap, noB_ap, intB_ap, sl3_ap, forS_ap, lcV_ap, yesT_ap, stD_val, stD_new0, stAll_nil, stAll_cons, stR_val, stR_new, argR_val, argR_new, argR_bor, argR_lend, addV_int, subV_int, negV_int, ltV_int, leV_int, gtV_int, geV_int, eqV_int, neV_int, eqV_str, neV_str, intV_int, absV_int, max2_int, min2_int, lenV_tup, lenV_lst, lenV_scr, lenV_lend, R.ok_bind, slotOf, List.map_cons, List.map_nil, List.length_cons, List.length_nil, List.cons_append, List.nil_append, List.append_nil, List.replicate, List.getElem?_cons_succ, List.getElem?_cons_zero, Res.items, List.set_cons_succ, List.set_cons_zero, Nat.reduceAdd, Nat.reduceSub, Res.pv, powV_int hp, mulV_int hm]
      rw [h24])
    exact ⟨row', q1, q2, runFn_ret (e0.trans ((seqS_next (no 0 _ k0)).trans ((seqS_next (no 1 _ k1)).trans ((seqS_next (no 2 _ k2)).trans (seqS_ret (yes 3 _ _ k3 q3))))))⟩
  · obtain ⟨row', q1, q2, q3⟩ := fin (fun x => (x.fmod 15 - 7) * 60) (bin2 mulV (bin2 subV (bin2 modV (callN intV (aCons (rd 4) aNil)) (cst (.int 15))) (cst (.int 7))) (cst (.int 60))) (fun x _ => by have := m15 x; show _ ≤ (x.fmod 15 - 7) * 60 ∧ (x.fmod 15 - 7) * 60 < _; omega) (fun x _ => by simp only [seqS_ap, nilS_ap, brkS_ap, contS_ap, badS_ap, raiseS_ap, frS_ap, setS_ap, dropS_ap, retS_ap, ifS_ap, asg_val, asg_new, asg_bor, retR_val, retR_new, rd_ap, retOwn_ap, cst_ap, bin2_ap, un1_ap, callN_ap, callF_ap, fldE_ap, aNil_ap, aCons_ap, tupD_ap, lstD_ap, nilD_ap, walkOf_ap, walkR1_ap, walkR2_ap, walkZ_ap, walkE_ap, walkV_ap, tupRevV_ap, andT_ap, orT_ap, notT_ap, boolOf_ap, boolR_bl, andV_ap, orV_ap, notE_ap, ifV_ap, chn_ap, noB_ap, intB_ap, sl3_ap, forS_ap, lcV_ap, yesT_ap, stD_val, stD_new0, stAll_nil, stAll_cons, stR_val, stR_new, argR_val, argR_new, argR_bor, argR_lend, addV_int, subV_int, negV_int, ltV_int, leV_int, gtV_int, geV_int, eqV_int, neV_int, eqV_str, neV_str, intV_int, absV_int, max2_int, min2_int, lenV_tup, lenV_lst, lenV_scr, lenV_lend, R.ok_bind, slotOf, List.map_cons, List.map_nil, List.length_cons, List.length_nil, List.cons_append, List.nil_append, List.append_nil, List.replicate, List.getElem?_cons_succ, List.getElem?_cons_zero, Res.items, List.set_cons_succ, List.set_cons_zero, Nat.reduceAdd, Nat.reduceSub, Res.pv, modV_int (x := x) (y := 15) (by decide), mulV_big (x := x.fmod 15 - 7) (y := 60) (by omega)])
    exact ⟨row', q1, q2, runFn_ret (e0.trans ((seqS_next (no 0 _ k0)).trans ((seqS_next (no 1 _ k1)).trans ((seqS_next (no 2 _ k2)).trans ((seqS_next (no 3 _ k3)).trans q3)))))⟩
end
end K88
namespace K88
open PySem PySem.Spec L2 Pv Mz
noncomputable section
abbrev gcd_body : VS := (seqS (ifS (boolOf (bin2 eqV (rd 1) (cst (.int 0))))
    (retOwn 0)
    nilS)
    (seqS (setS 3 (bin2 modV (callN intV (aCons (rd 0) aNil)) (rd 1)))
    (seqS (setS 0 (rd 1))
    (setS 1 (rd 3)))))
theorem gcd_zero (a : Nat) (t2 t3 : Slot) : gcd_body [.val (.int (a : Int)), .val (.int 0), t2, t3] = .ret (.val (.int (a : Int))) := by
  unfold gcd_body
  refine seqS_ret ?_
  simp only [seqS_ap, nilS_ap, brkS_ap, contS_ap, badS_ap, raiseS_ap, frS_ap, setS_ap, dropS_ap, retS_ap, ifS_ap, asg_val, asg_new, asg_bor, retR_val, retR_new, rd_ap, retOwn_ap, cst_ap, bin2_ap, un1_ap, callN_ap, callF_ap, fldE_ap, aNil_ap, aCons_ap, tupD_ap, lstD_ap, nilD_ap, walkOf_ap, walkR1_ap, walkR2_ap, walkZ_ap, walkE_ap, walkV_ap, tupRevV_ap, andT_ap, orT_ap, notT_ap, boolOf_ap, boolR_bl, andV_ap, orV_ap, notE_ap, ifV_ap, chn_ap, noB_ap, intB_ap, sl3_ap, forS_ap, lcV_ap, yesT_ap, stD_val, stD_new0, stAll_nil, stAll_cons, stR_val, stR_new, argR_val, argR_new, argR_bor, argR_lend, addV_int, subV_int, negV_int, ltV_int, leV_int, gtV_int, geV_int, eqV_int, neV_int, eqV_str, neV_str, intV_int, absV_int, max2_int, min2_int, lenV_tup, lenV_lst, lenV_scr, lenV_lend, R.ok_bind, slotOf, List.map_cons, List.map_nil, List.length_cons, List.length_nil, List.cons_append, List.nil_append, List.append_nil, List.replicate, List.getElem?_cons_succ, List.getElem?_cons_zero, Res.items, List.set_cons_succ, List.set_cons_zero, Nat.reduceAdd, Nat.reduceSub, Res.pv, decide_true, if_true]
theorem gcd_step (a b : Nat) (hb : 0 < b) (t2 t3 : Slot) : gcd_body [.val (.int (a : Int)), .val (.int (b : Int)), t2, t3] = .next [.val (.int (b : Int)), .val (.int ((a % b : Nat) : Int)), t2, .val (.int ((a % b : Nat) : Int))] := by
  have h0 : ¬ ((b : Int) = 0) := by omega
  unfold gcd_body
  rw [seqS_next (ρ' := [.val (.int (a : Int)), .val (.int (b : Int)), t2, t3]) (by simp only [seqS_ap, nilS_ap, brkS_ap, contS_ap, badS_ap, raiseS_ap, frS_ap, setS_ap, dropS_ap, retS_ap, ifS_ap, asg_val, asg_new, asg_bor, retR_val, retR_new, rd_ap, retOwn_ap, cst_ap, bin2_ap, un1_ap, callN_ap, callF_ap, fldE_ap, aNil_ap, aCons_ap, tupD_ap, lstD_ap, nilD_ap, walkOf_ap, walkR1_ap, walkR2_ap, walkZ_ap, walkE_ap, walkV_ap, tupRevV_ap, andT_ap, orT_ap, notT_ap, boolOf_ap, boolR_bl, andV_ap, orV_ap, notE_ap, ifV_ap, chn_ap, noB_ap, intB_ap, sl3_ap, forS_ap, lcV_ap, yesT_ap, stD_val, stD_new0, stAll_nil, stAll_cons, stR_val, stR_new, argR_val, argR_new, argR_bor, argR_lend, addV_int, subV_int, negV_int, ltV_int, leV_int, gtV_int, geV_int, eqV_int, neV_int, eqV_str, neV_str, intV_int, absV_int, max2_int, min2_int, lenV_tup, lenV_lst, lenV_scr, lenV_lend, R.ok_bind, slotOf, List.map_cons, List.map_nil, List.length_cons, List.length_nil, List.cons_append, List.nil_append, List.append_nil, List.replicate, List.getElem?_cons_succ, List.getElem?_cons_zero, Res.items, List.set_cons_succ, List.set_cons_zero, Nat.reduceAdd, Nat.reduceSub, Res.pv, decide_eq_false h0, Bool.false_eq_true, if_false]),
    seqS_next (ρ' := [.val (.int (a : Int)), .val (.int (b : Int)), t2, .val (.int ((a % b : Nat) : Int))]) (by simp only [seqS_ap, nilS_ap, brkS_ap, contS_ap, badS_ap, raiseS_ap, frS_ap, setS_ap, dropS_ap, retS_ap, ifS_ap, asg_val, asg_new, asg_bor, retR_val, retR_new, rd_ap, retOwn_ap, cst_ap, bin2_ap, un1_ap, callN_ap, callF_ap, fldE_ap, aNil_ap, aCons_ap, tupD_ap, lstD_ap, nilD_ap, walkOf_ap, walkR1_ap, walkR2_ap, walkZ_ap, walkE_ap, walkV_ap, tupRevV_ap, andT_ap, orT_ap, notT_ap, boolOf_ap, boolR_bl, andV_ap, orV_ap, notE_ap, ifV_ap, chn_ap, noB_ap, intB_ap, sl3_ap, forS_ap, lcV_ap, yesT_ap, stD_val, stD_new0, stAll_nil, stAll_cons, stR_val, stR_new, argR_val, argR_new, argR_bor, argR_lend, addV_int, subV_int, negV_int, ltV_int, leV_int, gtV_int, geV_int, eqV_int, neV_int, eqV_str, neV_str, intV_int, absV_int, max2_int, min2_int, lenV_tup, lenV_lst, lenV_scr, lenV_lend, R.ok_bind, slotOf, List.map_cons, List.map_nil, List.length_cons, List.length_nil, List.cons_append, List.nil_append, List.append_nil, List.replicate, List.getElem?_cons_succ, List.getElem?_cons_zero, Res.items, List.set_cons_succ, List.set_cons_zero, Nat.reduceAdd, Nat.reduceSub, Res.pv, modV_int (x := (a : Int)) (y := (b : Int)) h0, fmod_nat])]
  rfl
theorem gcd_loop : ∀ (n k a b : Nat) (t2 t3 : Slot), b < n → runFor (asg 2) gcd_body (rngF k n) [.val (.int (a : Int)), .val (.int (b : Int)), t2, t3] = .ret (.val (.int ((Nat.gcd a b : Nat) : Int)))
  | 0, k, a, b, t2, t3, h => absurd h (Nat.not_lt_zero _)
  | n + 1, k, a, b, t2, t3, h => by
    rw [rngF_succ, runFor_cons]
    simp only [asg_val, List.set_cons_succ, List.set_cons_zero]
    rcases Nat.eq_zero_or_pos b with rfl | hb
    · rw [show ((0 : Nat) : Int) = 0 from rfl, gcd_zero, Nat.gcd_zero_right]
    · rw [gcd_step a b hb]
      simp only
      rw [gcd_loop n (k + 1) b (a % b) _ _ (by have := Nat.mod_lt a hb; omega), Nat.gcd_comm b, ← Nat.gcd_rec, Nat.gcd_comm]
theorem abs_nat (x : Int) : (if x < 0 then -x else x) = (x.natAbs : Int) := by split <;> omega
theorem v_law_gcd (a : Nat) (ha : a ≤ 300) (b : Int) : f_law_gcd [.val (.int (a : Int)), .val (.int b)] = .ok (.val (.int ((Nat.gcd a b.natAbs : Nat) : Int))) := by
  have hh : forS (walkR1 (cst (.int 400))) (asg 2) gcd_body [.val (.int (a : Int)), .val (.int (b.natAbs : Int)), .unset, .unset] = .ret (.val (.int ((Nat.gcd a b.natAbs : Nat) : Int))) := by
    rw [forS_ok (walkR1_nat (n := 400) (by rfl) (by decide)), show (400 : Nat) = 399 + 1 from rfl, rngF_succ, runFor_cons]
    simp only [asg_val, List.set_cons_succ, List.set_cons_zero]
    rcases Nat.eq_zero_or_pos b.natAbs with hb | hb
    · rw [hb, show ((0 : Nat) : Int) = 0 from rfl, gcd_zero, Nat.gcd_zero_right]
    · rw [gcd_step a b.natAbs hb]
      simp only
      rw [gcd_loop 399 1 b.natAbs (a % b.natAbs) _ _ (by have := Nat.mod_le a b.natAbs; omega), Nat.gcd_comm b.natAbs, ← Nat.gcd_rec, Nat.gcd_comm]
  refine runFn_ret (show b_law_gcd [.val (.int (a : Int)), .val (.int b), .unset, .unset] = _ from ?_)
  unfold b_law_gcd
  rw [seqS_next (ρ' := [.val (.int (a : Int)), .val (.int b), .unset, .unset]) (by simp only [seqS_ap, nilS_ap, brkS_ap, contS_ap, badS_ap, raiseS_ap, frS_ap, setS_ap, dropS_ap, retS_ap, ifS_ap, asg_val, asg_new, asg_bor, retR_val, retR_new, rd_ap, retOwn_ap, cst_ap, bin2_ap, un1_ap, callN_ap, callF_ap, fldE_ap, aNil_ap, aCons_ap, tupD_ap, lstD_ap, nilD_ap, walkOf_ap, walkR1_ap, walkR2_ap, walkZ_ap, walkE_ap, walkV_ap, tupRevV_ap, andT_ap, orT_ap, notT_ap, boolOf_ap, boolR_bl, andV_ap, orV_ap, notE_ap, ifV_ap, chn_ap, noB_ap, intB_ap, sl3_ap, forS_ap, lcV_ap, yesT_ap, stD_val, stD_new0, stAll_nil, stAll_cons, stR_val, stR_new, argR_val, argR_new, argR_bor, argR_lend, addV_int, subV_int, negV_int, ltV_int, leV_int, gtV_int, geV_int, eqV_int, neV_int, eqV_str, neV_str, intV_int, absV_int, max2_int, min2_int, lenV_tup, lenV_lst, lenV_scr, lenV_lend, R.ok_bind, slotOf, List.map_cons, List.map_nil, List.length_cons, List.length_nil, List.cons_append, List.nil_append, List.append_nil, List.replicate, List.getElem?_cons_succ, List.getElem?_cons_zero, Res.items, List.set_cons_succ, List.set_cons_zero, Nat.reduceAdd, Nat.reduceSub, Res.pv, abs_nat, Int.natAbs_natCast]),
    seqS_next (ρ' := [.val (.int (a : Int)), .val (.int (b.natAbs : Int)), .unset, .unset]) (by simp only [seqS_ap, nilS_ap, brkS_ap, contS_ap, badS_ap, raiseS_ap, frS_ap, setS_ap, dropS_ap, retS_ap, ifS_ap, asg_val, asg_new, asg_bor, retR_val, retR_new, rd_ap, retOwn_ap, cst_ap, bin2_ap, un1_ap, callN_ap, callF_ap, fldE_ap, aNil_ap, aCons_ap, tupD_ap, lstD_ap, nilD_ap, walkOf_ap, walkR1_ap, walkR2_ap, walkZ_ap, walkE_ap, walkV_ap, tupRevV_ap, andT_ap, orT_ap, notT_ap, boolOf_ap, boolR_bl, andV_ap, orV_ap, notE_ap, ifV_ap, chn_ap, noB_ap, intB_ap, sl3_ap, forS_ap, lcV_ap, yesT_ap, stD_val, stD_new0, stAll_nil, stAll_cons, stR_val, stR_new, argR_val, argR_new, argR_bor, argR_lend, addV_int, subV_int, negV_int, ltV_int, leV_int, gtV_int, geV_int, eqV_int, neV_int, eqV_str, neV_str, intV_int, absV_int, max2_int, min2_int, lenV_tup, lenV_lst, lenV_scr, lenV_lend, R.ok_bind, slotOf, List.map_cons, List.map_nil, List.length_cons, List.length_nil, List.cons_append, List.nil_append, List.append_nil, List.replicate, List.getElem?_cons_succ, List.getElem?_cons_zero, Res.items, List.set_cons_succ, List.set_cons_zero, Nat.reduceAdd, Nat.reduceSub, Res.pv, abs_nat])]
  exact seqS_ret hh
theorem gcdV_nat (g : Nat) (x : Int) : gcdV [.val (.int (g : Int)), .val (.int x)] = .ok (.val (.int ((Nat.gcd g x.natAbs : Nat) : Int))) := (rfl)
theorem div_loop (a : Slot) : ∀ (row : List Int) (g : Nat) (t : Slot), ∃ t', runFor (asg 2) (setS 1 (callN gcdV (aCons (rd 1) (aCons (rd 2) aNil)))) ((zs row).map .val) [a, .val (.int (g : Int)), t] = .next [a, .val (.int (gfold g row : Int)), t']
  | [], g, t => ⟨t, rfl⟩
  | x :: row, g, t => by
    obtain ⟨t', ht⟩ := div_loop a row (Nat.gcd g x.natAbs) (.val (.int x))
    refine ⟨t', ?_⟩
    rw [zs_cons, List.map_cons, runFor_cons]
    simp only [asg_val, List.set_cons_succ, List.set_cons_zero, setS_ap, callN_ap, aCons_ap, aNil_ap, rd_ap, List.getElem?_cons_succ, List.getElem?_cons_zero, R.ok_bind, gcdV_nat]
    rw [ht, gfold_cons]
theorem v_divisor {r : Res} (row : List Int) (hr : r = .val (.lst (zs row)) ∨ r = .val (.tup (zs row))) (g : Nat) : f_divisor [r, .val (.int (g : Int))] = .ok (.val (.int (gfold g row : Int))) := by
  rcases hr with rfl | rfl
  · obtain ⟨t, ht⟩ := div_loop (.val (.lst (zs row))) row g .unset
    refine runFn_ret (show b_divisor [.val (.lst (zs row)), .val (.int (g : Int)), .unset] = _ from ?_)
    unfold b_divisor
    rw [seqS_next ((forS_ok (walkOf_lst (xs := zs row) (by rfl))).trans ht)]; rfl
  · obtain ⟨t, ht⟩ := div_loop (.val (.tup (zs row))) row g .unset
    refine runFn_ret (show b_divisor [.val (.tup (zs row)), .val (.int (g : Int)), .unset] = _ from ?_)
    unfold b_divisor
    rw [seqS_next ((forS_ok (walkOf_tup (xs := zs row) (by rfl))).trans ht)]; rfl
theorem intsOf_zn : ∀ (ss : List Nat), intsOf (zn ss) = some (ss.map fun (n : Nat) => (n : Int))
  | [] => rfl
  | s :: ss => by rw [zn_cons]; unfold intsOf; rw [intsOf_zn ss]; rfl
theorem fold_min : ∀ (ss : List Nat) (a : Int), 1 ≤ a → (∀ s ∈ ss, 1 ≤ s) → 1 ≤ (ss.map fun (n : Nat) => (n : Int)).foldl min a
  | [], a, h, _ => h
  | s :: ss, a, h, k => fold_min ss (min a (s : Int)) (by have := k s (by simp); omega) fun x hx => k x (by simp [hx])
theorem fold_max : ∀ (ss : List Nat) (a : Int), a ≤ 5 → (∀ s ∈ ss, s ≤ 5) → (ss.map fun (n : Nat) => (n : Int)).foldl max a ≤ 5
  | [], a, h, _ => h
  | s :: ss, a, h, k => fold_max ss (max a (s : Int)) (by have := k s (by simp); omega) fun x hx => k x (by simp [hx])
theorem v_check_sizes {r : Res} (ss : List Nat) (h : Sizes ss) (hr : r = .val (.lst (zn ss)) ∨ r = .val (.tup (zn ss))) : f_check_sizes [r] = .ok (.val (.tup (zn ss))) := by
  obtain ⟨s, rest, rfl⟩ : ∃ s rest, ss = s :: rest := by
    cases ss with
    | nil => exact absurd h.n1 (by decide)
    | cons s rest => exact ⟨_, _, rfl⟩
  have hlen : lenV [r] = .ok (.val (.int ((s :: rest).length : Int))) := by rcases hr with rfl | rfl <;> (simp only [lenV_lst, lenV_tup, zn_length])
  have hmin : minV [r] = .ok (.val (.int ((rest.map fun (n : Nat) => (n : Int)).foldl min (s : Int)))) := by
    have e : r.ints = some ((s : Int) :: rest.map fun (n : Nat) => (n : Int)) := by rcases hr with rfl | rfl <;> exact intsOf_zn (s :: rest)
    unfold minV; simp only [e]
  have hmax : maxV [r] = .ok (.val (.int ((rest.map fun (n : Nat) => (n : Int)).foldl max (s : Int)))) := by
    have e : r.ints = some ((s : Int) :: rest.map fun (n : Nat) => (n : Int)) := by rcases hr with rfl | rfl <;> exact intsOf_zn (s :: rest)
    unfold maxV; simp only [e]
  have hcnt := v_count_plays (s :: rest) hr (fun x hx => by have := (h.el x hx).2; omega)
  have q1 := fold_min rest (s : Int) (by have := (h.el s (by simp)).1; omega) (fun x hx => (h.el x (by simp [hx])).1)
  have q2 := fold_max rest (s : Int) (by have := (h.el s (by simp)).2; omega) (fun x hx => (h.el x (by simp [hx])).2)
  have q3 := h.pr
  have q4 := h.n4
  have hrd : rd 0 [slotOf r] = .ok r := by rcases hr with rfl | rfl <;> rfl
  have harg : argR r = r := by rcases hr with rfl | rfl <;> rfl
  refine runFn_ret (show b_check_sizes [slotOf r] = _ from ?_)
  unfold b_check_sizes
  have d0 : ¬ (((s :: rest).length : Int) = 0) := by rw [List.length_cons]; omega
  have d1 : ¬ ((rest.map fun (n : Nat) => (n : Int)).foldl min (s : Int) < 1) := by omega
  have d2 : ¬ (((s :: rest).length : Int) > 4) := by omega
  have d3 : ¬ ((rest.map fun (n : Nat) => (n : Int)).foldl max (s : Int) > 5) := by omega
  have d4 : ¬ ((Mz.pr (s :: rest) : Int) > 120) := by omega
  rw [seqS_next (ρ' := [slotOf r]) (by simp only [ifS_ap, orT_ap, boolOf_ap, bin2_ap, callN_ap, aCons_ap, aNil_ap, hrd, R.ok_bind, hlen, cst_ap, eqV_int, boolR_bl, decide_eq_false d0, Bool.false_eq_true, if_false, hmin, ltV_int, decide_eq_false d1, nilS_ap]),
    seqS_next (ρ' := [slotOf r]) (by simp only [ifS_ap, boolOf_ap, bin2_ap, callN_ap, aCons_ap, aNil_ap, hrd, R.ok_bind, hlen, cst_ap, gtV_int, boolR_bl, decide_eq_false d2, Bool.false_eq_true, if_false, nilS_ap]),
    seqS_next (ρ' := [slotOf r]) (by simp only [ifS_ap, boolOf_ap, bin2_ap, callN_ap, aCons_ap, aNil_ap, hrd, R.ok_bind, hmax, cst_ap, gtV_int, boolR_bl, decide_eq_false d3, Bool.false_eq_true, if_false, nilS_ap]),
    seqS_next (ρ' := [slotOf r]) (by simp only [ifS_ap, boolOf_ap, bin2_ap, callF_ap, aCons_ap, aNil_ap, hrd, R.ok_bind, List.map_cons, List.map_nil, List.append_nil, harg, hcnt, cst_ap, gtV_int, boolR_bl, decide_eq_false d4, Bool.false_eq_true, if_false, nilS_ap])]
  rw [retS_ap, callN_ap, aCons_ap, hrd, R.ok_bind, aNil_ap, R.ok_bind, R.ok_bind]
  rcases hr with rfl | rfl <;> rfl
end
end K88
namespace K88
open PySem PySem.Spec L2 Pv Mz
noncomputable section
theorem runLc_list {α : Type} {k : Nat} {g : VG} {te : VE} {ρ : Pv.Env} {fi : α → Res} {fo : α → PV} : ∀ (xs : List α), (∀ x ∈ xs, ∃ ρ1 y, g (fi x) ρ = .next ρ1 ∧ te ρ1 = .ok y ∧ stD k y = .ok (fo x)) → runLc k g yesT te (xs.map fi) ρ = .ok (xs.map fo)
  | [], _ => rfl
  | x :: xs, h => by
    obtain ⟨ρ1, y, h1, h2, h3⟩ := h x (by simp)
    have ih := runLc_list (k := k) (g := g) (te := te) (ρ := ρ) (fi := fi) (fo := fo) xs fun z hz => h z (by simp [hz])
    rw [List.map_cons, List.map_cons]
    unfold runLc
    simp only [h1, yesT_ap, R.ok_bind, if_true, h2, h3, ih]
theorem fldS_obj {i : Nat} {c fl : Str} {e : VE} {ρ : Pv.Env} {r : Res} {p : PV} {fs : List (Str × PV)} (he : e ρ = .ok r) (hs : ρ[i]? = some (.obj c fs)) (hp : stR r = .ok p) (hl : fs.length < 1000) : fldS i c fl e ρ = .next (ρ.set i (.obj c (putP fl p fs))) := by
  unfold fldS onE
  rw [he]
  simp only [hs, if_true]
  unfold setFld onE
  simp only [hp, hs, if_pos hl]
def rlst (rs : List (List Int)) : List PV := rs.map fun r => .lst (zs r)
def rtup (rs : List (List Int)) : List PV := rs.map fun r => .tup (zs r)
def quo (g : Nat) (r : List Int) : List Int := r.map fun x => x.fdiv (g : Int)
def gameF (ss : List Nat) (rs : List (List Int)) (o : Int) : List (Str × PV) := [("sizes", .tup (zn ss)), ("pays", .tup (rtup rs)), ("over", .int o)]
abbrev gi_body : VS := (seqS (frS 4 (ifS (boolOf (bin2 neV (callN lenV (aCons (rd 6) aNil)) (rd 4)))
    badS
    nilS))
    (frS 5 (setS 5 (callF f_divisor [] (aCons (rd 6) (aCons (rd 5) aNil))))))
theorem gi_loop (s0 s1 s2 s3 u : Slot) (n : Nat) : ∀ (rs : List (List Int)) (g : Nat) (t : Slot), (∀ r ∈ rs, r.length = n) → ∃ t', runFor (asg 6) gi_body ((rlst rs).map .val) [s0, s1, s2, s3, .val (.int (n : Int)), .val (.int (g : Int)), t, u] = .next [s0, s1, s2, s3, .val (.int (n : Int)), .val (.int (gfolds g rs : Int)), t', u]
  | [], g, t, _ => ⟨t, rfl⟩
  | r :: rs, g, t, h => by
    obtain ⟨t', ht⟩ := gi_loop s0 s1 s2 s3 u n rs (gfold g r) (.val (.lst (zs r))) fun x hx => h x (by simp [hx])
    refine ⟨t', ?_⟩
    have hr := h r (by simp)
    have e : gi_body [s0, s1, s2, s3, .val (.int (n : Int)), .val (.int (g : Int)), .val (.lst (zs r)), u] = .next [s0, s1, s2, s3, .val (.int (n : Int)), .val (.int (gfold g r : Int)), .val (.lst (zs r)), u] := by
      unfold gi_body
      rw [seqS_next (ρ' := [s0, s1, s2, s3, .val (.int (n : Int)), .val (.int (g : Int)), .val (.lst (zs r)), u]) (by
        rw [frS_ap, show frE 4 [s0, s1, s2, s3, Slot.val (.int (n : Int)), .val (.int (g : Int)), .val (.lst (zs r)), u] = [s0, s1, s2, s3, .val (.int (n : Int)), .val (.int (g : Int)), .val (.lst (zs r)), u] from rfl]
        simp only [ifS_ap, boolOf_ap, bin2_ap, callN_ap, aCons_ap, aNil_ap, rd_ap, List.getElem?_cons_succ, List.getElem?_cons_zero, R.ok_bind, lenV_lst, zs_length, hr, neV_int, boolR_bl, decide_true, Bool.not_true, Bool.false_eq_true, if_false, nilS_ap]),
        frS_ap, show frE 5 [s0, s1, s2, s3, Slot.val (.int (n : Int)), .val (.int (g : Int)), .val (.lst (zs r)), u] = [s0, s1, s2, s3, .val (.int (n : Int)), .val (.int (g : Int)), .val (.lst (zs r)), u] from rfl]
      simp only [setS_ap, callF_ap, aCons_ap, aNil_ap, rd_ap, List.getElem?_cons_succ, List.getElem?_cons_zero, R.ok_bind, List.map_cons, List.map_nil, List.append_nil, argR_val, v_divisor r (.inl rfl), asg_val, List.set_cons_succ, List.set_cons_zero]
    show runFor (asg 6) gi_body (.val (.lst (zs r)) :: (rlst rs).map .val) _ = _
    rw [runFor_cons]
    simp only [asg_val, List.set_cons_succ, List.set_cons_zero]
    rw [e]
    exact ht
theorem gi_pays (s0 s1 s3 s4 t6 u : Slot) (rs : List (List Int)) (g n : Nat) (hg : 0 < g ∧ g ≤ 1000) (hn : ∀ r ∈ rs, r.length ≤ 1000) (hr : rs.length ≤ 1000) :
    callN tupleV (aCons (lcV 0 (walkOf (rd 2)) (asg 6) yesT (callN tupleV (aCons (lcV 0 (walkOf (rd 6)) (asg 7) yesT (bin2 fdivV (rd 7) (rd 5)) [7]) aNil)) [6]) aNil) [s0, s1, .val (.lst (rlst rs)), s3, s4, .val (.int (g : Int)), t6, u] = .ok (.val (.tup (rtup (rs.map (quo g))))) := by
  have hin : ∀ r ∈ rs, callN tupleV (aCons (lcV 0 (walkOf (rd 6)) (asg 7) yesT (bin2 fdivV (rd 7) (rd 5)) [7]) aNil) [s0, s1, .val (.lst (rlst rs)), s3, s4, .val (.int (g : Int)), .val (.lst (zs r)), u] = .ok (.val (.tup (zs (quo g r)))) := fun r hr => by
    have := hn r hr
    rw [callN_ap, aCons_ap, lc_zs (row := r) (fun x => x.fdiv (g : Int)) (by rfl) (by omega) (fun x _ => by
      show bin2 fdivV (rd 7) (rd 5) [s0, s1, .val (.lst (rlst rs)), s3, s4, .val (.int (g : Int)), .val (.lst (zs r)), .val (.int x)] = _
      have h2 : (2 : Int) ^ 1000 > 1000 := by decide
      simp only [bin2_ap, rd_ap, List.getElem?_cons_succ, List.getElem?_cons_zero, R.ok_bind, fdivV_pos (x := x) (y := (g : Int)) (by omega)]), R.ok_bind]
    rfl
  have hout : lcV 0 (walkOf (rd 2)) (asg 6) yesT (callN tupleV (aCons (lcV 0 (walkOf (rd 6)) (asg 7) yesT (bin2 fdivV (rd 7) (rd 5)) [7]) aNil)) [6] [s0, s1, .val (.lst (rlst rs)), s3, s4, .val (.int (g : Int)), t6, u] = .ok (.new 0 (rs.map fun r => .tup (zs (quo g r)))) := by
    refine lcV_ok (walkOf_lst (xs := rlst rs) (by rfl)) ?_ (by rw [List.length_map]; omega)
    show runLc 0 (asg 6) yesT _ (List.map Res.val (List.map (fun r => PV.lst (zs r)) rs)) _ = _
    rw [List.map_map]
    exact runLc_list (fi := Res.val ∘ fun r => PV.lst (zs r)) (fo := fun r => .tup (zs (quo g r))) rs fun r hr => ⟨_, _, rfl, hin r hr, rfl⟩
  rw [callN_ap, aCons_ap, hout, R.ok_bind]
  show R.ok (Res.val (PV.tup (rs.map fun r => .tup (zs (quo g r))))) = _
  unfold rtup
  rw [List.map_map]; rfl
theorem v_Game_init (ss : List Nat) (rs : List (List Int)) (o : Nat) (h : Sizes ss) (hl : rs.length = ss.length) (hr : ∀ r ∈ rs, r.length = Mz.pr ss) (ho : 1 ≤ o ∧ o ≤ 1000) :
    f_Game_init [.val (.lst (zn ss)), .val (.lst (rlst rs)), .val (.int (o : Int))] = .ok (gameF ss (rs.map (quo (gfolds o rs))) ((o : Int).fdiv (gfolds o rs : Int))) := by
  have g1 := gfolds_pos rs o (by omega)
  have g2 := gfolds_le rs o (by omega)
  have hp := h.pr
  have hn4 := h.n4
  obtain ⟨t', ht⟩ := gi_loop (.obj "Game" [("sizes", .tup (zn ss))]) (.val (.lst (zn ss))) (.val (.lst (rlst rs))) (.val (.int (o : Int))) .unset (Mz.pr ss) rs o .unset hr
  have hcs := v_check_sizes ss h (.inl rfl)
  have hcp := v_count_plays (r := .val (.lst (zn ss))) ss (.inl rfl) (fun x hx => by have := (h.el x hx).2; omega)
  have d0 : ((rs.length : Int) = (ss.length : Int)) := by rw [hl]
  have d1 : ¬ ((o : Int) < 1) := by omega
  have h2 : (2 : Int) ^ 1000 > 1000 := by decide
  have b1 : b_Game_init [.obj "Game" [], .val (.lst (zn ss)), .val (.lst (rlst rs)), .val (.int (o : Int)), .unset, .unset, .unset, .unset] = .next [.obj "Game" (gameF ss (rs.map (quo (gfolds o rs))) ((o : Int).fdiv (gfolds o rs : Int))), .val (.lst (zn ss)), .val (.lst (rlst rs)), .val (.int (o : Int)), .val (.int (Mz.pr ss : Int)), .val (.int (gfolds o rs : Int)), t', .unset] := by
    unfold b_Game_init
    rw [seqS_next (fldS_obj (i := 0) (c := "Game") (fl := "sizes") (r := .val (.tup (zn ss))) (p := .tup (zn ss)) (fs := []) (by
        simp only [callF_ap, aCons_ap, aNil_ap, rd_ap, List.getElem?_cons_succ, List.getElem?_cons_zero, R.ok_bind, List.map_cons, List.map_nil, List.append_nil, argR_val, hcs]) (by rfl) (by rfl) (by decide))]
    show seqS _ _ [.obj "Game" [("sizes", .tup (zn ss))], .val (.lst (zn ss)), .val (.lst (rlst rs)), .val (.int (o : Int)), .unset, .unset, .unset, .unset] = _
    rw [seqS_next (ρ' := [.obj "Game" [("sizes", .tup (zn ss))], .val (.lst (zn ss)), .val (.lst (rlst rs)), .val (.int (o : Int)), .unset, .unset, .unset, .unset]) (by
        have e : (rlst rs).length = rs.length := by unfold rlst; rw [List.length_map]
        simp only [ifS_ap, orT_ap, boolOf_ap, bin2_ap, callN_ap, aCons_ap, aNil_ap, rd_ap, cst_ap, List.getElem?_cons_succ, List.getElem?_cons_zero, R.ok_bind, lenV_lst, zn_length, e, neV_int, boolR_bl, decide_eq_true d0, Bool.not_true, Bool.false_eq_true, if_false, ltV_int, decide_eq_false d1, nilS_ap]),
      seqS_next (ρ' := [.obj "Game" [("sizes", .tup (zn ss))], .val (.lst (zn ss)), .val (.lst (rlst rs)), .val (.int (o : Int)), .val (.int (Mz.pr ss : Int)), .unset, .unset, .unset]) (by
        simp only [setS_ap, callF_ap, aCons_ap, aNil_ap, rd_ap, List.getElem?_cons_succ, List.getElem?_cons_zero, R.ok_bind, List.map_cons, List.map_nil, List.append_nil, argR_val, hcp, asg_val, List.set_cons_succ, List.set_cons_zero]),
      seqS_next (ρ' := [.obj "Game" [("sizes", .tup (zn ss))], .val (.lst (zn ss)), .val (.lst (rlst rs)), .val (.int (o : Int)), .val (.int (Mz.pr ss : Int)), .val (.int (o : Int)), .unset, .unset]) (by rfl),
      seqS_next ((forS_ok (walkOf_lst (xs := rlst rs) (by rfl))).trans ht)]
    rw [seqS_next (f := frS 5 _) (ρ' := [.obj "Game" [("sizes", .tup (zn ss)), ("pays", .tup (rtup (rs.map (quo (gfolds o rs)))))], .val (.lst (zn ss)), .val (.lst (rlst rs)), .val (.int (o : Int)), .val (.int (Mz.pr ss : Int)), .val (.int (gfolds o rs : Int)), t', .unset]) (by
        rw [frS_ap, show frE 5 [Slot.obj "Game" [("sizes", .tup (zn ss))], .val (.lst (zn ss)), .val (.lst (rlst rs)), .val (.int (o : Int)), .val (.int (Mz.pr ss : Int)), .val (.int (gfolds o rs : Int)), t', .unset] = [.obj "Game" [("sizes", .tup (zn ss))], .val (.lst (zn ss)), .val (.lst (rlst rs)), .val (.int (o : Int)), .val (.int (Mz.pr ss : Int)), .val (.int (gfolds o rs : Int)), t', .unset] from rfl]
        rw [fldS_obj (r := .val (.tup (rtup (rs.map (quo (gfolds o rs)))))) (p := .tup (rtup (rs.map (quo (gfolds o rs))))) (fs := [("sizes", .tup (zn ss))]) (gi_pays _ _ _ _ _ _ rs (gfolds o rs) 0 (by omega) (fun r hh => by rw [hr r hh]; omega) (by omega)) (by rfl) (by rfl) (by show 1 < 1000; decide)]
        rfl)]
    rw [frS_ap, show frE 5 [Slot.obj "Game" [("sizes", .tup (zn ss)), ("pays", .tup (rtup (rs.map (quo (gfolds o rs)))))], .val (.lst (zn ss)), .val (.lst (rlst rs)), .val (.int (o : Int)), .val (.int (Mz.pr ss : Int)), .val (.int (gfolds o rs : Int)), t', .unset] = [.obj "Game" [("sizes", .tup (zn ss)), ("pays", .tup (rtup (rs.map (quo (gfolds o rs)))))], .val (.lst (zn ss)), .val (.lst (rlst rs)), .val (.int (o : Int)), .val (.int (Mz.pr ss : Int)), .val (.int (gfolds o rs : Int)), t', .unset] from rfl]
    rw [fldS_obj (r := .val (.int ((o : Int).fdiv (gfolds o rs : Int)))) (p := .int ((o : Int).fdiv (gfolds o rs : Int))) (fs := [("sizes", .tup (zn ss)), ("pays", .tup (rtup (rs.map (quo (gfolds o rs)))))]) (by
      simp only [bin2_ap, rd_ap, List.getElem?_cons_succ, List.getElem?_cons_zero, R.ok_bind, fdivV_pos (x := (o : Int)) (y := (gfolds o rs : Int)) (by omega)]) (by rfl) (by rfl) (by show 2 < 1000; decide)]
    rfl
  exact runInit_next (f := b_Game_init) b1 (by rfl)
end
end K88
namespace K88
open PySem PySem.Spec L2 Pv Mz
noncomputable section
def okB : List Nat → List Int → Bool
  | [], [] => true
  | s :: ss, c :: cs => decide (0 ≤ c) && (decide (c < (s : Int)) && okB ss cs)
  | _, _ => false
def nI (cs : List Nat) : List Int := cs.map fun (n : Nat) => (n : Int)
theorem zs_nI (cs : List Nat) : zs (nI cs) = zn cs := by unfold zs nI zn; rw [List.map_map]; rfl
theorem okB_ok : ∀ {ss cs : List Nat}, Ok ss cs → okB ss (nI cs) = true
  | [], _, h => by rw [show _ = [] from h]; rfl
  | s :: ss, _, ⟨c, r, e, h1, h2⟩ => by
    subst e
    show (decide (0 ≤ (c : Int)) && (decide ((c : Int) < (s : Int)) && okB ss (nI r))) = true
    rw [okB_ok h2, decide_eq_true (by omega), decide_eq_true (by omega)]; rfl
theorem okB_length : ∀ {ss : List Nat} {ps : List Int}, ps.length ≠ ss.length → okB ss ps = false
  | [], [], h => absurd rfl h
  | [], _ :: _, _ => rfl
  | _ :: _, [], _ => rfl
  | s :: ss, c :: cs, h => by
    show (decide (0 ≤ c) && (decide (c < (s : Int)) && okB ss cs)) = false
    rw [okB_length (by simpa using h), Bool.and_false, Bool.and_false]
theorem gtup2 {i j : Nat} {p q : PV} {ρ : Pv.Env} : gtup 2 (gcons (asg i) (gcons (asg j) gnil)) (.val (.tup [p, q])) ρ = .next ((ρ.set i (.val p)).set j (.val q)) := (rfl)
theorem zipI_cons {x y : PV} {xs ys : List PV} : zipI (x :: xs) (y :: ys) = .val (.tup [x, y]) :: zipI xs ys := (rfl)
theorem zipI_nil {ys : List PV} : zipI [] ys = [] := (rfl)
abbrev ip_body : VS := (ifS (notT (boolOf (chn leV ltV (cst (.int 0)) (rd 2) (rd 3)))) (retS (cst (.bl false))) nilS)
theorem ip_step (a b : Slot) (c : Int) (s : Nat) : ip_body [a, b, .val (.int c), .val (.int (s : Int))] = (if (decide (0 ≤ c) && decide (c < (s : Int))) = true then .next [a, b, .val (.int c), .val (.int (s : Int))] else .ret (.val (.bl false))) := by
  unfold ip_body
  simp only [seqS_ap, nilS_ap, brkS_ap, contS_ap, badS_ap, raiseS_ap, frS_ap, setS_ap, dropS_ap, retS_ap, ifS_ap, asg_val, asg_new, asg_bor, retR_val, retR_new, rd_ap, retOwn_ap, cst_ap, bin2_ap, un1_ap, callN_ap, callF_ap, fldE_ap, aNil_ap, aCons_ap, tupD_ap, lstD_ap, nilD_ap, walkOf_ap, walkR1_ap, walkR2_ap, walkZ_ap, walkE_ap, walkV_ap, tupRevV_ap, andT_ap, orT_ap, notT_ap, boolOf_ap, boolR_bl, andV_ap, orV_ap, notE_ap, ifV_ap, chn_ap, noB_ap, intB_ap, sl3_ap, forS_ap, lcV_ap, yesT_ap, stD_val, stD_new0, stAll_nil, stAll_cons, stR_val, stR_new, argR_val, argR_new, argR_bor, argR_lend, addV_int, subV_int, negV_int, ltV_int, leV_int, gtV_int, geV_int, eqV_int, neV_int, eqV_str, neV_str, intV_int, absV_int, max2_int, min2_int, lenV_tup, lenV_lst, lenV_scr, lenV_lend, R.ok_bind, slotOf, List.map_cons, List.map_nil, List.length_cons, List.length_nil, List.cons_append, List.nil_append, List.append_nil, List.replicate, List.getElem?_cons_succ, List.getElem?_cons_zero, Res.items, List.set_cons_succ, List.set_cons_zero, Nat.reduceAdd, Nat.reduceSub, Res.pv]
  cases decide (0 ≤ c) with
  | false => rfl
  | true =>
    simp only [if_true, boolR_bl, R.ok_bind, Bool.true_and]
    cases decide (c < (s : Int)) <;> rfl
theorem ip_loop (a b : Slot) : ∀ (ss : List Nat) (ps : List Int) (t2 t3 : Slot), ps.length = ss.length → (okB ss ps = true → ∃ t2' t3', runFor (gtup 2 (gcons (asg 2) (gcons (asg 3) gnil))) ip_body (zipI (zs ps) (zn ss)) [a, b, t2, t3] = .next [a, b, t2', t3']) ∧
    (okB ss ps = false → runFor (gtup 2 (gcons (asg 2) (gcons (asg 3) gnil))) ip_body (zipI (zs ps) (zn ss)) [a, b, t2, t3] = .ret (.val (.bl false)))
  | [], [], t2, t3, _ => ⟨fun _ => ⟨t2, t3, rfl⟩, fun h => by cases h⟩
  | [], _ :: _, _, _, h => by cases h
  | _ :: _, [], _, _, h => by cases h
  | s :: ss, c :: ps, t2, t3, h => by
    obtain ⟨i1, i2⟩ := ip_loop a b ss ps (.val (.int c)) (.val (.int (s : Int))) (by simpa using h)
    have e1 := ip_step a b c s
    have hb : okB (s :: ss) (c :: ps) = ((decide (0 ≤ c) && decide (c < (s : Int))) && okB ss ps) := by rw [Bool.and_assoc]; rfl
    rw [hb, zs_cons, zn_cons, zipI_cons, runFor_cons, gtup2]
    simp only [List.set_cons_succ, List.set_cons_zero]
    cases hc : (decide (0 ≤ c) && decide (c < (s : Int))) with
    | false =>
      rw [hc, if_neg Bool.false_ne_true] at e1
      rw [e1]
      exact ⟨(fun z => by cases z), fun _ => rfl⟩
    | true =>
      rw [hc, if_pos rfl] at e1
      rw [e1]
      simp only [Bool.true_and]
      exact ⟨i1, i2⟩
theorem v_is_play (ss : List Nat) (ps : List Int) : f_is_play [.val (.tup (zn ss)), .val (.tup (zs ps))] = .ok (.val (.bl (okB ss ps))) := by
  refine runFn_ret (show b_is_play [.val (.tup (zn ss)), .val (.tup (zs ps)), .unset, .unset] = _ from ?_)
  unfold b_is_play
  by_cases hl : ps.length = ss.length
  · have d : ((ps.length : Int) = (ss.length : Int)) := by rw [hl]
    rw [seqS_next (ρ' := [.val (.tup (zn ss)), .val (.tup (zs ps)), .unset, .unset]) (by simp only [seqS_ap, nilS_ap, brkS_ap, contS_ap, badS_ap, raiseS_ap, frS_ap, setS_ap, dropS_ap, retS_ap, ifS_ap, asg_val, asg_new, asg_bor, retR_val, retR_new, rd_ap, retOwn_ap, cst_ap, bin2_ap, un1_ap, callN_ap, callF_ap, fldE_ap, aNil_ap, aCons_ap, tupD_ap, lstD_ap, nilD_ap, walkOf_ap, walkR1_ap, walkR2_ap, walkZ_ap, walkE_ap, walkV_ap, tupRevV_ap, andT_ap, orT_ap, notT_ap, boolOf_ap, boolR_bl, andV_ap, orV_ap, notE_ap, ifV_ap, chn_ap, noB_ap, intB_ap, sl3_ap, forS_ap, lcV_ap, yesT_ap, stD_val, stD_new0, stAll_nil, stAll_cons, stR_val, stR_new, argR_val, argR_new, argR_bor, argR_lend, addV_int, subV_int, negV_int, ltV_int, leV_int, gtV_int, geV_int, eqV_int, neV_int, eqV_str, neV_str, intV_int, absV_int, max2_int, min2_int, lenV_tup, lenV_lst, lenV_scr, lenV_lend, R.ok_bind, slotOf, List.map_cons, List.map_nil, List.length_cons, List.length_nil, List.cons_append, List.nil_append, List.append_nil, List.replicate, List.getElem?_cons_succ, List.getElem?_cons_zero, Res.items, List.set_cons_succ, List.set_cons_zero, Nat.reduceAdd, Nat.reduceSub, Res.pv, zs_length, zn_length, decide_eq_true d, Bool.not_true, Bool.false_eq_true, if_false])]
    have hw : walkZ (aCons (rd 1) (aCons (rd 0) aNil)) [.val (.tup (zn ss)), .val (.tup (zs ps)), .unset, .unset] = .ok (zipI (zs ps) (zn ss)) := rfl
    obtain ⟨i1, i2⟩ := ip_loop (.val (.tup (zn ss))) (.val (.tup (zs ps))) ss ps .unset .unset hl
    cases hb : okB ss ps with
    | true =>
      obtain ⟨t2, t3, e⟩ := i1 hb
      rw [seqS_next ((forS_ok hw).trans e)]; rfl
    | false => rw [seqS_ret ((forS_ok hw).trans (i2 hb))]
  · have d : ¬ ((ps.length : Int) = (ss.length : Int)) := by omega
    rw [okB_length hl]
    refine seqS_ret ?_
    simp only [seqS_ap, nilS_ap, brkS_ap, contS_ap, badS_ap, raiseS_ap, frS_ap, setS_ap, dropS_ap, retS_ap, ifS_ap, asg_val, asg_new, asg_bor, retR_val, retR_new, rd_ap, retOwn_ap, cst_ap, bin2_ap, un1_ap, callN_ap, callF_ap, fldE_ap, aNil_ap, aCons_ap, tupD_ap, lstD_ap, nilD_ap, walkOf_ap, walkR1_ap, walkR2_ap, walkZ_ap, walkE_ap, walkV_ap, tupRevV_ap, andT_ap, orT_ap, notT_ap, boolOf_ap, boolR_bl, andV_ap, orV_ap, notE_ap, ifV_ap, chn_ap, noB_ap, intB_ap, sl3_ap, forS_ap, lcV_ap, yesT_ap, stD_val, stD_new0, stAll_nil, stAll_cons, stR_val, stR_new, argR_val, argR_new, argR_bor, argR_lend, addV_int, subV_int, negV_int, ltV_int, leV_int, gtV_int, geV_int, eqV_int, neV_int, eqV_str, neV_str, intV_int, absV_int, max2_int, min2_int, lenV_tup, lenV_lst, lenV_scr, lenV_lend, R.ok_bind, slotOf, List.map_cons, List.map_nil, List.length_cons, List.length_nil, List.cons_append, List.nil_append, List.append_nil, List.replicate, List.getElem?_cons_succ, List.getElem?_cons_zero, Res.items, List.set_cons_succ, List.set_cons_zero, Nat.reduceAdd, Nat.reduceSub, Res.pv, zs_length, zn_length, decide_eq_false d, Bool.not_false, if_true]
abbrev plc_body : VS := setS 2 (bin2 addV (bin2 mulV (rd 2) (rd 4)) (rd 3))
theorem place_loop (a b : Slot) : ∀ (ss cs : List Nat) (n : Nat) (t3 t4 : Slot), Ok ss cs → (∀ s ∈ ss, s ≤ 1000) → ∃ t3' t4', runFor (gtup 2 (gcons (asg 3) (gcons (asg 4) gnil))) plc_body (zipI (zn cs) (zn ss)) [a, b, .val (.int (n : Int)), t3, t4] = .next [a, b, .val (.int (hor n ss cs : Int)), t3', t4']
  | [], _, n, t3, t4, h, _ => by rw [show _ = [] from h]; exact ⟨t3, t4, rfl⟩
  | s :: ss, _, n, t3, t4, ⟨c, r, e, h1, h2⟩, hs => by
    subst e
    obtain ⟨u3, u4, hr⟩ := place_loop a b ss r (n * s + c) (.val (.int (c : Int))) (.val (.int (s : Int))) h2 fun x hx => hs x (by simp [hx])
    refine ⟨u3, u4, ?_⟩
    rw [zn_cons, zn_cons, zipI_cons, runFor_cons, gtup2]
    have := hs s (by simp)
    have e : plc_body [a, b, .val (.int (n : Int)), .val (.int (c : Int)), .val (.int (s : Int))] = .next [a, b, .val (.int ((n * s + c : Nat) : Int)), .val (.int (c : Int)), .val (.int (s : Int))] := by
      unfold plc_body
      simp only [seqS_ap, nilS_ap, brkS_ap, contS_ap, badS_ap, raiseS_ap, frS_ap, setS_ap, dropS_ap, retS_ap, ifS_ap, asg_val, asg_new, asg_bor, retR_val, retR_new, rd_ap, retOwn_ap, cst_ap, bin2_ap, un1_ap, callN_ap, callF_ap, fldE_ap, aNil_ap, aCons_ap, tupD_ap, lstD_ap, nilD_ap, walkOf_ap, walkR1_ap, walkR2_ap, walkZ_ap, walkE_ap, walkV_ap, tupRevV_ap, andT_ap, orT_ap, notT_ap, boolOf_ap, boolR_bl, andV_ap, orV_ap, notE_ap, ifV_ap, chn_ap, noB_ap, intB_ap, sl3_ap, forS_ap, lcV_ap, yesT_ap, stD_val, stD_new0, stAll_nil, stAll_cons, stR_val, stR_new, argR_val, argR_new, argR_bor, argR_lend, addV_int, subV_int, negV_int, ltV_int, leV_int, gtV_int, geV_int, eqV_int, neV_int, eqV_str, neV_str, intV_int, absV_int, max2_int, min2_int, lenV_tup, lenV_lst, lenV_scr, lenV_lend, R.ok_bind, slotOf, List.map_cons, List.map_nil, List.length_cons, List.length_nil, List.cons_append, List.nil_append, List.append_nil, List.replicate, List.getElem?_cons_succ, List.getElem?_cons_zero, Res.items, List.set_cons_succ, List.set_cons_zero, Nat.reduceAdd, Nat.reduceSub, Res.pv, mulV_big (x := (n : Int)) (y := (s : Int)) (by omega), Int.natCast_add, Int.natCast_mul]
    simp only [List.set_cons_succ, List.set_cons_zero]
    rw [e]
    exact hr
theorem v_place (ss cs : List Nat) (h : Ok ss cs) (hs : ∀ s ∈ ss, s ≤ 1000) : f_place [.val (.tup (zn ss)), .val (.tup (zn cs))] = .ok (.val (.int (plc ss cs : Int))) := by
  have hp := v_is_play ss (nI cs)
  rw [okB_ok h, zs_nI] at hp
  obtain ⟨t3, t4, e⟩ := place_loop (.val (.tup (zn ss))) (.val (.tup (zn cs))) ss cs 0 .unset .unset h hs
  have hh := hor_eq (ss := ss) (cs := cs) 0 h
  rw [Nat.zero_mul, Nat.zero_add] at hh
  rw [hh] at e
  refine runFn_ret (show b_place [.val (.tup (zn ss)), .val (.tup (zn cs)), .unset, .unset, .unset] = _ from ?_)
  unfold b_place
  rw [seqS_next (ρ' := [.val (.tup (zn ss)), .val (.tup (zn cs)), .unset, .unset, .unset]) (by simp only [seqS_ap, nilS_ap, brkS_ap, contS_ap, badS_ap, raiseS_ap, frS_ap, setS_ap, dropS_ap, retS_ap, ifS_ap, asg_val, asg_new, asg_bor, retR_val, retR_new, rd_ap, retOwn_ap, cst_ap, bin2_ap, un1_ap, callN_ap, callF_ap, fldE_ap, aNil_ap, aCons_ap, tupD_ap, lstD_ap, nilD_ap, walkOf_ap, walkR1_ap, walkR2_ap, walkZ_ap, walkE_ap, walkV_ap, tupRevV_ap, andT_ap, orT_ap, notT_ap, boolOf_ap, boolR_bl, andV_ap, orV_ap, notE_ap, ifV_ap, chn_ap, noB_ap, intB_ap, sl3_ap, forS_ap, lcV_ap, yesT_ap, stD_val, stD_new0, stAll_nil, stAll_cons, stR_val, stR_new, argR_val, argR_new, argR_bor, argR_lend, addV_int, subV_int, negV_int, ltV_int, leV_int, gtV_int, geV_int, eqV_int, neV_int, eqV_str, neV_str, intV_int, absV_int, max2_int, min2_int, lenV_tup, lenV_lst, lenV_scr, lenV_lend, R.ok_bind, slotOf, List.map_cons, List.map_nil, List.length_cons, List.length_nil, List.cons_append, List.nil_append, List.append_nil, List.replicate, List.getElem?_cons_succ, List.getElem?_cons_zero, Res.items, List.set_cons_succ, List.set_cons_zero, Nat.reduceAdd, Nat.reduceSub, Res.pv, hp, Bool.not_true, Bool.false_eq_true, if_false]),
    seqS_next (ρ' := [.val (.tup (zn ss)), .val (.tup (zn cs)), .val (.int ((0 : Nat) : Int)), .unset, .unset]) (by rfl),
    seqS_next ((forS_ok (show walkZ (aCons (rd 1) (aCons (rd 0) aNil)) [.val (.tup (zn ss)), .val (.tup (zn cs)), .val (.int ((0 : Nat) : Int)), .unset, .unset] = .ok (zipI (zn cs) (zn ss)) from rfl)).trans e)]
  rfl
def badX : XV := ⟨"BadPlay", []⟩
theorem v_place_bad (ss : List Nat) (ps : List Int) (h : okB ss ps = false) : f_place [.val (.tup (zn ss)), .val (.tup (zs ps))] = .exc badX := by
  have hp := v_is_play ss ps
  rw [h] at hp
  refine runFn_exc (show b_place [.val (.tup (zn ss)), .val (.tup (zs ps)), .unset, .unset, .unset] = .exc badX [.val (.tup (zn ss)), .val (.tup (zs ps)), .unset, .unset, .unset] from ?_)
  unfold b_place
  rw [seqS_ap, show ifS (notT (boolOf (callF f_is_play [] (aCons (rd 0) (aCons (rd 1) aNil))))) (raiseS "BadPlay") nilS [.val (.tup (zn ss)), .val (.tup (zs ps)), .unset, .unset, .unset] = .exc badX [.val (.tup (zn ss)), .val (.tup (zs ps)), .unset, .unset, .unset] by simp only [seqS_ap, nilS_ap, brkS_ap, contS_ap, badS_ap, raiseS_ap, frS_ap, setS_ap, dropS_ap, retS_ap, ifS_ap, asg_val, asg_new, asg_bor, retR_val, retR_new, rd_ap, retOwn_ap, cst_ap, bin2_ap, un1_ap, callN_ap, callF_ap, fldE_ap, aNil_ap, aCons_ap, tupD_ap, lstD_ap, nilD_ap, walkOf_ap, walkR1_ap, walkR2_ap, walkZ_ap, walkE_ap, walkV_ap, tupRevV_ap, andT_ap, orT_ap, notT_ap, boolOf_ap, boolR_bl, andV_ap, orV_ap, notE_ap, ifV_ap, chn_ap, noB_ap, intB_ap, sl3_ap, forS_ap, lcV_ap, yesT_ap, stD_val, stD_new0, stAll_nil, stAll_cons, stR_val, stR_new, argR_val, argR_new, argR_bor, argR_lend, addV_int, subV_int, negV_int, ltV_int, leV_int, gtV_int, geV_int, eqV_int, neV_int, eqV_str, neV_str, intV_int, absV_int, max2_int, min2_int, lenV_tup, lenV_lst, lenV_scr, lenV_lend, R.ok_bind, slotOf, List.map_cons, List.map_nil, List.length_cons, List.length_nil, List.cons_append, List.nil_append, List.append_nil, List.replicate, List.getElem?_cons_succ, List.getElem?_cons_zero, Res.items, List.set_cons_succ, List.set_cons_zero, Nat.reduceAdd, Nat.reduceSub, Res.pv, hp, Bool.not_false, if_true]; rfl]
def chB (ss : List Nat) (p c : Int) : Bool := decide (0 ≤ p) && (decide (p < (ss.length : Int)) && (decide (0 ≤ c) && decide (c < ((ss.getD p.toNat 0 : Nat) : Int))))
theorem v_is_change (ss : List Nat) (p c : Int) : f_is_change [.val (.tup (zn ss)), .val (.int p), .val (.int c)] = .ok (.val (.bl (chB ss p c))) := by
  refine runFn_ret (show b_is_change [.val (.tup (zn ss)), .val (.int p), .val (.int c)] = _ from ?_)
  unfold b_is_change chB
  by_cases h0 : 0 ≤ p
  · by_cases h1 : p < (ss.length : Int)
    · obtain ⟨n, rfl⟩ := nat_of h0
      have hn : n < ss.length := by omega
      have ha : atI (zn ss) (n : Int) = some (.int ((ss.getD n 0 : Nat) : Int)) := at_zn (by rw [List.getD_eq_getElem?_getD, List.getElem?_eq_getElem hn]; rfl)
      simp only [seqS_ap, nilS_ap, brkS_ap, contS_ap, badS_ap, raiseS_ap, frS_ap, setS_ap, dropS_ap, retS_ap, ifS_ap, asg_val, asg_new, asg_bor, retR_val, retR_new, rd_ap, retOwn_ap, cst_ap, bin2_ap, un1_ap, callN_ap, callF_ap, fldE_ap, aNil_ap, aCons_ap, tupD_ap, lstD_ap, nilD_ap, walkOf_ap, walkR1_ap, walkR2_ap, walkZ_ap, walkE_ap, walkV_ap, tupRevV_ap, andT_ap, orT_ap, notT_ap, boolOf_ap, boolR_bl, andV_ap, orV_ap, notE_ap, ifV_ap, chn_ap, noB_ap, intB_ap, sl3_ap, forS_ap, lcV_ap, yesT_ap, stD_val, stD_new0, stAll_nil, stAll_cons, stR_val, stR_new, argR_val, argR_new, argR_bor, argR_lend, addV_int, subV_int, negV_int, ltV_int, leV_int, gtV_int, geV_int, eqV_int, neV_int, eqV_str, neV_str, intV_int, absV_int, max2_int, min2_int, lenV_tup, lenV_lst, lenV_scr, lenV_lend, R.ok_bind, slotOf, List.map_cons, List.map_nil, List.length_cons, List.length_nil, List.cons_append, List.nil_append, List.append_nil, List.replicate, List.getElem?_cons_succ, List.getElem?_cons_zero, Res.items, List.set_cons_succ, List.set_cons_zero, Nat.reduceAdd, Nat.reduceSub, Res.pv, decide_eq_true h0, if_true, zn_length, decide_eq_true h1, Bool.true_and, ixV_tup, ha, Int.toNat_natCast]
      cases decide (0 ≤ c) <;> simp only [Bool.false_eq_true, if_true, if_false, Bool.true_and, Bool.false_and, retR_val]
    · simp only [seqS_ap, nilS_ap, brkS_ap, contS_ap, badS_ap, raiseS_ap, frS_ap, setS_ap, dropS_ap, retS_ap, ifS_ap, asg_val, asg_new, asg_bor, retR_val, retR_new, rd_ap, retOwn_ap, cst_ap, bin2_ap, un1_ap, callN_ap, callF_ap, fldE_ap, aNil_ap, aCons_ap, tupD_ap, lstD_ap, nilD_ap, walkOf_ap, walkR1_ap, walkR2_ap, walkZ_ap, walkE_ap, walkV_ap, tupRevV_ap, andT_ap, orT_ap, notT_ap, boolOf_ap, boolR_bl, andV_ap, orV_ap, notE_ap, ifV_ap, chn_ap, noB_ap, intB_ap, sl3_ap, forS_ap, lcV_ap, yesT_ap, stD_val, stD_new0, stAll_nil, stAll_cons, stR_val, stR_new, argR_val, argR_new, argR_bor, argR_lend, addV_int, subV_int, negV_int, ltV_int, leV_int, gtV_int, geV_int, eqV_int, neV_int, eqV_str, neV_str, intV_int, absV_int, max2_int, min2_int, lenV_tup, lenV_lst, lenV_scr, lenV_lend, R.ok_bind, slotOf, List.map_cons, List.map_nil, List.length_cons, List.length_nil, List.cons_append, List.nil_append, List.append_nil, List.replicate, List.getElem?_cons_succ, List.getElem?_cons_zero, Res.items, List.set_cons_succ, List.set_cons_zero, Nat.reduceAdd, Nat.reduceSub, Res.pv, decide_eq_true h0, if_true, zn_length, decide_eq_false h1, Bool.false_eq_true, if_false, Bool.true_and, Bool.false_and]
  · simp only [seqS_ap, nilS_ap, brkS_ap, contS_ap, badS_ap, raiseS_ap, frS_ap, setS_ap, dropS_ap, retS_ap, ifS_ap, asg_val, asg_new, asg_bor, retR_val, retR_new, rd_ap, retOwn_ap, cst_ap, bin2_ap, un1_ap, callN_ap, callF_ap, fldE_ap, aNil_ap, aCons_ap, tupD_ap, lstD_ap, nilD_ap, walkOf_ap, walkR1_ap, walkR2_ap, walkZ_ap, walkE_ap, walkV_ap, tupRevV_ap, andT_ap, orT_ap, notT_ap, boolOf_ap, boolR_bl, andV_ap, orV_ap, notE_ap, ifV_ap, chn_ap, noB_ap, intB_ap, sl3_ap, forS_ap, lcV_ap, yesT_ap, stD_val, stD_new0, stAll_nil, stAll_cons, stR_val, stR_new, argR_val, argR_new, argR_bor, argR_lend, addV_int, subV_int, negV_int, ltV_int, leV_int, gtV_int, geV_int, eqV_int, neV_int, eqV_str, neV_str, intV_int, absV_int, max2_int, min2_int, lenV_tup, lenV_lst, lenV_scr, lenV_lend, R.ok_bind, slotOf, List.map_cons, List.map_nil, List.length_cons, List.length_nil, List.cons_append, List.nil_append, List.append_nil, List.replicate, List.getElem?_cons_succ, List.getElem?_cons_zero, Res.items, List.set_cons_succ, List.set_cons_zero, Nat.reduceAdd, Nat.reduceSub, Res.pv, decide_eq_false h0, Bool.false_eq_true, if_false, Bool.false_and]
def stepsR : Nat → List Nat → List Nat
  | _, [] => []
  | k, s :: r => k :: stepsR (k * s) r
theorem stepsR_snoc : ∀ (xs : List Nat) (k s : Nat), stepsR k (xs ++ [s]) = stepsR k xs ++ [k * pr xs]
  | [], k, s => by show [k] = [k * 1]; rw [Nat.mul_one]
  | x :: xs, k, s => by
    show k :: stepsR (k * x) (xs ++ [s]) = (k :: stepsR (k * x) xs) ++ [k * (x * pr xs)]
    rw [stepsR_snoc xs, Nat.mul_assoc]; rfl
theorem pr_rev : ∀ (xs : List Nat), pr xs.reverse = pr xs
  | [] => rfl
  | x :: xs => by rw [List.reverse_cons, pr_snoc, pr_rev xs, Nat.mul_comm]; rfl
theorem stepsR_strd : ∀ (ss : List Nat), (stepsR 1 ss.reverse).reverse = strd ss
  | [] => rfl
  | s :: ss => by
    rw [List.reverse_cons, stepsR_snoc, List.reverse_append, Nat.one_mul, pr_rev, stepsR_strd ss]; rfl
abbrev st_body : VS := (seqS (apS 1 (pthN 1) (rd 2)) (setS 2 (bin2 mulV (rd 2) (rd 3))))
theorem st_loop (a : Slot) : ∀ (xs acc : List Nat) (k : Nat) (t : Slot), (∀ x ∈ xs, x ≤ 1000) → acc.length + xs.length ≤ 1000 → ∃ k' t', runFor (asg 3) st_body ((zn xs).map .val) [a, .own 0 (zn acc), .val (.int (k : Int)), t] = .next [a, .own 0 (zn (acc ++ stepsR k xs)), k', t']
  | [], acc, k, t, _, _ => ⟨_, t, by rw [show stepsR k [] = [] from rfl, List.append_nil]; rfl⟩
  | x :: xs, acc, k, t, h, hl => by
    rw [List.length_cons] at hl
    obtain ⟨k', t', e⟩ := st_loop a xs (acc ++ [k]) (k * x) (.val (.int (x : Int))) (fun y hy => h y (by simp [hy])) (by rw [List.length_append, List.length_singleton]; omega)
    refine ⟨k', t', ?_⟩
    have hx := h x (by simp)
    have e1 : st_body [a, .own 0 (zn acc), .val (.int (k : Int)), .val (.int (x : Int))] = .next [a, .own 0 (zn (acc ++ [k])), .val (.int ((k * x : Nat) : Int)), .val (.int (x : Int))] := by
      unfold st_body
      rw [seqS_next (apS_own (n := 0) (xs := zn acc) (r := .val (.int (k : Int))) (p := .int (k : Int)) (by rfl) (by rfl) (by rfl) (by rw [zn_length]; exact line_lt (by omega))), zn_snoc]
      simp only [seqS_ap, nilS_ap, brkS_ap, contS_ap, badS_ap, raiseS_ap, frS_ap, setS_ap, dropS_ap, retS_ap, ifS_ap, asg_val, asg_new, asg_bor, retR_val, retR_new, rd_ap, retOwn_ap, cst_ap, bin2_ap, un1_ap, callN_ap, callF_ap, fldE_ap, aNil_ap, aCons_ap, tupD_ap, lstD_ap, nilD_ap, walkOf_ap, walkR1_ap, walkR2_ap, walkZ_ap, walkE_ap, walkV_ap, tupRevV_ap, andT_ap, orT_ap, notT_ap, boolOf_ap, boolR_bl, andV_ap, orV_ap, notE_ap, ifV_ap, chn_ap, noB_ap, intB_ap, sl3_ap, forS_ap, lcV_ap, yesT_ap, stD_val, stD_new0, stAll_nil, stAll_cons, stR_val, stR_new, argR_val, argR_new, argR_bor, argR_lend, addV_int, subV_int, negV_int, ltV_int, leV_int, gtV_int, geV_int, eqV_int, neV_int, eqV_str, neV_str, intV_int, absV_int, max2_int, min2_int, lenV_tup, lenV_lst, lenV_scr, lenV_lend, R.ok_bind, slotOf, List.map_cons, List.map_nil, List.length_cons, List.length_nil, List.cons_append, List.nil_append, List.append_nil, List.replicate, List.getElem?_cons_succ, List.getElem?_cons_zero, Res.items, List.set_cons_succ, List.set_cons_zero, Nat.reduceAdd, Nat.reduceSub, Res.pv, mulV_big (x := (k : Int)) (y := (x : Int)) (by omega), Int.natCast_mul]
    rw [zn_cons, List.map_cons, runFor_cons]
    simp only [asg_val, List.set_cons_succ, List.set_cons_zero]
    rw [e1]
    simp only
    rw [e, List.append_assoc]; rfl
theorem zn_rev (xs : List Nat) : (zn xs).reverse = zn xs.reverse := by unfold zn; rw [List.map_reverse]
theorem v_strides (ss : List Nat) (h : ∀ s ∈ ss, s ≤ 1000) (hl : ss.length ≤ 1000) : f_strides [.val (.tup (zn ss))] = .ok (.val (.tup (zn (strd ss)))) := by
  obtain ⟨k', t', e⟩ := st_loop (.val (.tup (zn ss))) ss.reverse [] 1 .unset (fun x hx => h x (List.mem_reverse.mp hx)) (by rw [List.length_nil, List.length_reverse]; omega)
  rw [List.nil_append] at e
  have hw : walkV (rd 0) [.val (.tup (zn ss)), .own 0 [], .val (.int 1), .unset] = .ok ((zn ss.reverse).map .val) := by rw [← zn_rev]; rfl
  refine runFn_ret (show b_strides [.val (.tup (zn ss)), .unset, .unset, .unset] = _ from ?_)
  unfold b_strides
  rw [seqS_next (ρ' := [.val (.tup (zn ss)), .own 0 [], .unset, .unset]) (by rfl), seqS_next (ρ' := [.val (.tup (zn ss)), .own 0 [], .val (.int 1), .unset]) (by rfl), seqS_next ((forS_ok hw).trans e)]
  rw [frS_ap, show frE 1 [Slot.val (.tup (zn ss)), .own 0 (zn (stepsR 1 ss.reverse)), k', t'] = [.val (.tup (zn ss)), .val (.lst (zn (stepsR 1 ss.reverse))), k', t'] from rfl]
  simp only [seqS_ap, nilS_ap, brkS_ap, contS_ap, badS_ap, raiseS_ap, frS_ap, setS_ap, dropS_ap, retS_ap, ifS_ap, asg_val, asg_new, asg_bor, retR_val, retR_new, rd_ap, retOwn_ap, cst_ap, bin2_ap, un1_ap, callN_ap, callF_ap, fldE_ap, aNil_ap, aCons_ap, tupD_ap, lstD_ap, nilD_ap, walkOf_ap, walkR1_ap, walkR2_ap, walkZ_ap, walkE_ap, walkV_ap, tupRevV_ap, andT_ap, orT_ap, notT_ap, boolOf_ap, boolR_bl, andV_ap, orV_ap, notE_ap, ifV_ap, chn_ap, noB_ap, intB_ap, sl3_ap, forS_ap, lcV_ap, yesT_ap, stD_val, stD_new0, stAll_nil, stAll_cons, stR_val, stR_new, argR_val, argR_new, argR_bor, argR_lend, addV_int, subV_int, negV_int, ltV_int, leV_int, gtV_int, geV_int, eqV_int, neV_int, eqV_str, neV_str, intV_int, absV_int, max2_int, min2_int, lenV_tup, lenV_lst, lenV_scr, lenV_lend, R.ok_bind, slotOf, List.map_cons, List.map_nil, List.length_cons, List.length_nil, List.cons_append, List.nil_append, List.append_nil, List.replicate, List.getElem?_cons_succ, List.getElem?_cons_zero, Res.items, List.set_cons_succ, List.set_cons_zero, Nat.reduceAdd, Nat.reduceSub, Res.pv, zn_rev, stepsR_strd]
end
end K88
namespace K88
open PySem PySem.Spec L2 Pv Mz
noncomputable section
theorem app_loop {J : Type} {g : VG} {body : VS} (it : Nat → Res) (E : List PV → J → Pv.Env) (L : Nat → List PV) (hi : Nat)
    (hs : ∀ (c : Nat) (acc : List PV) (j : J), c < hi → acc.length + (L c).length ≤ 10000 → ∃ ρ1 j', g (it c) (E acc j) = .next ρ1 ∧ (body ρ1 = .next (E (acc ++ L c) j') ∨ body ρ1 = .cont (E (acc ++ L c) j'))) :
    ∀ (n a : Nat) (acc : List PV) (j : J), a + n ≤ hi → acc.length + ((List.range' a n).flatMap L).length ≤ 10000 → ∃ j', runFor g body ((List.range' a n).map it) (E acc j) = .next (E (acc ++ (List.range' a n).flatMap L) j')
  | 0, a, acc, j, _, _ => ⟨j, by simp [runFor_nil]⟩
  | n + 1, a, acc, j, h1, h2 => by
    rw [List.range'_succ, List.flatMap_cons, List.length_append] at h2
    obtain ⟨ρ1, j1, e1, e2⟩ := hs a acc j (by omega) (by omega)
    obtain ⟨j2, e3⟩ := app_loop it E L hi hs n (a + 1) (acc ++ L a) j1 (by omega) (by rw [List.length_append]; omega)
    refine ⟨j2, ?_⟩
    rw [List.range'_succ, List.map_cons, runFor_cons, e1]
    simp only
    rw [List.flatMap_cons]
    rcases e2 with e2 | e2
    · rw [e2]; simp only; rw [e3, List.append_assoc]
    · rw [e2]; simp only; rw [e3, List.append_assoc]
structure GOk (ss : List Nat) (rs : List (List Int)) : Prop where
  sz : Sizes ss
  len : rs.length = ss.length
  row : ∀ r ∈ rs, r.length = Mz.pr ss
abbrev gameV (ss : List Nat) (rs : List (List Int)) (o : Int) : PV := .ins "Game" (gameF ss rs o)
theorem Sizes.le {ss : List Nat} (h : Sizes ss) : ∀ s ∈ ss, s ≤ 1000 := fun s hs => by have := (h.el s hs).2; omega
theorem fld_sizes {ss : List Nat} {rs : List (List Int)} {o : Int} {e : VE} {ρ : Pv.Env} (h : e ρ = .ok (.val (gameV ss rs o))) : fldE "Game" "sizes" e ρ = .ok (.val (.tup (zn ss))) := by rw [fldE_ap, h]; rfl
theorem fld_pays {ss : List Nat} {rs : List (List Int)} {o : Int} {e : VE} {ρ : Pv.Env} (h : e ρ = .ok (.val (gameV ss rs o))) : fldE "Game" "pays" e ρ = .ok (.val (.tup (rtup rs))) := by rw [fldE_ap, h]; rfl
theorem fld_over {ss : List Nat} {rs : List (List Int)} {o : Int} {e : VE} {ρ : Pv.Env} (h : e ρ = .ok (.val (gameV ss rs o))) : fldE "Game" "over" e ρ = .ok (.val (.int o)) := by rw [fldE_ap, h]; rfl
def Vp (ss : List Nat) (rs : List (List Int)) (cs : List Nat) (p c : Nat) : Int := (rs.getD p []).getD (plc ss (cs.set p c)) 0
def dp (cs : List Nat) (p : Nat) : Nat := cs.getD p 0
def sp (ss : List Nat) (p : Nat) : Nat := ss.getD p 0
def mxL : List Int → Int
  | [] => 0
  | x :: xs => xs.foldl max x
theorem at_rtup {rs : List (List Int)} {p : Nat} {r : List Int} (h : rs[p]? = some r) : atI (rtup rs) (p : Int) = some (.tup (zs r)) := by rw [Pv.atI_nat]; unfold rtup; rw [List.getElem?_map, h]; rfl
theorem at_rlst {rs : List (List Int)} {p : Nat} {r : List Int} (h : rs[p]? = some r) : atI (rlst rs) (p : Int) = some (.lst (zs r)) := by rw [Pv.atI_nat]; unfold rlst; rw [List.getElem?_map, h]; rfl
theorem getD_some {α : Type} {xs : List α} {i : Nat} {d x : α} (h : xs[i]? = some x) : xs.getD i d = x := by rw [List.getD_eq_getElem?_getD, h]; rfl
structure At (ss : List Nat) (rs : List (List Int)) (cs : List Nat) (p : Nat) (r : List Int) (s t d : Nat) : Prop where
  hr : rs[p]? = some r
  hs : ss[p]? = some s
  ht : (strd ss)[p]? = some t
  hd : cs[p]? = some d
  ok : Ok ss cs
  ds : d < s
  s5 : 1 ≤ s ∧ s ≤ 5
  t1 : 1 ≤ t ∧ t ≤ 120
  own : plc ss cs / t % s = d
  val : ∀ c, c < s → r[plc ss (cs.set p c)]? = some (Vp ss rs cs p c)
  here : r[plc ss cs]? = some (Vp ss rs cs p d)
  ix : ∀ c : Nat, (plc ss cs : Int) - (d : Int) * (t : Int) + (t : Int) * (c : Int) = ((plc ss (cs.set p c) : Nat) : Int)
  lt : plc ss cs < Mz.pr ss
  cnt : Mz.pr ss ≤ 120
theorem set_self {cs : List Nat} {p d : Nat} (h : cs[p]? = some d) : cs.set p d = cs := by
  rw [List.getElem?_eq_some_iff] at h
  obtain ⟨w, e⟩ := h
  rw [← e]; exact List.set_getElem_self w
theorem GOk.at {ss : List Nat} {rs : List (List Int)} (G : GOk ss rs) {cs : List Nat} (ok : Ok ss cs) {p : Nat} (hp : p < ss.length) : ∃ r s t d, At ss rs cs p r s t d := by
  obtain ⟨d, hd, hds⟩ := ok.get p hp
  have hl : p < (strd ss).length := by rw [strd_length]; exact hp
  have hrl : p < rs.length := by rw [G.len]; exact hp
  have hr : rs[p]? = some rs[p] := List.getElem?_eq_getElem hrl
  have hs : ss[p]? = some ss[p] := List.getElem?_eq_getElem hp
  have ht : (strd ss)[p]? = some (strd ss)[p] := List.getElem?_eq_getElem hl
  have hrow := G.row rs[p] (List.getElem_mem _)
  have hval : ∀ c, c < ss[p] → rs[p][plc ss (cs.set p c)]? = some (Vp ss rs cs p c) := fun c hc => by
    have h1 : plc ss (cs.set p c) < Mz.pr ss := plc_lt (ok.set p c fun _ => hc)
    have h2 : plc ss (cs.set p c) < rs[p].length := by rw [hrow]; exact h1
    unfold Vp
    rw [getD_some hr, List.getD_eq_getElem?_getD, List.getElem?_eq_getElem h2]; rfl
  have h5 := G.sz.el ss[p] (List.getElem_mem _)
  have tpos := strd_pos G.sz.pos p hl
  have tdvd := strd_dvd p _ _ hs ht
  have hpr := G.sz.pr
  have prp := pr_pos G.sz.pos
  refine ⟨rs[p], ss[p], (strd ss)[p], d, hr, hs, ht, hd, ok, hds, h5, ⟨tpos, ?_⟩, own_eq G.sz.pos ok p _ _ _ hs ht hd, hval, ?_, fun c => ?_, plc_lt ok, hpr⟩
  · have := Nat.le_of_dvd prp tdvd
    exact Nat.le_trans (Nat.le_mul_of_pos_right _ h5.1) (Nat.le_trans this hpr)
  · have := hval d hds
    rw [set_self hd] at this; exact this
  · have := plc_set ok p c d _ hd ht
    have e : ((plc ss (cs.set p c) : Nat) : Int) + ((strd ss)[p] : Int) * (d : Int) = (plc ss cs : Int) + ((strd ss)[p] : Int) * (c : Int) := by exact_mod_cast this
    rw [Int.mul_comm (d : Int)]
    omega
def mxP (ss : List Nat) (rs : List (List Int)) (cs : List Nat) (p : Nat) : Int := mxL ((List.range (sp ss p)).map (Vp ss rs cs p))
def kpA (e b : Bool) (ss : List Nat) (rs : List (List Int)) (cs : List Nat) (p c : Nat) : Bool :=
  !(decide ((c : Int) = (dp cs p : Int)) || decide (Vp ss rs cs p c < Vp ss rs cs p (dp cs p))) && (e || (decide (Vp ss rs cs p c > Vp ss rs cs p (dp cs p)) && (b || decide (Vp ss rs cs p c = mxP ss rs cs p))))
def arT (ss : List Nat) (rs : List (List Int)) (cs : List Nat) (p c : Nat) : PV := .tup [.int (p : Int), .int (c : Int), .int ((plc ss (cs.set p c) : Nat) : Int), .int (Vp ss rs cs p c - Vp ss rs cs p (dp cs p))]
def arI (e b : Bool) (ss : List Nat) (rs : List (List Int)) (cs : List Nat) (p c : Nat) : List PV := if kpA e b ss rs cs p c = true then [arT ss rs cs p c] else []
def arP (e b : Bool) (ss : List Nat) (rs : List (List Int)) (cs : List Nat) (p : Nat) : List PV := (List.range' 0 (sp ss p)).flatMap (arI e b ss rs cs p)
def arcsL (e b : Bool) (ss : List Nat) (rs : List (List Int)) (cs : List Nat) : List PV := (List.range' 0 ss.length).flatMap (arP e b ss rs cs)
abbrev ar_in : VS := (seqS (setS 14 (bin2 ixV (rd 10) (bin2 addV (rd 9) (bin2 mulV (rd 7) (rd 13)))))
    (seqS (ifS (orT (boolOf (bin2 eqV (rd 13) (rd 8))) (boolOf (bin2 ltV (rd 14) (rd 11))))
    contS
    nilS)
    (ifS (orT (boolOf (bin2 eqV (rd 2) (cst (.str "even")))) (andT (boolOf (bin2 gtV (rd 14) (rd 11))) (orT (boolOf (bin2 eqV (rd 2) (cst (.str "better")))) (boolOf (bin2 eqV (rd 14) (rd 12))))))
    (apS 3 (pthN 3) (tupD (aCons (rd 5) (aCons (rd 13) (aCons (bin2 addV (rd 9) (bin2 mulV (rd 7) (rd 13))) (aCons (bin2 subV (rd 14) (rd 11)) aNil))))))
    nilS)))
abbrev arE (g : Slot) (a : Int) (rule : Str) (st4 : Slot) (p s t d : Nat) (bs : Int) (r : List Int) (h m : Int) (acc : List PV) (j : Slot × Slot) : Pv.Env :=
  [g, .val (.int a), .val (.str rule), .own 0 acc, st4, .val (.int (p : Int)), .val (.int (s : Int)), .val (.int (t : Int)), .val (.int (d : Int)), .val (.int bs), .val (.tup (zs r)), .val (.int h), .val (.int m), j.1, j.2]
theorem ar_step {e b : Bool} {ss : List Nat} {rs : List (List Int)} {cs : List Nat} {p : Nat} {r : List Int} {s t d : Nat} (A : At ss rs cs p r s t d) {rule : Str} (he : decide (rule = "even") = e) (hb : decide (rule = "better") = b) (g st4 : Slot)
    (c : Nat) (acc : List PV) (j : Slot × Slot) (hc : c < s) (hl : acc.length + (arI e b ss rs cs p c).length ≤ 10000) :
    ∃ ρ1 j', asg 13 (.val (.int (c : Int))) (arE g (plc ss cs : Int) rule st4 p s t d ((plc ss cs : Int) - (d : Int) * (t : Int)) r (Vp ss rs cs p d) (mxP ss rs cs p) acc j) = .next ρ1 ∧
      (ar_in ρ1 = .next (arE g (plc ss cs : Int) rule st4 p s t d ((plc ss cs : Int) - (d : Int) * (t : Int)) r (Vp ss rs cs p d) (mxP ss rs cs p) (acc ++ arI e b ss rs cs p c) j') ∨
       ar_in ρ1 = .cont (arE g (plc ss cs : Int) rule st4 p s t d ((plc ss cs : Int) - (d : Int) * (t : Int)) r (Vp ss rs cs p d) (mxP ss rs cs p) (acc ++ arI e b ss rs cs p c) j')) := by
  refine ⟨arE g (plc ss cs : Int) rule st4 p s t d ((plc ss cs : Int) - (d : Int) * (t : Int)) r (Vp ss rs cs p d) (mxP ss rs cs p) acc (.val (.int (c : Int)), j.2), (.val (.int (c : Int)), .val (.int (Vp ss rs cs p c))), rfl, ?_⟩
  have hdp : dp cs p = d := getD_some A.hd
  have hm : mulOk (t : Int) (c : Int) := mul_ok (by have := A.s5; omega)
  have hix : atI (zs r) ((plc ss cs : Int) - (d : Int) * (t : Int) + (t : Int) * (c : Int)) = some (.int (Vp ss rs cs p c)) := by rw [A.ix]; exact at_zs (A.val c hc)
  have e1 : setS 14 (bin2 ixV (rd 10) (bin2 addV (rd 9) (bin2 mulV (rd 7) (rd 13)))) (arE g (plc ss cs : Int) rule st4 p s t d ((plc ss cs : Int) - (d : Int) * (t : Int)) r (Vp ss rs cs p d) (mxP ss rs cs p) acc (.val (.int (c : Int)), j.2)) =
      .next (arE g (plc ss cs : Int) rule st4 p s t d ((plc ss cs : Int) - (d : Int) * (t : Int)) r (Vp ss rs cs p d) (mxP ss rs cs p) acc (.val (.int (c : Int)), .val (.int (Vp ss rs cs p c)))) := by
    simp only [arE, seqS_ap, nilS_ap, brkS_ap, contS_ap, badS_ap, raiseS_ap, frS_ap, setS_ap, dropS_ap, retS_ap, ifS_ap, asg_val, asg_new, asg_bor, retR_val, retR_new, rd_ap, retOwn_ap, cst_ap, bin2_ap, un1_ap, callN_ap, callF_ap, fldE_ap, aNil_ap, aCons_ap, tupD_ap, lstD_ap, nilD_ap, walkOf_ap, walkR1_ap, walkR2_ap, walkZ_ap, walkE_ap, walkV_ap, tupRevV_ap, andT_ap, orT_ap, notT_ap, boolOf_ap, boolR_bl, andV_ap, orV_ap, notE_ap, ifV_ap, chn_ap, noB_ap, intB_ap, sl3_ap, forS_ap, lcV_ap, yesT_ap, stD_val, stD_new0, stAll_nil, stAll_cons, stR_val, stR_new, argR_val, argR_new, argR_bor, argR_lend, addV_int, subV_int, negV_int, ltV_int, leV_int, gtV_int, geV_int, eqV_int, neV_int, eqV_str, neV_str, intV_int, absV_int, max2_int, min2_int, lenV_tup, lenV_lst, lenV_scr, lenV_lend, R.ok_bind, slotOf, List.map_cons, List.map_nil, List.length_cons, List.length_nil, List.cons_append, List.nil_append, List.append_nil, List.replicate, List.getElem?_cons_succ, List.getElem?_cons_zero, Res.items, List.set_cons_succ, List.set_cons_zero, Nat.reduceAdd, Nat.reduceSub, Res.pv, mulV_int hm, ixV_tup, hix]
  have hK : kpA e b ss rs cs p c = (!(decide ((c : Int) = (d : Int)) || decide (Vp ss rs cs p c < Vp ss rs cs p d)) && (e || (decide (Vp ss rs cs p c > Vp ss rs cs p d) && (b || decide (Vp ss rs cs p c = mxP ss rs cs p))))) := by unfold kpA; rw [hdp]
  unfold ar_in
  rw [seqS_next e1]
  cases h1 : (decide ((c : Int) = (d : Int)) || decide (Vp ss rs cs p c < Vp ss rs cs p d)) with
  | true =>
    have hL : arI e b ss rs cs p c = [] := by unfold arI; rw [hK, h1]; rfl
    refine .inr ?_
    rw [hL, List.append_nil, seqS_ap]
    have e2 : ifS (orT (boolOf (bin2 eqV (rd 13) (rd 8))) (boolOf (bin2 ltV (rd 14) (rd 11)))) contS nilS (arE g (plc ss cs : Int) rule st4 p s t d ((plc ss cs : Int) - (d : Int) * (t : Int)) r (Vp ss rs cs p d) (mxP ss rs cs p) acc (.val (.int (c : Int)), .val (.int (Vp ss rs cs p c)))) =
        .cont (arE g (plc ss cs : Int) rule st4 p s t d ((plc ss cs : Int) - (d : Int) * (t : Int)) r (Vp ss rs cs p d) (mxP ss rs cs p) acc (.val (.int (c : Int)), .val (.int (Vp ss rs cs p c)))) := by
      simp only [arE, seqS_ap, nilS_ap, brkS_ap, contS_ap, badS_ap, raiseS_ap, frS_ap, setS_ap, dropS_ap, retS_ap, ifS_ap, asg_val, asg_new, asg_bor, retR_val, retR_new, rd_ap, retOwn_ap, cst_ap, bin2_ap, un1_ap, callN_ap, callF_ap, fldE_ap, aNil_ap, aCons_ap, tupD_ap, lstD_ap, nilD_ap, walkOf_ap, walkR1_ap, walkR2_ap, walkZ_ap, walkE_ap, walkV_ap, tupRevV_ap, andT_ap, orT_ap, notT_ap, boolOf_ap, boolR_bl, andV_ap, orV_ap, notE_ap, ifV_ap, chn_ap, noB_ap, intB_ap, sl3_ap, forS_ap, lcV_ap, yesT_ap, stD_val, stD_new0, stAll_nil, stAll_cons, stR_val, stR_new, argR_val, argR_new, argR_bor, argR_lend, addV_int, subV_int, negV_int, ltV_int, leV_int, gtV_int, geV_int, eqV_int, neV_int, eqV_str, neV_str, intV_int, absV_int, max2_int, min2_int, lenV_tup, lenV_lst, lenV_scr, lenV_lend, R.ok_bind, slotOf, List.map_cons, List.map_nil, List.length_cons, List.length_nil, List.cons_append, List.nil_append, List.append_nil, List.replicate, List.getElem?_cons_succ, List.getElem?_cons_zero, Res.items, List.set_cons_succ, List.set_cons_zero, Nat.reduceAdd, Nat.reduceSub, Res.pv]
      cases h2 : decide ((c : Int) = (d : Int)) with
      | true => rfl
      | false =>
        rw [h2, Bool.false_or] at h1
        simp only [h1, Bool.false_eq_true, if_false, if_true]
    rw [e2]
  | false =>
    rw [Bool.or_eq_false_iff] at h1
    have e2 : ifS (orT (boolOf (bin2 eqV (rd 13) (rd 8))) (boolOf (bin2 ltV (rd 14) (rd 11)))) contS nilS (arE g (plc ss cs : Int) rule st4 p s t d ((plc ss cs : Int) - (d : Int) * (t : Int)) r (Vp ss rs cs p d) (mxP ss rs cs p) acc (.val (.int (c : Int)), .val (.int (Vp ss rs cs p c)))) =
        .next (arE g (plc ss cs : Int) rule st4 p s t d ((plc ss cs : Int) - (d : Int) * (t : Int)) r (Vp ss rs cs p d) (mxP ss rs cs p) acc (.val (.int (c : Int)), .val (.int (Vp ss rs cs p c)))) := by
      simp only [arE, seqS_ap, nilS_ap, brkS_ap, contS_ap, badS_ap, raiseS_ap, frS_ap, setS_ap, dropS_ap, retS_ap, ifS_ap, asg_val, asg_new, asg_bor, retR_val, retR_new, rd_ap, retOwn_ap, cst_ap, bin2_ap, un1_ap, callN_ap, callF_ap, fldE_ap, aNil_ap, aCons_ap, tupD_ap, lstD_ap, nilD_ap, walkOf_ap, walkR1_ap, walkR2_ap, walkZ_ap, walkE_ap, walkV_ap, tupRevV_ap, andT_ap, orT_ap, notT_ap, boolOf_ap, boolR_bl, andV_ap, orV_ap, notE_ap, ifV_ap, chn_ap, noB_ap, intB_ap, sl3_ap, forS_ap, lcV_ap, yesT_ap, stD_val, stD_new0, stAll_nil, stAll_cons, stR_val, stR_new, argR_val, argR_new, argR_bor, argR_lend, addV_int, subV_int, negV_int, ltV_int, leV_int, gtV_int, geV_int, eqV_int, neV_int, eqV_str, neV_str, intV_int, absV_int, max2_int, min2_int, lenV_tup, lenV_lst, lenV_scr, lenV_lend, R.ok_bind, slotOf, List.map_cons, List.map_nil, List.length_cons, List.length_nil, List.cons_append, List.nil_append, List.append_nil, List.replicate, List.getElem?_cons_succ, List.getElem?_cons_zero, Res.items, List.set_cons_succ, List.set_cons_zero, Nat.reduceAdd, Nat.reduceSub, Res.pv, h1.1, h1.2, Bool.false_eq_true, if_false]
    refine .inl ?_
    rw [seqS_next e2]
    have hK2 : kpA e b ss rs cs p c = (e || (decide (Vp ss rs cs p c > Vp ss rs cs p d) && (b || decide (Vp ss rs cs p c = mxP ss rs cs p)))) := by rw [hK, h1.1, h1.2]; rfl
    have e3 : ∀ (f g' : VS), ifS (orT (boolOf (bin2 eqV (rd 2) (cst (.str "even")))) (andT (boolOf (bin2 gtV (rd 14) (rd 11))) (orT (boolOf (bin2 eqV (rd 2) (cst (.str "better")))) (boolOf (bin2 eqV (rd 14) (rd 12)))))) f g' (arE g (plc ss cs : Int) rule st4 p s t d ((plc ss cs : Int) - (d : Int) * (t : Int)) r (Vp ss rs cs p d) (mxP ss rs cs p) acc (.val (.int (c : Int)), .val (.int (Vp ss rs cs p c)))) =
        (if kpA e b ss rs cs p c = true then f (arE g (plc ss cs : Int) rule st4 p s t d ((plc ss cs : Int) - (d : Int) * (t : Int)) r (Vp ss rs cs p d) (mxP ss rs cs p) acc (.val (.int (c : Int)), .val (.int (Vp ss rs cs p c)))) else g' (arE g (plc ss cs : Int) rule st4 p s t d ((plc ss cs : Int) - (d : Int) * (t : Int)) r (Vp ss rs cs p d) (mxP ss rs cs p) acc (.val (.int (c : Int)), .val (.int (Vp ss rs cs p c))))) := fun f g' => by
      rw [hK2]
      simp only [arE, seqS_ap, nilS_ap, brkS_ap, contS_ap, badS_ap, raiseS_ap, frS_ap, setS_ap, dropS_ap, retS_ap, ifS_ap, asg_val, asg_new, asg_bor, retR_val, retR_new, rd_ap, retOwn_ap, cst_ap, bin2_ap, un1_ap, callN_ap, callF_ap, fldE_ap, aNil_ap, aCons_ap, tupD_ap, lstD_ap, nilD_ap, walkOf_ap, walkR1_ap, walkR2_ap, walkZ_ap, walkE_ap, walkV_ap, tupRevV_ap, andT_ap, orT_ap, notT_ap, boolOf_ap, boolR_bl, andV_ap, orV_ap, notE_ap, ifV_ap, chn_ap, noB_ap, intB_ap, sl3_ap, forS_ap, lcV_ap, yesT_ap, stD_val, stD_new0, stAll_nil, stAll_cons, stR_val, stR_new, argR_val, argR_new, argR_bor, argR_lend, addV_int, subV_int, negV_int, ltV_int, leV_int, gtV_int, geV_int, eqV_int, neV_int, eqV_str, neV_str, intV_int, absV_int, max2_int, min2_int, lenV_tup, lenV_lst, lenV_scr, lenV_lend, R.ok_bind, slotOf, List.map_cons, List.map_nil, List.length_cons, List.length_nil, List.cons_append, List.nil_append, List.append_nil, List.replicate, List.getElem?_cons_succ, List.getElem?_cons_zero, Res.items, List.set_cons_succ, List.set_cons_zero, Nat.reduceAdd, Nat.reduceSub, Res.pv, he, hb]
      cases e with
      | true => rfl
      | false =>
        simp only [Bool.false_eq_true, if_false, Bool.false_or]
        cases decide (Vp ss rs cs p c > Vp ss rs cs p d) with
        | false => rfl
        | true =>
          simp only [if_true, Bool.true_and]
          cases b with
          | true => rfl
          | false =>
            simp only [Bool.false_eq_true, if_false, Bool.false_or, R.ok_bind]
    rw [e3]
    cases hk : kpA e b ss rs cs p c with
    | false =>
      have hL : arI e b ss rs cs p c = [] := by unfold arI; rw [hk]; rfl
      rw [hL, List.append_nil, if_neg Bool.false_ne_true]; rfl
    | true =>
      have hL : arI e b ss rs cs p c = [arT ss rs cs p c] := by unfold arI; rw [hk]; rfl
      rw [hL, if_pos rfl]
      have hT : tupD (aCons (rd 5) (aCons (rd 13) (aCons (bin2 addV (rd 9) (bin2 mulV (rd 7) (rd 13))) (aCons (bin2 subV (rd 14) (rd 11)) aNil)))) (arE g (plc ss cs : Int) rule st4 p s t d ((plc ss cs : Int) - (d : Int) * (t : Int)) r (Vp ss rs cs p d) (mxP ss rs cs p) acc (.val (.int (c : Int)), .val (.int (Vp ss rs cs p c)))) = .ok (.val (arT ss rs cs p c)) := by
        unfold arT
        rw [hdp, ← A.ix]
        refine tup_val (rs := [.val (.int (p : Int)), .val (.int (c : Int)), .val (.int ((plc ss cs : Int) - (d : Int) * (t : Int) + (t : Int) * (c : Int))), .val (.int (Vp ss rs cs p c - Vp ss rs cs p d))]) ?_ (by rfl) (by show 4 ≤ 100000; decide)
        simp only [arE, seqS_ap, nilS_ap, brkS_ap, contS_ap, badS_ap, raiseS_ap, frS_ap, setS_ap, dropS_ap, retS_ap, ifS_ap, asg_val, asg_new, asg_bor, retR_val, retR_new, rd_ap, retOwn_ap, cst_ap, bin2_ap, un1_ap, callN_ap, callF_ap, fldE_ap, aNil_ap, aCons_ap, tupD_ap, lstD_ap, nilD_ap, walkOf_ap, walkR1_ap, walkR2_ap, walkZ_ap, walkE_ap, walkV_ap, tupRevV_ap, andT_ap, orT_ap, notT_ap, boolOf_ap, boolR_bl, andV_ap, orV_ap, notE_ap, ifV_ap, chn_ap, noB_ap, intB_ap, sl3_ap, forS_ap, lcV_ap, yesT_ap, stD_val, stD_new0, stAll_nil, stAll_cons, stR_val, stR_new, argR_val, argR_new, argR_bor, argR_lend, addV_int, subV_int, negV_int, ltV_int, leV_int, gtV_int, geV_int, eqV_int, neV_int, eqV_str, neV_str, intV_int, absV_int, max2_int, min2_int, lenV_tup, lenV_lst, lenV_scr, lenV_lend, R.ok_bind, slotOf, List.map_cons, List.map_nil, List.length_cons, List.length_nil, List.cons_append, List.nil_append, List.append_nil, List.replicate, List.getElem?_cons_succ, List.getElem?_cons_zero, Res.items, List.set_cons_succ, List.set_cons_zero, Nat.reduceAdd, Nat.reduceSub, Res.pv, mulV_int hm]
      rw [hL] at hl
      rw [apS_own (n := 0) (xs := acc) (by rfl) hT (by rfl) (line_lt (by simp at hl; omega))]
      rfl
end
end K88
namespace K88
open PySem PySem.Spec L2 Pv Mz
noncomputable section
theorem fold_ge : ∀ (xs : List Int) (a : Int), a ≤ xs.foldl max a ∧ ∀ x ∈ xs, x ≤ xs.foldl max a
  | [], a => ⟨Int.le_refl a, (fun x h => by cases h)⟩
  | y :: ys, a => by
    obtain ⟨h1, h2⟩ := fold_ge ys (max a y)
    refine ⟨by show a ≤ ys.foldl max (max a y); omega, fun x hx => ?_⟩
    show x ≤ ys.foldl max (max a y)
    rcases List.mem_cons.mp hx with rfl | h
    · omega
    · exact h2 x h
theorem mxL_ge {l : List Int} {x : Int} (h : x ∈ l) : x ≤ mxL l := by
  cases l with
  | nil => cases h
  | cons y ys =>
    rcases List.mem_cons.mp h with rfl | h
    · exact (fold_ge ys _).1
    · exact (fold_ge ys _).2 x h
theorem maxV_new {l : List Int} (h : l ≠ []) : maxV [.new 0 (zs l)] = .ok (.val (.int (mxL l))) := by
  cases l with
  | nil => exact absurd rfl h
  | cons y ys =>
    have e : Res.ints (.new 0 (zs (y :: ys))) = some (y :: ys) := intsOf_map (y :: ys)
    unfold maxV; simp only [e]; rfl
theorem maxV_lst {l : List Int} (h : l ≠ []) : maxV [.val (.lst (zs l))] = .ok (.val (.int (mxL l))) := by
  cases l with
  | nil => exact absurd rfl h
  | cons y ys =>
    have e : Res.ints (.val (.lst (zs (y :: ys)))) = some (y :: ys) := intsOf_map (y :: ys)
    unfold maxV; simp only [e]; rfl
theorem range_ne {s : Nat} {f : Nat → Int} (h : 1 ≤ s) : (List.range s).map f ≠ [] := by
  intro e
  have := congrArg List.length e
  rw [List.length_map, List.length_range] at this
  simp at this; omega
theorem lc_range {i : Nat} {src te : VE} {ρ : Pv.Env} {s : Nat} (f : Nat → Int) (hs : src ρ = .ok (.val (.int (s : Int)))) (hn : s ≤ 1000) (hx : ∀ c, c < s → te ((wipeE ρ [i]).set i (.val (.int (c : Int)))) = .ok (.val (.int (f c)))) : lcV 0 (walkR1 src) (asg i) yesT te [i] ρ = .ok (.new 0 (zs ((List.range s).map f))) := by
  refine lcV_ok (walkR1_nat hs (by omega)) ?_ (by rw [zs_length, List.length_map, List.length_range]; omega)
  unfold zs
  rw [List.map_map, List.range_eq_range']
  exact runLc_list (fi := fun (k : Nat) => Res.val (.int (k : Int))) (fo := PV.int ∘ f) (List.range' 0 s) fun c hc => ⟨_, _, rfl, hx c (by have := List.mem_range'_1.mp hc; omega), rfl⟩
abbrev ar_body : VS := (seqS (setS 7 (bin2 ixV (rd 4) (rd 5)))
    (seqS (setS 8 (bin2 modV (bin2 fdivV (rd 1) (rd 7)) (rd 6)))
    (seqS (setS 9 (bin2 subV (rd 1) (bin2 mulV (rd 8) (rd 7))))
    (seqS (setS 10 (bin2 ixV (fldE "Game" "pays" (rd 0)) (rd 5)))
    (seqS (setS 11 (bin2 ixV (rd 10) (rd 1)))
    (seqS (setS 12 (callN maxV (aCons (lcV 0 (walkR1 (rd 6)) (asg 13) yesT (bin2 ixV (rd 10) (bin2 addV (rd 9) (bin2 mulV (rd 7) (rd 13)))) [13]) aNil)))
    (seqS (ifS (andT (boolOf (bin2 neV (rd 2) (cst (.str "even")))) (boolOf (bin2 eqV (rd 12) (rd 11))))
    contS
    nilS)
    (forS (walkR1 (rd 6)) (asg 13) ar_in))))))))
abbrev arO (g : Slot) (a : Int) (rule : Str) (st4 : Slot) (acc : List PV) (j : Nat → Slot) : Pv.Env :=
  [g, .val (.int a), .val (.str rule), .own 0 acc, st4, j 5, j 6, j 7, j 8, j 9, j 10, j 11, j 12, j 13, j 14]
def mkJ (x5 x6 x7 x8 x9 x10 x11 x12 x13 x14 : Slot) : Nat → Slot
  | 5 => x5 | 6 => x6 | 7 => x7 | 8 => x8 | 9 => x9 | 10 => x10 | 11 => x11 | 12 => x12 | 13 => x13 | _ => x14
theorem ar_person {ss : List Nat} {rs : List (List Int)} {o : Int} {cs : List Nat} (G : GOk ss rs) (ok : Ok ss cs) {rule : Str} {e b : Bool} (he : decide (rule = "even") = e) (hb : decide (rule = "better") = b) (p : Nat) (hp : p < ss.length) (acc : List PV) (j : Nat → Slot) (hl : acc.length + (arP e b ss rs cs p).length ≤ 10000) :
    ∃ ρ1 j', gtup 2 (gcons (asg 5) (gcons (asg 6) gnil)) (.val (.tup [.int (p : Int), .int (sp ss p : Int)])) (arO (.val (gameV ss rs o)) (plc ss cs : Int) rule (.val (.tup (zn (strd ss)))) acc j) = .next ρ1 ∧
      (ar_body ρ1 = .next (arO (.val (gameV ss rs o)) (plc ss cs : Int) rule (.val (.tup (zn (strd ss)))) (acc ++ arP e b ss rs cs p) j') ∨ ar_body ρ1 = .cont (arO (.val (gameV ss rs o)) (plc ss cs : Int) rule (.val (.tup (zn (strd ss)))) (acc ++ arP e b ss rs cs p) j')) := by
  obtain ⟨r, s, t, d, A⟩ := G.at ok hp
  have hsp : sp ss p = s := getD_some A.hs
  rw [hsp]
  have hm1 : mulOk (d : Int) (t : Int) := mul_ok (by have := A.t1; omega)
  have h2 : (2 : Int) ^ 1000 > 1000 := by decide
  have ht1 := A.t1
  have hs5 := A.s5
  have ht0 : (0 : Int) < (t : Int) ∧ (t : Int) < 2 ^ 1000 := by omega
  have hs0 : (s : Int) ≠ 0 := by omega
  have hown : Int.fmod (Int.fdiv (plc ss cs : Int) (t : Int)) (s : Int) = (d : Int) := by rw [fdiv_nat, fmod_nat, A.own]
  have hst : atI (zn (strd ss)) (p : Int) = some (.int (t : Int)) := at_zn A.ht
  have hrow := at_rtup A.hr
  have hhere : atI (zs r) (plc ss cs : Int) = some (.int (Vp ss rs cs p d)) := at_zs A.here
  have hmx : mxP ss rs cs p = mxL ((List.range s).map (Vp ss rs cs p)) := by unfold mxP; rw [hsp]
  have hdp : dp cs p = d := getD_some A.hd
  have step : ∀ x7 x8 x9 x10 x11 x12 x13 x14 : Slot, ar_body [.val (gameV ss rs o), .val (.int (plc ss cs : Int)), .val (.str rule), .own 0 acc, .val (.tup (zn (strd ss))), .val (.int (p : Int)), .val (.int (s : Int)), x7, x8, x9, x10, x11, x12, x13, x14] =
      (seqS (ifS (andT (boolOf (bin2 neV (rd 2) (cst (.str "even")))) (boolOf (bin2 eqV (rd 12) (rd 11)))) contS nilS) (forS (walkR1 (rd 6)) (asg 13) ar_in)) (arE (.val (gameV ss rs o)) (plc ss cs : Int) rule (.val (.tup (zn (strd ss)))) p s t d ((plc ss cs : Int) - (d : Int) * (t : Int)) r (Vp ss rs cs p d) (mxP ss rs cs p) acc (x13, x14)) := fun x7 x8 x9 x10 x11 x12 x13 x14 => by
    unfold ar_body
    rw [seqS_next (ρ' := [.val (gameV ss rs o), .val (.int (plc ss cs : Int)), .val (.str rule), .own 0 acc, .val (.tup (zn (strd ss))), .val (.int (p : Int)), .val (.int (s : Int)), .val (.int (t : Int)), x8, x9, x10, x11, x12, x13, x14]) (by simp only [seqS_ap, nilS_ap, brkS_ap, contS_ap, badS_ap, raiseS_ap, frS_ap, setS_ap, dropS_ap, retS_ap, ifS_ap, asg_val, asg_new, asg_bor, retR_val, retR_new, rd_ap, retOwn_ap, cst_ap, bin2_ap, un1_ap, callN_ap, callF_ap, fldE_ap, aNil_ap, aCons_ap, tupD_ap, lstD_ap, nilD_ap, walkOf_ap, walkR1_ap, walkR2_ap, walkZ_ap, walkE_ap, walkV_ap, tupRevV_ap, andT_ap, orT_ap, notT_ap, boolOf_ap, boolR_bl, andV_ap, orV_ap, notE_ap, ifV_ap, chn_ap, noB_ap, intB_ap, sl3_ap, forS_ap, lcV_ap, yesT_ap, stD_val, stD_new0, stAll_nil, stAll_cons, stR_val, stR_new, argR_val, argR_new, argR_bor, argR_lend, addV_int, subV_int, negV_int, ltV_int, leV_int, gtV_int, geV_int, eqV_int, neV_int, eqV_str, neV_str, intV_int, absV_int, max2_int, min2_int, lenV_tup, lenV_lst, lenV_scr, lenV_lend, R.ok_bind, slotOf, List.map_cons, List.map_nil, List.length_cons, List.length_nil, List.cons_append, List.nil_append, List.append_nil, List.replicate, List.getElem?_cons_succ, List.getElem?_cons_zero, Res.items, List.set_cons_succ, List.set_cons_zero, Nat.reduceAdd, Nat.reduceSub, Res.pv, ixV_tup, hst]),
      seqS_next (ρ' := [.val (gameV ss rs o), .val (.int (plc ss cs : Int)), .val (.str rule), .own 0 acc, .val (.tup (zn (strd ss))), .val (.int (p : Int)), .val (.int (s : Int)), .val (.int (t : Int)), .val (.int (d : Int)), x9, x10, x11, x12, x13, x14]) (by simp only [seqS_ap, nilS_ap, brkS_ap, contS_ap, badS_ap, raiseS_ap, frS_ap, setS_ap, dropS_ap, retS_ap, ifS_ap, asg_val, asg_new, asg_bor, retR_val, retR_new, rd_ap, retOwn_ap, cst_ap, bin2_ap, un1_ap, callN_ap, callF_ap, fldE_ap, aNil_ap, aCons_ap, tupD_ap, lstD_ap, nilD_ap, walkOf_ap, walkR1_ap, walkR2_ap, walkZ_ap, walkE_ap, walkV_ap, tupRevV_ap, andT_ap, orT_ap, notT_ap, boolOf_ap, boolR_bl, andV_ap, orV_ap, notE_ap, ifV_ap, chn_ap, noB_ap, intB_ap, sl3_ap, forS_ap, lcV_ap, yesT_ap, stD_val, stD_new0, stAll_nil, stAll_cons, stR_val, stR_new, argR_val, argR_new, argR_bor, argR_lend, addV_int, subV_int, negV_int, ltV_int, leV_int, gtV_int, geV_int, eqV_int, neV_int, eqV_str, neV_str, intV_int, absV_int, max2_int, min2_int, lenV_tup, lenV_lst, lenV_scr, lenV_lend, R.ok_bind, slotOf, List.map_cons, List.map_nil, List.length_cons, List.length_nil, List.cons_append, List.nil_append, List.append_nil, List.replicate, List.getElem?_cons_succ, List.getElem?_cons_zero, Res.items, List.set_cons_succ, List.set_cons_zero, Nat.reduceAdd, Nat.reduceSub, Res.pv, fdivV_pos (x := (plc ss cs : Int)) ht0, modV_int hs0, hown]),
      seqS_next (ρ' := [.val (gameV ss rs o), .val (.int (plc ss cs : Int)), .val (.str rule), .own 0 acc, .val (.tup (zn (strd ss))), .val (.int (p : Int)), .val (.int (s : Int)), .val (.int (t : Int)), .val (.int (d : Int)), .val (.int ((plc ss cs : Int) - (d : Int) * (t : Int))), x10, x11, x12, x13, x14]) (by simp only [seqS_ap, nilS_ap, brkS_ap, contS_ap, badS_ap, raiseS_ap, frS_ap, setS_ap, dropS_ap, retS_ap, ifS_ap, asg_val, asg_new, asg_bor, retR_val, retR_new, rd_ap, retOwn_ap, cst_ap, bin2_ap, un1_ap, callN_ap, callF_ap, fldE_ap, aNil_ap, aCons_ap, tupD_ap, lstD_ap, nilD_ap, walkOf_ap, walkR1_ap, walkR2_ap, walkZ_ap, walkE_ap, walkV_ap, tupRevV_ap, andT_ap, orT_ap, notT_ap, boolOf_ap, boolR_bl, andV_ap, orV_ap, notE_ap, ifV_ap, chn_ap, noB_ap, intB_ap, sl3_ap, forS_ap, lcV_ap, yesT_ap, stD_val, stD_new0, stAll_nil, stAll_cons, stR_val, stR_new, argR_val, argR_new, argR_bor, argR_lend, addV_int, subV_int, negV_int, ltV_int, leV_int, gtV_int, geV_int, eqV_int, neV_int, eqV_str, neV_str, intV_int, absV_int, max2_int, min2_int, lenV_tup, lenV_lst, lenV_scr, lenV_lend, R.ok_bind, slotOf, List.map_cons, List.map_nil, List.length_cons, List.length_nil, List.cons_append, List.nil_append, List.append_nil, List.replicate, List.getElem?_cons_succ, List.getElem?_cons_zero, Res.items, List.set_cons_succ, List.set_cons_zero, Nat.reduceAdd, Nat.reduceSub, Res.pv, mulV_int hm1]),
      seqS_next (ρ' := [.val (gameV ss rs o), .val (.int (plc ss cs : Int)), .val (.str rule), .own 0 acc, .val (.tup (zn (strd ss))), .val (.int (p : Int)), .val (.int (s : Int)), .val (.int (t : Int)), .val (.int (d : Int)), .val (.int ((plc ss cs : Int) - (d : Int) * (t : Int))), .val (.tup (zs r)), x11, x12, x13, x14]) (by
        rw [setS_ap, bin2_ap, fld_pays (ss := ss) (rs := rs) (o := o) (by rfl), R.ok_bind]
        simp only [seqS_ap, nilS_ap, brkS_ap, contS_ap, badS_ap, raiseS_ap, frS_ap, setS_ap, dropS_ap, retS_ap, ifS_ap, asg_val, asg_new, asg_bor, retR_val, retR_new, rd_ap, retOwn_ap, cst_ap, bin2_ap, un1_ap, callN_ap, callF_ap, fldE_ap, aNil_ap, aCons_ap, tupD_ap, lstD_ap, nilD_ap, walkOf_ap, walkR1_ap, walkR2_ap, walkZ_ap, walkE_ap, walkV_ap, tupRevV_ap, andT_ap, orT_ap, notT_ap, boolOf_ap, boolR_bl, andV_ap, orV_ap, notE_ap, ifV_ap, chn_ap, noB_ap, intB_ap, sl3_ap, forS_ap, lcV_ap, yesT_ap, stD_val, stD_new0, stAll_nil, stAll_cons, stR_val, stR_new, argR_val, argR_new, argR_bor, argR_lend, addV_int, subV_int, negV_int, ltV_int, leV_int, gtV_int, geV_int, eqV_int, neV_int, eqV_str, neV_str, intV_int, absV_int, max2_int, min2_int, lenV_tup, lenV_lst, lenV_scr, lenV_lend, R.ok_bind, slotOf, List.map_cons, List.map_nil, List.length_cons, List.length_nil, List.cons_append, List.nil_append, List.append_nil, List.replicate, List.getElem?_cons_succ, List.getElem?_cons_zero, Res.items, List.set_cons_succ, List.set_cons_zero, Nat.reduceAdd, Nat.reduceSub, Res.pv, ixV_tup, hrow]),
      seqS_next (ρ' := [.val (gameV ss rs o), .val (.int (plc ss cs : Int)), .val (.str rule), .own 0 acc, .val (.tup (zn (strd ss))), .val (.int (p : Int)), .val (.int (s : Int)), .val (.int (t : Int)), .val (.int (d : Int)), .val (.int ((plc ss cs : Int) - (d : Int) * (t : Int))), .val (.tup (zs r)), .val (.int (Vp ss rs cs p d)), x12, x13, x14]) (by simp only [seqS_ap, nilS_ap, brkS_ap, contS_ap, badS_ap, raiseS_ap, frS_ap, setS_ap, dropS_ap, retS_ap, ifS_ap, asg_val, asg_new, asg_bor, retR_val, retR_new, rd_ap, retOwn_ap, cst_ap, bin2_ap, un1_ap, callN_ap, callF_ap, fldE_ap, aNil_ap, aCons_ap, tupD_ap, lstD_ap, nilD_ap, walkOf_ap, walkR1_ap, walkR2_ap, walkZ_ap, walkE_ap, walkV_ap, tupRevV_ap, andT_ap, orT_ap, notT_ap, boolOf_ap, boolR_bl, andV_ap, orV_ap, notE_ap, ifV_ap, chn_ap, noB_ap, intB_ap, sl3_ap, forS_ap, lcV_ap, yesT_ap, stD_val, stD_new0, stAll_nil, stAll_cons, stR_val, stR_new, argR_val, argR_new, argR_bor, argR_lend, addV_int, subV_int, negV_int, ltV_int, leV_int, gtV_int, geV_int, eqV_int, neV_int, eqV_str, neV_str, intV_int, absV_int, max2_int, min2_int, lenV_tup, lenV_lst, lenV_scr, lenV_lend, R.ok_bind, slotOf, List.map_cons, List.map_nil, List.length_cons, List.length_nil, List.cons_append, List.nil_append, List.append_nil, List.replicate, List.getElem?_cons_succ, List.getElem?_cons_zero, Res.items, List.set_cons_succ, List.set_cons_zero, Nat.reduceAdd, Nat.reduceSub, Res.pv, ixV_tup, hhere])]
    rw [seqS_next (f := setS 12 _) (ρ' := arE (.val (gameV ss rs o)) (plc ss cs : Int) rule (.val (.tup (zn (strd ss)))) p s t d ((plc ss cs : Int) - (d : Int) * (t : Int)) r (Vp ss rs cs p d) (mxP ss rs cs p) acc (x13, x14)) (by
      rw [setS_ap, callN_ap, aCons_ap, lc_range (s := s) (Vp ss rs cs p) (by rfl) (by omega) (fun c hc => by
        have hix : atI (zs r) ((plc ss cs : Int) - (d : Int) * (t : Int) + (t : Int) * (c : Int)) = some (.int (Vp ss rs cs p c)) := by rw [A.ix]; exact at_zs (A.val c hc)
        show bin2 ixV (rd 10) (bin2 addV (rd 9) (bin2 mulV (rd 7) (rd 13))) [.val (gameV ss rs o), .val (.int (plc ss cs : Int)), .val (.str rule), .own 0 acc, .val (.tup (zn (strd ss))), .val (.int (p : Int)), .val (.int (s : Int)), .val (.int (t : Int)), .val (.int (d : Int)), .val (.int ((plc ss cs : Int) - (d : Int) * (t : Int))), .val (.tup (zs r)), .val (.int (Vp ss rs cs p d)), x12, .val (.int (c : Int)), x14] = _
        simp only [seqS_ap, nilS_ap, brkS_ap, contS_ap, badS_ap, raiseS_ap, frS_ap, setS_ap, dropS_ap, retS_ap, ifS_ap, asg_val, asg_new, asg_bor, retR_val, retR_new, rd_ap, retOwn_ap, cst_ap, bin2_ap, un1_ap, callN_ap, callF_ap, fldE_ap, aNil_ap, aCons_ap, tupD_ap, lstD_ap, nilD_ap, walkOf_ap, walkR1_ap, walkR2_ap, walkZ_ap, walkE_ap, walkV_ap, tupRevV_ap, andT_ap, orT_ap, notT_ap, boolOf_ap, boolR_bl, andV_ap, orV_ap, notE_ap, ifV_ap, chn_ap, noB_ap, intB_ap, sl3_ap, forS_ap, lcV_ap, yesT_ap, stD_val, stD_new0, stAll_nil, stAll_cons, stR_val, stR_new, argR_val, argR_new, argR_bor, argR_lend, addV_int, subV_int, negV_int, ltV_int, leV_int, gtV_int, geV_int, eqV_int, neV_int, eqV_str, neV_str, intV_int, absV_int, max2_int, min2_int, lenV_tup, lenV_lst, lenV_scr, lenV_lend, R.ok_bind, slotOf, List.map_cons, List.map_nil, List.length_cons, List.length_nil, List.cons_append, List.nil_append, List.append_nil, List.replicate, List.getElem?_cons_succ, List.getElem?_cons_zero, Res.items, List.set_cons_succ, List.set_cons_zero, Nat.reduceAdd, Nat.reduceSub, Res.pv, mulV_big (x := (t : Int)) (y := (c : Int)) (by omega), ixV_tup, hix]), R.ok_bind, aNil_ap, R.ok_bind, R.ok_bind, maxV_new (range_ne hs5.1), hmx]
      rfl)]
  by_cases hskip : e = false ∧ mxP ss rs cs p = Vp ss rs cs p d
  · obtain ⟨he0, hm0⟩ := hskip
    subst he0
    have hP : arP false b ss rs cs p = [] := by
      unfold arP
      rw [List.flatMap_eq_nil_iff]
      intro c hc
      have hc' : c < s := by have := List.mem_range'_1.mp hc; rw [hsp] at this; omega
      have hle : Vp ss rs cs p c ≤ mxP ss rs cs p := by rw [hmx]; exact mxL_ge (List.mem_map.mpr ⟨c, List.mem_range.mpr hc', rfl⟩)
      have hn : ¬ (Vp ss rs cs p c > Vp ss rs cs p d) := by omega
      have hk : kpA false b ss rs cs p c = false := by unfold kpA; rw [hdp, decide_eq_false hn]; simp
      unfold arI; rw [hk]; rfl
    refine ⟨_, mkJ (.val (.int (p : Int))) (.val (.int (s : Int))) (.val (.int (t : Int))) (.val (.int (d : Int))) (.val (.int ((plc ss cs : Int) - (d : Int) * (t : Int)))) (.val (.tup (zs r))) (.val (.int (Vp ss rs cs p d))) (.val (.int (mxP ss rs cs p))) (j 13) (j 14), gtup2, .inr ?_⟩
    rw [hP, List.append_nil]
    refine (step (j 7) (j 8) (j 9) (j 10) (j 11) (j 12) (j 13) (j 14)).trans ?_
    rw [seqS_ap, show ifS (andT (boolOf (bin2 neV (rd 2) (cst (.str "even")))) (boolOf (bin2 eqV (rd 12) (rd 11)))) contS nilS (arE (.val (gameV ss rs o)) (plc ss cs : Int) rule (.val (.tup (zn (strd ss)))) p s t d ((plc ss cs : Int) - (d : Int) * (t : Int)) r (Vp ss rs cs p d) (mxP ss rs cs p) acc (j 13, j 14)) = .cont (arE (.val (gameV ss rs o)) (plc ss cs : Int) rule (.val (.tup (zn (strd ss)))) p s t d ((plc ss cs : Int) - (d : Int) * (t : Int)) r (Vp ss rs cs p d) (mxP ss rs cs p) acc (j 13, j 14)) by
      simp only [arE, seqS_ap, nilS_ap, brkS_ap, contS_ap, badS_ap, raiseS_ap, frS_ap, setS_ap, dropS_ap, retS_ap, ifS_ap, asg_val, asg_new, asg_bor, retR_val, retR_new, rd_ap, retOwn_ap, cst_ap, bin2_ap, un1_ap, callN_ap, callF_ap, fldE_ap, aNil_ap, aCons_ap, tupD_ap, lstD_ap, nilD_ap, walkOf_ap, walkR1_ap, walkR2_ap, walkZ_ap, walkE_ap, walkV_ap, tupRevV_ap, andT_ap, orT_ap, notT_ap, boolOf_ap, boolR_bl, andV_ap, orV_ap, notE_ap, ifV_ap, chn_ap, noB_ap, intB_ap, sl3_ap, forS_ap, lcV_ap, yesT_ap, stD_val, stD_new0, stAll_nil, stAll_cons, stR_val, stR_new, argR_val, argR_new, argR_bor, argR_lend, addV_int, subV_int, negV_int, ltV_int, leV_int, gtV_int, geV_int, eqV_int, neV_int, eqV_str, neV_str, intV_int, absV_int, max2_int, min2_int, lenV_tup, lenV_lst, lenV_scr, lenV_lend, R.ok_bind, slotOf, List.map_cons, List.map_nil, List.length_cons, List.length_nil, List.cons_append, List.nil_append, List.append_nil, List.replicate, List.getElem?_cons_succ, List.getElem?_cons_zero, Res.items, List.set_cons_succ, List.set_cons_zero, Nat.reduceAdd, Nat.reduceSub, Res.pv, he, Bool.not_false, if_true, decide_eq_true hm0]]
    rfl
  · have hif : ∀ x13 x14 : Slot, ifS (andT (boolOf (bin2 neV (rd 2) (cst (.str "even")))) (boolOf (bin2 eqV (rd 12) (rd 11)))) contS nilS (arE (.val (gameV ss rs o)) (plc ss cs : Int) rule (.val (.tup (zn (strd ss)))) p s t d ((plc ss cs : Int) - (d : Int) * (t : Int)) r (Vp ss rs cs p d) (mxP ss rs cs p) acc (x13, x14)) = .next (arE (.val (gameV ss rs o)) (plc ss cs : Int) rule (.val (.tup (zn (strd ss)))) p s t d ((plc ss cs : Int) - (d : Int) * (t : Int)) r (Vp ss rs cs p d) (mxP ss rs cs p) acc (x13, x14)) := fun x13 x14 => by
      cases e with
      | true => simp only [arE, seqS_ap, nilS_ap, brkS_ap, contS_ap, badS_ap, raiseS_ap, frS_ap, setS_ap, dropS_ap, retS_ap, ifS_ap, asg_val, asg_new, asg_bor, retR_val, retR_new, rd_ap, retOwn_ap, cst_ap, bin2_ap, un1_ap, callN_ap, callF_ap, fldE_ap, aNil_ap, aCons_ap, tupD_ap, lstD_ap, nilD_ap, walkOf_ap, walkR1_ap, walkR2_ap, walkZ_ap, walkE_ap, walkV_ap, tupRevV_ap, andT_ap, orT_ap, notT_ap, boolOf_ap, boolR_bl, andV_ap, orV_ap, notE_ap, ifV_ap, chn_ap, noB_ap, intB_ap, sl3_ap, forS_ap, lcV_ap, yesT_ap, stD_val, stD_new0, stAll_nil, stAll_cons, stR_val, stR_new, argR_val, argR_new, argR_bor, argR_lend, addV_int, subV_int, negV_int, ltV_int, leV_int, gtV_int, geV_int, eqV_int, neV_int, eqV_str, neV_str, intV_int, absV_int, max2_int, min2_int, lenV_tup, lenV_lst, lenV_scr, lenV_lend, R.ok_bind, slotOf, List.map_cons, List.map_nil, List.length_cons, List.length_nil, List.cons_append, List.nil_append, List.append_nil, List.replicate, List.getElem?_cons_succ, List.getElem?_cons_zero, Res.items, List.set_cons_succ, List.set_cons_zero, Nat.reduceAdd, Nat.reduceSub, Res.pv, he, Bool.not_true, Bool.false_eq_true, if_false]
      | false =>
        have hn : ¬ (mxP ss rs cs p = Vp ss rs cs p d) := fun z => hskip ⟨rfl, z⟩
        simp only [arE, seqS_ap, nilS_ap, brkS_ap, contS_ap, badS_ap, raiseS_ap, frS_ap, setS_ap, dropS_ap, retS_ap, ifS_ap, asg_val, asg_new, asg_bor, retR_val, retR_new, rd_ap, retOwn_ap, cst_ap, bin2_ap, un1_ap, callN_ap, callF_ap, fldE_ap, aNil_ap, aCons_ap, tupD_ap, lstD_ap, nilD_ap, walkOf_ap, walkR1_ap, walkR2_ap, walkZ_ap, walkE_ap, walkV_ap, tupRevV_ap, andT_ap, orT_ap, notT_ap, boolOf_ap, boolR_bl, andV_ap, orV_ap, notE_ap, ifV_ap, chn_ap, noB_ap, intB_ap, sl3_ap, forS_ap, lcV_ap, yesT_ap, stD_val, stD_new0, stAll_nil, stAll_cons, stR_val, stR_new, argR_val, argR_new, argR_bor, argR_lend, addV_int, subV_int, negV_int, ltV_int, leV_int, gtV_int, geV_int, eqV_int, neV_int, eqV_str, neV_str, intV_int, absV_int, max2_int, min2_int, lenV_tup, lenV_lst, lenV_scr, lenV_lend, R.ok_bind, slotOf, List.map_cons, List.map_nil, List.length_cons, List.length_nil, List.cons_append, List.nil_append, List.append_nil, List.replicate, List.getElem?_cons_succ, List.getElem?_cons_zero, Res.items, List.set_cons_succ, List.set_cons_zero, Nat.reduceAdd, Nat.reduceSub, Res.pv, he, Bool.not_false, if_true, decide_eq_false hn, Bool.false_eq_true, if_false]
    have hPe : arP e b ss rs cs p = (List.range' 0 s).flatMap (arI e b ss rs cs p) := by unfold arP; rw [hsp]
    obtain ⟨j', hj⟩ := app_loop (fun (k : Nat) => Res.val (.int (k : Int))) (arE (.val (gameV ss rs o)) (plc ss cs : Int) rule (.val (.tup (zn (strd ss)))) p s t d ((plc ss cs : Int) - (d : Int) * (t : Int)) r (Vp ss rs cs p d) (mxP ss rs cs p)) (arI e b ss rs cs p) s
      (fun c acc j hc hl => ar_step A he hb _ _ c acc j hc hl) s 0 acc (j 13, j 14) (by omega) (by rw [← hPe]; exact hl)
    refine ⟨_, mkJ (.val (.int (p : Int))) (.val (.int (s : Int))) (.val (.int (t : Int))) (.val (.int (d : Int))) (.val (.int ((plc ss cs : Int) - (d : Int) * (t : Int)))) (.val (.tup (zs r))) (.val (.int (Vp ss rs cs p d))) (.val (.int (mxP ss rs cs p))) j'.1 j'.2, gtup2, .inl ?_⟩
    refine (step (j 7) (j 8) (j 9) (j 10) (j 11) (j 12) (j 13) (j 14)).trans ?_
    rw [seqS_next (hif _ _), forS_ok (walkR1_nat (n := s) (by rfl) (by omega)), hPe]
    exact hj
theorem enuI_map : ∀ (ss : List Nat) (k : Nat) (f : Nat → Res), (∀ i, i < ss.length → f (k + i) = .val (.tup [.int ((k + i : Nat) : Int), .int ((ss.getD i 0 : Nat) : Int)])) → enuI k (zn ss) = (List.range' k ss.length).map f
  | [], k, f, _ => rfl
  | s :: ss, k, f, h => by
    have h0 := h 0 (by simp)
    rw [List.length_cons, List.range'_succ, List.map_cons, zn_cons]
    show .val (.tup [.int (k : Nat), .int (s : Int)]) :: enuI (k + 1) (zn ss) = _
    rw [enuI_map ss (k + 1) f fun i hi => by
      have := h (i + 1) (by simp; omega)
      rw [show k + 1 + i = k + (i + 1) by omega, this]; rfl]
    rw [Nat.add_zero] at h0
    rw [h0]; rfl
theorem arcs_small {e b : Bool} {ss : List Nat} {rs : List (List Int)} {cs : List Nat} (h : Sizes ss) : (arcsL e b ss rs cs).length ≤ 100 := by
  have h1 : ∀ p c, (arI e b ss rs cs p c).length ≤ 1 := fun p c => by unfold arI; split <;> simp
  have gen : ∀ (l : List Nat) (f : Nat → List PV) (m : Nat), (∀ c ∈ l, (f c).length ≤ m) → (l.flatMap f).length ≤ l.length * m := fun l f m => by
    induction l with
    | nil => intro _; simp
    | cons x l ih =>
      intro hh
      rw [List.flatMap_cons, List.length_append, List.length_cons, Nat.add_mul, Nat.one_mul]
      have := hh x (by simp)
      have := ih fun c hc => hh c (by simp [hc])
      omega
  have h2 : ∀ p ∈ List.range' 0 ss.length, (arP e b ss rs cs p).length ≤ 5 := fun p hp => by
    have hp' : p < ss.length := by have := List.mem_range'_1.mp hp; omega
    have := gen (List.range' 0 (sp ss p)) (arI e b ss rs cs p) 1 fun c _ => h1 p c
    rw [List.length_range', Nat.mul_one] at this
    have h5 : sp ss p ≤ 5 := by
      unfold sp
      rw [List.getD_eq_getElem?_getD, List.getElem?_eq_getElem hp']
      exact (h.el _ (List.getElem_mem _)).2
    exact Nat.le_trans this h5
  have h3 := gen _ (arP e b ss rs cs) 5 h2
  rw [List.length_range'] at h3
  have := h.n4
  exact Nat.le_trans h3 (by omega)
theorem v_arcs {ss : List Nat} {rs : List (List Int)} {o : Int} {cs : List Nat} (G : GOk ss rs) (ok : Ok ss cs) {rule : Str} {e b : Bool} (he : decide (rule = "even") = e) (hb : decide (rule = "better") = b) :
    f_arcs [.val (gameV ss rs o), .val (.int (plc ss cs : Int)), .val (.str rule)] = .ok (.new 0 (arcsL e b ss rs cs)) := by
  obtain ⟨j', hj⟩ := app_loop (fun (k : Nat) => Res.val (.tup [.int (k : Int), .int (sp ss k : Int)])) (arO (.val (gameV ss rs o)) (plc ss cs : Int) rule (.val (.tup (zn (strd ss))))) (arP e b ss rs cs) ss.length
    (fun c acc j hc hl => ar_person G ok he hb c hc acc j hl) ss.length 0 [] (fun _ => .unset) (by omega) (by rw [List.length_nil]; have := arcs_small (e := e) (b := b) (rs := rs) (cs := cs) G.sz; unfold arcsL at this; omega)
  have hw : walkE (aCons (fldE "Game" "sizes" (rd 0)) aNil) [.val (gameV ss rs o), .val (.int (plc ss cs : Int)), .val (.str rule), .own 0 [], .val (.tup (zn (strd ss))), .unset, .unset, .unset, .unset, .unset, .unset, .unset, .unset, .unset, .unset] = .ok ((List.range' 0 ss.length).map fun (k : Nat) => Res.val (.tup [.int (k : Int), .int (sp ss k : Int)])) := by
    rw [← enuI_map ss 0 (fun (k : Nat) => Res.val (.tup [.int (k : Int), .int (sp ss k : Int)])) fun i _ => by rw [Nat.zero_add]; rfl]
    rw [walkE_ap, aCons_ap, fld_sizes (ss := ss) (rs := rs) (o := o) (by rfl)]; rfl
  refine runFn_ret (show b_arcs [.val (gameV ss rs o), .val (.int (plc ss cs : Int)), .val (.str rule), .unset, .unset, .unset, .unset, .unset, .unset, .unset, .unset, .unset, .unset, .unset, .unset] = _ from ?_)
  unfold b_arcs
  rw [seqS_next (ρ' := [.val (gameV ss rs o), .val (.int (plc ss cs : Int)), .val (.str rule), .own 0 [], .unset, .unset, .unset, .unset, .unset, .unset, .unset, .unset, .unset, .unset, .unset]) (by rfl),
    seqS_next (ρ' := [.val (gameV ss rs o), .val (.int (plc ss cs : Int)), .val (.str rule), .own 0 [], .val (.tup (zn (strd ss))), .unset, .unset, .unset, .unset, .unset, .unset, .unset, .unset, .unset, .unset]) (by
      rw [setS_ap, callF_ap, aCons_ap, fld_sizes (ss := ss) (rs := rs) (o := o) (by rfl), R.ok_bind, aNil_ap, R.ok_bind, R.ok_bind]
      simp only [List.map_cons, List.map_nil, List.append_nil, argR_val, v_strides ss G.sz.le (by have := G.sz.n4; omega), asg_val, List.set_cons_succ, List.set_cons_zero]),
    seqS_next ((forS_ok hw).trans hj)]
  rfl
end
end K88
namespace K88
open PySem PySem.Spec L2 Pv Mz
noncomputable section
theorem chB_ok {ss : List Nat} {p c s : Nat} (hs : ss[p]? = some s) (hc : c < s) : chB ss (p : Int) (c : Int) = true := by
  have hp : p < ss.length := (List.getElem?_eq_some_iff.mp hs).1
  unfold chB
  rw [Int.toNat_natCast, getD_some hs, decide_eq_true (by omega), decide_eq_true (by omega), decide_eq_true (by omega), decide_eq_true (by omega)]; rfl
def Gp (ss : List Nat) (rs : List (List Int)) (cs : List Nat) (p c : Nat) : Int := Vp ss rs cs p c - Vp ss rs cs p (dp cs p)
abbrev gn_tail : VS := (seqS (setS 5 (bin2 ixV (fldE "Game" "pays" (rd 0)) (rd 2)))
    (frS 4 (retS (bin2 subV (bin2 ixV (rd 5) (bin2 addV (rd 4) (bin2 mulV (bin2 ixV (callF f_strides [] (aCons (fldE "Game" "sizes" (rd 0)) aNil)) (rd 2)) (bin2 subV (rd 3) (bin2 ixV (rd 1) (rd 2)))))) (bin2 ixV (rd 5) (rd 4))))))
theorem v_gain {ss : List Nat} {rs : List (List Int)} {o : Int} {cs : List Nat} (G : GOk ss rs) (ok : Ok ss cs) (p c : Nat) (hp : p < ss.length) (hc : c < sp ss p) :
    f_gain [.val (gameV ss rs o), .val (.tup (zn cs)), .val (.int (p : Int)), .val (.int (c : Int))] = .ok (.val (.int (Gp ss rs cs p c))) := by
  obtain ⟨r, s, t, d, A⟩ := G.at ok hp
  have hsp : sp ss p = s := getD_some A.hs
  rw [hsp] at hc
  have hdp : dp cs p = d := getD_some A.hd
  have hpl := v_place ss cs ok G.sz.le
  have hch := v_is_change ss (p : Int) (c : Int)
  rw [chB_ok A.hs hc] at hch
  have hst := v_strides ss G.sz.le (by have := G.sz.n4; omega)
  have hs5 := A.s5
  have hds := A.ds
  have hix : atI (zs r) ((plc ss cs : Int) + (t : Int) * ((c : Int) - (d : Int))) = some (.int (Vp ss rs cs p c)) := by
    have : (plc ss cs : Int) + (t : Int) * ((c : Int) - (d : Int)) = ((plc ss (cs.set p c) : Nat) : Int) := by
      rw [← A.ix c, Int.mul_sub, Int.mul_comm (d : Int)]; omega
    rw [this]; exact at_zs (A.val c hc)
  have hrow := at_rtup A.hr
  have hhere : atI (zs r) (plc ss cs : Int) = some (.int (Vp ss rs cs p d)) := at_zs A.here
  have hstA : atI (zn (strd ss)) (p : Int) = some (.int (t : Int)) := at_zn A.ht
  have hdA : atI (zn cs) (p : Int) = some (.int (d : Int)) := at_zn A.hd
  have e3 : gn_tail [.val (gameV ss rs o), .val (.tup (zn cs)), .val (.int (p : Int)), .val (.int (c : Int)), .val (.int (plc ss cs : Int)), .unset] = .ret (.val (.int (Gp ss rs cs p c))) := by
    unfold gn_tail
    rw [seqS_next (ρ' := [.val (gameV ss rs o), .val (.tup (zn cs)), .val (.int (p : Int)), .val (.int (c : Int)), .val (.int (plc ss cs : Int)), .val (.tup (zs r))]) (by
      rw [setS_ap, bin2_ap, fld_pays (ss := ss) (rs := rs) (o := o) (by rfl), R.ok_bind]
      simp only [seqS_ap, nilS_ap, brkS_ap, contS_ap, badS_ap, raiseS_ap, frS_ap, setS_ap, dropS_ap, retS_ap, ifS_ap, asg_val, asg_new, asg_bor, retR_val, retR_new, rd_ap, retOwn_ap, cst_ap, bin2_ap, un1_ap, callN_ap, callF_ap, fldE_ap, aNil_ap, aCons_ap, tupD_ap, lstD_ap, nilD_ap, walkOf_ap, walkR1_ap, walkR2_ap, walkZ_ap, walkE_ap, walkV_ap, tupRevV_ap, andT_ap, orT_ap, notT_ap, boolOf_ap, boolR_bl, andV_ap, orV_ap, notE_ap, ifV_ap, chn_ap, noB_ap, intB_ap, sl3_ap, forS_ap, lcV_ap, yesT_ap, stD_val, stD_new0, stAll_nil, stAll_cons, stR_val, stR_new, argR_val, argR_new, argR_bor, argR_lend, addV_int, subV_int, negV_int, ltV_int, leV_int, gtV_int, geV_int, eqV_int, neV_int, eqV_str, neV_str, intV_int, absV_int, max2_int, min2_int, lenV_tup, lenV_lst, lenV_scr, lenV_lend, R.ok_bind, slotOf, List.map_cons, List.map_nil, List.length_cons, List.length_nil, List.cons_append, List.nil_append, List.append_nil, List.replicate, List.getElem?_cons_succ, List.getElem?_cons_zero, Res.items, List.set_cons_succ, List.set_cons_zero, Nat.reduceAdd, Nat.reduceSub, Res.pv, ixV_tup, hrow])]
    have e4 : callF f_strides [] (aCons (fldE "Game" "sizes" (rd 0)) aNil) [.val (gameV ss rs o), .val (.tup (zn cs)), .val (.int (p : Int)), .val (.int (c : Int)), .val (.int (plc ss cs : Int)), .val (.tup (zs r))] = .ok (.val (.tup (zn (strd ss)))) := by
      rw [callF_ap, aCons_ap, fld_sizes (ss := ss) (rs := rs) (o := o) (by rfl), R.ok_bind, aNil_ap, R.ok_bind, R.ok_bind]
      exact hst
    rw [frS_ap, show frE 4 [Slot.val (gameV ss rs o), .val (.tup (zn cs)), .val (.int (p : Int)), .val (.int (c : Int)), .val (.int (plc ss cs : Int)), .val (.tup (zs r))] = [Slot.val (gameV ss rs o), .val (.tup (zn cs)), .val (.int (p : Int)), .val (.int (c : Int)), .val (.int (plc ss cs : Int)), .val (.tup (zs r))] from rfl]
    unfold Gp
    rw [hdp]
    simp only [retS_ap, bin2_ap, e4, rd_ap, List.getElem?_cons_succ, List.getElem?_cons_zero, R.ok_bind, ixV_tup, hstA, hdA, subV_int, mulV_big (x := (t : Int)) (y := (c : Int) - (d : Int)) (by omega), addV_int, hix, hhere, retR_val]
  refine runFn_ret (show b_gain [.val (gameV ss rs o), .val (.tup (zn cs)), .val (.int (p : Int)), .val (.int (c : Int)), .unset, .unset] = _ from ?_)
  unfold b_gain
  rw [seqS_next (ρ' := [.val (gameV ss rs o), .val (.tup (zn cs)), .val (.int (p : Int)), .val (.int (c : Int)), .val (.int (plc ss cs : Int)), .unset]) (by
      rw [setS_ap, callF_ap, aCons_ap, fld_sizes (ss := ss) (rs := rs) (o := o) (by rfl), R.ok_bind]
      simp only [seqS_ap, nilS_ap, brkS_ap, contS_ap, badS_ap, raiseS_ap, frS_ap, setS_ap, dropS_ap, retS_ap, ifS_ap, asg_val, asg_new, asg_bor, retR_val, retR_new, rd_ap, retOwn_ap, cst_ap, bin2_ap, un1_ap, callN_ap, callF_ap, fldE_ap, aNil_ap, aCons_ap, tupD_ap, lstD_ap, nilD_ap, walkOf_ap, walkR1_ap, walkR2_ap, walkZ_ap, walkE_ap, walkV_ap, tupRevV_ap, andT_ap, orT_ap, notT_ap, boolOf_ap, boolR_bl, andV_ap, orV_ap, notE_ap, ifV_ap, chn_ap, noB_ap, intB_ap, sl3_ap, forS_ap, lcV_ap, yesT_ap, stD_val, stD_new0, stAll_nil, stAll_cons, stR_val, stR_new, argR_val, argR_new, argR_bor, argR_lend, addV_int, subV_int, negV_int, ltV_int, leV_int, gtV_int, geV_int, eqV_int, neV_int, eqV_str, neV_str, intV_int, absV_int, max2_int, min2_int, lenV_tup, lenV_lst, lenV_scr, lenV_lend, R.ok_bind, slotOf, List.map_cons, List.map_nil, List.length_cons, List.length_nil, List.cons_append, List.nil_append, List.append_nil, List.replicate, List.getElem?_cons_succ, List.getElem?_cons_zero, Res.items, List.set_cons_succ, List.set_cons_zero, Nat.reduceAdd, Nat.reduceSub, Res.pv, hpl]),
    seqS_next (ρ' := [.val (gameV ss rs o), .val (.tup (zn cs)), .val (.int (p : Int)), .val (.int (c : Int)), .val (.int (plc ss cs : Int)), .unset]) (by
      rw [ifS_ap, notT_ap, boolOf_ap, callF_ap, aCons_ap, fld_sizes (ss := ss) (rs := rs) (o := o) (by rfl), R.ok_bind]
      simp only [seqS_ap, nilS_ap, brkS_ap, contS_ap, badS_ap, raiseS_ap, frS_ap, setS_ap, dropS_ap, retS_ap, ifS_ap, asg_val, asg_new, asg_bor, retR_val, retR_new, rd_ap, retOwn_ap, cst_ap, bin2_ap, un1_ap, callN_ap, callF_ap, fldE_ap, aNil_ap, aCons_ap, tupD_ap, lstD_ap, nilD_ap, walkOf_ap, walkR1_ap, walkR2_ap, walkZ_ap, walkE_ap, walkV_ap, tupRevV_ap, andT_ap, orT_ap, notT_ap, boolOf_ap, boolR_bl, andV_ap, orV_ap, notE_ap, ifV_ap, chn_ap, noB_ap, intB_ap, sl3_ap, forS_ap, lcV_ap, yesT_ap, stD_val, stD_new0, stAll_nil, stAll_cons, stR_val, stR_new, argR_val, argR_new, argR_bor, argR_lend, addV_int, subV_int, negV_int, ltV_int, leV_int, gtV_int, geV_int, eqV_int, neV_int, eqV_str, neV_str, intV_int, absV_int, max2_int, min2_int, lenV_tup, lenV_lst, lenV_scr, lenV_lend, R.ok_bind, slotOf, List.map_cons, List.map_nil, List.length_cons, List.length_nil, List.cons_append, List.nil_append, List.append_nil, List.replicate, List.getElem?_cons_succ, List.getElem?_cons_zero, Res.items, List.set_cons_succ, List.set_cons_zero, Nat.reduceAdd, Nat.reduceSub, Res.pv, hch, Bool.not_true, Bool.false_eq_true, if_false])]
  exact e3
theorem v_gain_badplay {ss : List Nat} {rs : List (List Int)} {o : Int} {ps : List Int} (h : okB ss ps = false) (p c : Int) : f_gain [.val (gameV ss rs o), .val (.tup (zs ps)), .val (.int p), .val (.int c)] = .exc badX := by
  have hpl := v_place_bad ss ps h
  refine runFn_exc (show b_gain [.val (gameV ss rs o), .val (.tup (zs ps)), .val (.int p), .val (.int c), .unset, .unset] = .exc badX [.val (gameV ss rs o), .val (.tup (zs ps)), .val (.int p), .val (.int c), .unset, .unset] from ?_)
  unfold b_gain
  rw [seqS_ap, show setS 4 (callF f_place [] (aCons (fldE "Game" "sizes" (rd 0)) (aCons (rd 1) aNil))) [.val (gameV ss rs o), .val (.tup (zs ps)), .val (.int p), .val (.int c), .unset, .unset] = .exc badX [.val (gameV ss rs o), .val (.tup (zs ps)), .val (.int p), .val (.int c), .unset, .unset] by
    rw [setS_ap, callF_ap, aCons_ap, fld_sizes (ss := ss) (rs := rs) (o := o) (by rfl), R.ok_bind]
    simp only [seqS_ap, nilS_ap, brkS_ap, contS_ap, badS_ap, raiseS_ap, frS_ap, setS_ap, dropS_ap, retS_ap, ifS_ap, asg_val, asg_new, asg_bor, retR_val, retR_new, rd_ap, retOwn_ap, cst_ap, bin2_ap, un1_ap, callN_ap, callF_ap, fldE_ap, aNil_ap, aCons_ap, tupD_ap, lstD_ap, nilD_ap, walkOf_ap, walkR1_ap, walkR2_ap, walkZ_ap, walkE_ap, walkV_ap, tupRevV_ap, andT_ap, orT_ap, notT_ap, boolOf_ap, boolR_bl, andV_ap, orV_ap, notE_ap, ifV_ap, chn_ap, noB_ap, intB_ap, sl3_ap, forS_ap, lcV_ap, yesT_ap, stD_val, stD_new0, stAll_nil, stAll_cons, stR_val, stR_new, argR_val, argR_new, argR_bor, argR_lend, addV_int, subV_int, negV_int, ltV_int, leV_int, gtV_int, geV_int, eqV_int, neV_int, eqV_str, neV_str, intV_int, absV_int, max2_int, min2_int, lenV_tup, lenV_lst, lenV_scr, lenV_lend, R.ok_bind, slotOf, List.map_cons, List.map_nil, List.length_cons, List.length_nil, List.cons_append, List.nil_append, List.append_nil, List.replicate, List.getElem?_cons_succ, List.getElem?_cons_zero, Res.items, List.set_cons_succ, List.set_cons_zero, Nat.reduceAdd, Nat.reduceSub, Res.pv, hpl]]
theorem v_gain_badch {ss : List Nat} {rs : List (List Int)} {o : Int} {cs : List Nat} (G : GOk ss rs) (ok : Ok ss cs) (p c : Int) (h : chB ss p c = false) : f_gain [.val (gameV ss rs o), .val (.tup (zn cs)), .val (.int p), .val (.int c)] = .exc badX := by
  have hpl := v_place ss cs ok G.sz.le
  have hch := v_is_change ss p c
  rw [h] at hch
  refine runFn_exc (show b_gain [.val (gameV ss rs o), .val (.tup (zn cs)), .val (.int p), .val (.int c), .unset, .unset] = .exc badX [.val (gameV ss rs o), .val (.tup (zn cs)), .val (.int p), .val (.int c), .val (.int (plc ss cs : Int)), .unset] from ?_)
  unfold b_gain
  rw [seqS_next (ρ' := [.val (gameV ss rs o), .val (.tup (zn cs)), .val (.int p), .val (.int c), .val (.int (plc ss cs : Int)), .unset]) (by
      rw [setS_ap, callF_ap, aCons_ap, fld_sizes (ss := ss) (rs := rs) (o := o) (by rfl), R.ok_bind]
      simp only [seqS_ap, nilS_ap, brkS_ap, contS_ap, badS_ap, raiseS_ap, frS_ap, setS_ap, dropS_ap, retS_ap, ifS_ap, asg_val, asg_new, asg_bor, retR_val, retR_new, rd_ap, retOwn_ap, cst_ap, bin2_ap, un1_ap, callN_ap, callF_ap, fldE_ap, aNil_ap, aCons_ap, tupD_ap, lstD_ap, nilD_ap, walkOf_ap, walkR1_ap, walkR2_ap, walkZ_ap, walkE_ap, walkV_ap, tupRevV_ap, andT_ap, orT_ap, notT_ap, boolOf_ap, boolR_bl, andV_ap, orV_ap, notE_ap, ifV_ap, chn_ap, noB_ap, intB_ap, sl3_ap, forS_ap, lcV_ap, yesT_ap, stD_val, stD_new0, stAll_nil, stAll_cons, stR_val, stR_new, argR_val, argR_new, argR_bor, argR_lend, addV_int, subV_int, negV_int, ltV_int, leV_int, gtV_int, geV_int, eqV_int, neV_int, eqV_str, neV_str, intV_int, absV_int, max2_int, min2_int, lenV_tup, lenV_lst, lenV_scr, lenV_lend, R.ok_bind, slotOf, List.map_cons, List.map_nil, List.length_cons, List.length_nil, List.cons_append, List.nil_append, List.append_nil, List.replicate, List.getElem?_cons_succ, List.getElem?_cons_zero, Res.items, List.set_cons_succ, List.set_cons_zero, Nat.reduceAdd, Nat.reduceSub, Res.pv, hpl])]
  rw [seqS_ap, show ifS (notT (boolOf (callF f_is_change [] (aCons (fldE "Game" "sizes" (rd 0)) (aCons (rd 2) (aCons (rd 3) aNil)))))) (raiseS "BadPlay") nilS [.val (gameV ss rs o), .val (.tup (zn cs)), .val (.int p), .val (.int c), .val (.int (plc ss cs : Int)), .unset] = .exc badX [.val (gameV ss rs o), .val (.tup (zn cs)), .val (.int p), .val (.int c), .val (.int (plc ss cs : Int)), .unset] by
      rw [ifS_ap, notT_ap, boolOf_ap, callF_ap, aCons_ap, fld_sizes (ss := ss) (rs := rs) (o := o) (by rfl), R.ok_bind]
      simp only [seqS_ap, nilS_ap, brkS_ap, contS_ap, badS_ap, raiseS_ap, frS_ap, setS_ap, dropS_ap, retS_ap, ifS_ap, asg_val, asg_new, asg_bor, retR_val, retR_new, rd_ap, retOwn_ap, cst_ap, bin2_ap, un1_ap, callN_ap, callF_ap, fldE_ap, aNil_ap, aCons_ap, tupD_ap, lstD_ap, nilD_ap, walkOf_ap, walkR1_ap, walkR2_ap, walkZ_ap, walkE_ap, walkV_ap, tupRevV_ap, andT_ap, orT_ap, notT_ap, boolOf_ap, boolR_bl, andV_ap, orV_ap, notE_ap, ifV_ap, chn_ap, noB_ap, intB_ap, sl3_ap, forS_ap, lcV_ap, yesT_ap, stD_val, stD_new0, stAll_nil, stAll_cons, stR_val, stR_new, argR_val, argR_new, argR_bor, argR_lend, addV_int, subV_int, negV_int, ltV_int, leV_int, gtV_int, geV_int, eqV_int, neV_int, eqV_str, neV_str, intV_int, absV_int, max2_int, min2_int, lenV_tup, lenV_lst, lenV_scr, lenV_lend, R.ok_bind, slotOf, List.map_cons, List.map_nil, List.length_cons, List.length_nil, List.cons_append, List.nil_append, List.append_nil, List.replicate, List.getElem?_cons_succ, List.getElem?_cons_zero, Res.items, List.set_cons_succ, List.set_cons_zero, Nat.reduceAdd, Nat.reduceSub, Res.pv, hch, Bool.not_false, if_true]; rfl]
def mvF : PV → PV
  | .tup [a, b, _, _] => .tup [a, b]
  | x => x
def moF : PV → Int
  | .tup [_, _, _, .int g] => g
  | _ => 0
def mvL (e b : Bool) (ss : List Nat) (rs : List (List Int)) (cs : List Nat) : List PV := (arcsL e b ss rs cs).map mvF
theorem arcs_form {e b : Bool} {ss : List Nat} {rs : List (List Int)} {cs : List Nat} {x : PV} (h : x ∈ arcsL e b ss rs cs) : ∃ p c, p < ss.length ∧ c < sp ss p ∧ kpA e b ss rs cs p c = true ∧ x = arT ss rs cs p c := by
  obtain ⟨p, hp, h⟩ := List.mem_flatMap.mp h
  obtain ⟨c, hc, h⟩ := List.mem_flatMap.mp h
  unfold arI at h
  split at h
  · rename_i hk
    exact ⟨p, c, by have := List.mem_range'_1.mp hp; omega, by have := List.mem_range'_1.mp hc; omega, hk, by simpa using h⟩
  · cases h
theorem gtup4 {i j k l : Nat} {p q r s : PV} {ρ : Pv.Env} : gtup 4 (gcons (asg i) (gcons (asg j) (gcons (asg k) (gcons (asg l) gnil)))) (.val (.tup [p, q, r, s])) ρ = .next ((((ρ.set i (.val p)).set j (.val q)).set k (.val r)).set l (.val s)) := (rfl)
theorem v_moves {ss : List Nat} {rs : List (List Int)} {o : Int} {cs : List Nat} (G : GOk ss rs) (ok : Ok ss cs) {rule : Str} {e b : Bool} (he : decide (rule = "even") = e) (hb : decide (rule = "better") = b) :
    f_moves [.val (gameV ss rs o), .val (.tup (zn cs)), .val (.str rule)] = .ok (.new 0 (mvL e b ss rs cs)) := by
  have hpl := v_place ss cs ok G.sz.le
  have har := v_arcs (o := o) G ok he hb
  refine runFn_ret (show b_moves [.val (gameV ss rs o), .val (.tup (zn cs)), .val (.str rule), .unset, .unset, .unset, .unset, .unset] = _ from ?_)
  unfold b_moves
  rw [seqS_next (ρ' := [.val (gameV ss rs o), .val (.tup (zn cs)), .val (.str rule), .val (.int (plc ss cs : Int)), .unset, .unset, .unset, .unset]) (by
      rw [setS_ap, callF_ap, aCons_ap, fld_sizes (ss := ss) (rs := rs) (o := o) (by rfl), R.ok_bind]
      simp only [seqS_ap, nilS_ap, brkS_ap, contS_ap, badS_ap, raiseS_ap, frS_ap, setS_ap, dropS_ap, retS_ap, ifS_ap, asg_val, asg_new, asg_bor, retR_val, retR_new, rd_ap, retOwn_ap, cst_ap, bin2_ap, un1_ap, callN_ap, callF_ap, fldE_ap, aNil_ap, aCons_ap, tupD_ap, lstD_ap, nilD_ap, walkOf_ap, walkR1_ap, walkR2_ap, walkZ_ap, walkE_ap, walkV_ap, tupRevV_ap, andT_ap, orT_ap, notT_ap, boolOf_ap, boolR_bl, andV_ap, orV_ap, notE_ap, ifV_ap, chn_ap, noB_ap, intB_ap, sl3_ap, forS_ap, lcV_ap, yesT_ap, stD_val, stD_new0, stAll_nil, stAll_cons, stR_val, stR_new, argR_val, argR_new, argR_bor, argR_lend, addV_int, subV_int, negV_int, ltV_int, leV_int, gtV_int, geV_int, eqV_int, neV_int, eqV_str, neV_str, intV_int, absV_int, max2_int, min2_int, lenV_tup, lenV_lst, lenV_scr, lenV_lend, R.ok_bind, slotOf, List.map_cons, List.map_nil, List.length_cons, List.length_nil, List.cons_append, List.nil_append, List.append_nil, List.replicate, List.getElem?_cons_succ, List.getElem?_cons_zero, Res.items, List.set_cons_succ, List.set_cons_zero, Nat.reduceAdd, Nat.reduceSub, Res.pv, hpl]),
    frS_ap, show frE 3 [Slot.val (gameV ss rs o), .val (.tup (zn cs)), .val (.str rule), .val (.int (plc ss cs : Int)), .unset, .unset, .unset, .unset] = [Slot.val (gameV ss rs o), .val (.tup (zn cs)), .val (.str rule), .val (.int (plc ss cs : Int)), .unset, .unset, .unset, .unset] from rfl, retS_ap]
  rw [lcV_ok (ps := mvL e b ss rs cs) (walkOf_new (n := 0) (xs := arcsL e b ss rs cs) (by
      simp only [callF_ap, aCons_ap, aNil_ap, rd_ap, List.getElem?_cons_succ, List.getElem?_cons_zero, R.ok_bind, List.map_cons, List.map_nil, List.append_nil, argR_val, har])) (runLc_list (fi := Res.val) (fo := mvF) (arcsL e b ss rs cs) fun x hx => by
      obtain ⟨p, c, _, _, _, rfl⟩ := arcs_form hx
      refine ⟨_, .val (mvF (arT ss rs cs p c)), gtup4, ?_, rfl⟩
      exact tup_val (rs := [.val (.int (p : Int)), .val (.int (c : Int))]) (by rfl) (by rfl) (by show 2 ≤ 100000; decide)) (by unfold mvL; rw [List.length_map]; have := arcs_small (e := e) (b := b) (rs := rs) (cs := cs) G.sz; omega)]
  rfl
theorem v_moves_bad {ss : List Nat} {rs : List (List Int)} {o : Int} {ps : List Int} (h : okB ss ps = false) (rule : Str) : f_moves [.val (gameV ss rs o), .val (.tup (zs ps)), .val (.str rule)] = .exc badX := by
  have hpl := v_place_bad ss ps h
  refine runFn_exc (show b_moves [.val (gameV ss rs o), .val (.tup (zs ps)), .val (.str rule), .unset, .unset, .unset, .unset, .unset] = .exc badX [.val (gameV ss rs o), .val (.tup (zs ps)), .val (.str rule), .unset, .unset, .unset, .unset, .unset] from ?_)
  unfold b_moves
  rw [seqS_ap, show setS 3 (callF f_place [] (aCons (fldE "Game" "sizes" (rd 0)) (aCons (rd 1) aNil))) [.val (gameV ss rs o), .val (.tup (zs ps)), .val (.str rule), .unset, .unset, .unset, .unset, .unset] = .exc badX [.val (gameV ss rs o), .val (.tup (zs ps)), .val (.str rule), .unset, .unset, .unset, .unset, .unset] by
    rw [setS_ap, callF_ap, aCons_ap, fld_sizes (ss := ss) (rs := rs) (o := o) (by rfl), R.ok_bind]
    simp only [seqS_ap, nilS_ap, brkS_ap, contS_ap, badS_ap, raiseS_ap, frS_ap, setS_ap, dropS_ap, retS_ap, ifS_ap, asg_val, asg_new, asg_bor, retR_val, retR_new, rd_ap, retOwn_ap, cst_ap, bin2_ap, un1_ap, callN_ap, callF_ap, fldE_ap, aNil_ap, aCons_ap, tupD_ap, lstD_ap, nilD_ap, walkOf_ap, walkR1_ap, walkR2_ap, walkZ_ap, walkE_ap, walkV_ap, tupRevV_ap, andT_ap, orT_ap, notT_ap, boolOf_ap, boolR_bl, andV_ap, orV_ap, notE_ap, ifV_ap, chn_ap, noB_ap, intB_ap, sl3_ap, forS_ap, lcV_ap, yesT_ap, stD_val, stD_new0, stAll_nil, stAll_cons, stR_val, stR_new, argR_val, argR_new, argR_bor, argR_lend, addV_int, subV_int, negV_int, ltV_int, leV_int, gtV_int, geV_int, eqV_int, neV_int, eqV_str, neV_str, intV_int, absV_int, max2_int, min2_int, lenV_tup, lenV_lst, lenV_scr, lenV_lend, R.ok_bind, slotOf, List.map_cons, List.map_nil, List.length_cons, List.length_nil, List.cons_append, List.nil_append, List.append_nil, List.replicate, List.getElem?_cons_succ, List.getElem?_cons_zero, Res.items, List.set_cons_succ, List.set_cons_zero, Nat.reduceAdd, Nat.reduceSub, Res.pv, hpl]]
def slackI (ss : List Nat) (rs : List (List Int)) (cs : List Nat) : Int := mxL (0 :: (arcsL false true ss rs cs).map moF)
theorem addV_new {a b : List PV} (h : a.length + b.length ≤ 100000) : addV (.new 0 a) (.new 0 b) = .ok (.new 0 (a ++ b)) := by
  show (if a.length + b.length ≤ sizeLine then _ else _) = _
  rw [if_pos (line_le h)]
theorem v_slack {ss : List Nat} {rs : List (List Int)} {o : Int} {cs : List Nat} (G : GOk ss rs) (ok : Ok ss cs) : f_slack [.val (gameV ss rs o), .val (.tup (zn cs))] = .ok (.val (.int (slackI ss rs cs))) := by
  have hpl := v_place ss cs ok G.sz.le
  have har := v_arcs (o := o) G ok (rule := "better") (e := false) (b := true) (by decide) (by decide)
  have hsm := arcs_small (e := false) (b := true) (rs := rs) (cs := cs) G.sz
  refine runFn_ret (show b_slack [.val (gameV ss rs o), .val (.tup (zn cs)), .unset, .unset, .unset, .unset, .unset] = _ from ?_)
  unfold b_slack
  rw [seqS_next (ρ' := [.val (gameV ss rs o), .val (.tup (zn cs)), .val (.int (plc ss cs : Int)), .unset, .unset, .unset, .unset]) (by
      rw [setS_ap, callF_ap, aCons_ap, fld_sizes (ss := ss) (rs := rs) (o := o) (by rfl), R.ok_bind]
      simp only [seqS_ap, nilS_ap, brkS_ap, contS_ap, badS_ap, raiseS_ap, frS_ap, setS_ap, dropS_ap, retS_ap, ifS_ap, asg_val, asg_new, asg_bor, retR_val, retR_new, rd_ap, retOwn_ap, cst_ap, bin2_ap, un1_ap, callN_ap, callF_ap, fldE_ap, aNil_ap, aCons_ap, tupD_ap, lstD_ap, nilD_ap, walkOf_ap, walkR1_ap, walkR2_ap, walkZ_ap, walkE_ap, walkV_ap, tupRevV_ap, andT_ap, orT_ap, notT_ap, boolOf_ap, boolR_bl, andV_ap, orV_ap, notE_ap, ifV_ap, chn_ap, noB_ap, intB_ap, sl3_ap, forS_ap, lcV_ap, yesT_ap, stD_val, stD_new0, stAll_nil, stAll_cons, stR_val, stR_new, argR_val, argR_new, argR_bor, argR_lend, addV_int, subV_int, negV_int, ltV_int, leV_int, gtV_int, geV_int, eqV_int, neV_int, eqV_str, neV_str, intV_int, absV_int, max2_int, min2_int, lenV_tup, lenV_lst, lenV_scr, lenV_lend, R.ok_bind, slotOf, List.map_cons, List.map_nil, List.length_cons, List.length_nil, List.cons_append, List.nil_append, List.append_nil, List.replicate, List.getElem?_cons_succ, List.getElem?_cons_zero, Res.items, List.set_cons_succ, List.set_cons_zero, Nat.reduceAdd, Nat.reduceSub, Res.pv, hpl]),
    frS_ap, show frE 2 [Slot.val (gameV ss rs o), .val (.tup (zn cs)), .val (.int (plc ss cs : Int)), .unset, .unset, .unset, .unset] = [Slot.val (gameV ss rs o), .val (.tup (zn cs)), .val (.int (plc ss cs : Int)), .unset, .unset, .unset, .unset] from rfl, retS_ap, callN_ap, aCons_ap, bin2_ap]
  rw [lst_val (rs := [.val (.int 0)]) (ps := [.int 0]) (by rfl) (by rfl) (by decide), R.ok_bind]
  have hmap : ((arcsL false true ss rs cs).map moF).map PV.int = (arcsL false true ss rs cs).map (PV.int ∘ moF) := List.map_map
  rw [lcV_ok (ps := zs ((arcsL false true ss rs cs).map moF)) (walkOf_new (n := 0) (xs := arcsL false true ss rs cs) (by
      simp only [callF_ap, aCons_ap, aNil_ap, cst_ap, rd_ap, List.getElem?_cons_succ, List.getElem?_cons_zero, R.ok_bind, List.map_cons, List.map_nil, List.append_nil, argR_val, har])) (by
      unfold zs
      rw [hmap]
      exact runLc_list (fi := Res.val) (fo := PV.int ∘ moF) (arcsL false true ss rs cs) fun x hx => by
        obtain ⟨p, c, _, _, _, rfl⟩ := arcs_form hx
        exact ⟨_, _, gtup4, rfl, rfl⟩) (by rw [zs_length, List.length_map]; omega), R.ok_bind, addV_new (by rw [zs_length, List.length_map]; show 1 + _ ≤ _; omega), R.ok_bind, aNil_ap, R.ok_bind, R.ok_bind]
  rw [show ([PV.int 0] ++ zs ((arcsL false true ss rs cs).map moF)) = zs (0 :: (arcsL false true ss rs cs).map moF) from rfl, maxV_new (by simp)]
  rfl
theorem v_slack_bad {ss : List Nat} {rs : List (List Int)} {o : Int} {ps : List Int} (h : okB ss ps = false) : f_slack [.val (gameV ss rs o), .val (.tup (zs ps))] = .exc badX := by
  have hpl := v_place_bad ss ps h
  refine runFn_exc (show b_slack [.val (gameV ss rs o), .val (.tup (zs ps)), .unset, .unset, .unset, .unset, .unset] = .exc badX [.val (gameV ss rs o), .val (.tup (zs ps)), .unset, .unset, .unset, .unset, .unset] from ?_)
  unfold b_slack
  rw [seqS_ap, show setS 2 (callF f_place [] (aCons (fldE "Game" "sizes" (rd 0)) (aCons (rd 1) aNil))) [.val (gameV ss rs o), .val (.tup (zs ps)), .unset, .unset, .unset, .unset, .unset] = .exc badX [.val (gameV ss rs o), .val (.tup (zs ps)), .unset, .unset, .unset, .unset, .unset] by
    rw [setS_ap, callF_ap, aCons_ap, fld_sizes (ss := ss) (rs := rs) (o := o) (by rfl), R.ok_bind]
    simp only [seqS_ap, nilS_ap, brkS_ap, contS_ap, badS_ap, raiseS_ap, frS_ap, setS_ap, dropS_ap, retS_ap, ifS_ap, asg_val, asg_new, asg_bor, retR_val, retR_new, rd_ap, retOwn_ap, cst_ap, bin2_ap, un1_ap, callN_ap, callF_ap, fldE_ap, aNil_ap, aCons_ap, tupD_ap, lstD_ap, nilD_ap, walkOf_ap, walkR1_ap, walkR2_ap, walkZ_ap, walkE_ap, walkV_ap, tupRevV_ap, andT_ap, orT_ap, notT_ap, boolOf_ap, boolR_bl, andV_ap, orV_ap, notE_ap, ifV_ap, chn_ap, noB_ap, intB_ap, sl3_ap, forS_ap, lcV_ap, yesT_ap, stD_val, stD_new0, stAll_nil, stAll_cons, stR_val, stR_new, argR_val, argR_new, argR_bor, argR_lend, addV_int, subV_int, negV_int, ltV_int, leV_int, gtV_int, geV_int, eqV_int, neV_int, eqV_str, neV_str, intV_int, absV_int, max2_int, min2_int, lenV_tup, lenV_lst, lenV_scr, lenV_lend, R.ok_bind, slotOf, List.map_cons, List.map_nil, List.length_cons, List.length_nil, List.cons_append, List.nil_append, List.append_nil, List.replicate, List.getElem?_cons_succ, List.getElem?_cons_zero, Res.items, List.set_cons_succ, List.set_cons_zero, Nat.reduceAdd, Nat.reduceSub, Res.pv, hpl]]
def digR : Nat → List Nat → List Nat
  | _, [] => []
  | n, s :: r => n % s :: digR (n / s) r
theorem digR_dig : ∀ (r : List Nat) (n : Nat), n < Mz.pr r.reverse → (digR n r).reverse = dig r.reverse n
  | [], n, h => rfl
  | s :: r, n, h => by
    rw [List.reverse_cons, pr_snoc] at h
    rw [List.reverse_cons, dig_snoc _ _ _ h]
    show (n % s :: digR (n / s) r).reverse = _
    rw [List.reverse_cons, digR_dig r (n / s) (Nat.div_lt_of_lt_mul (by rw [Nat.mul_comm]; exact h))]
abbrev pa_body : VS := (seqS (apS 2 (pthN 2) (bin2 modV (rd 1) (rd 3))) (setS 1 (bin2 fdivV (rd 1) (rd 3))))
theorem pa_loop (a : Slot) : ∀ (xs acc : List Nat) (n : Nat) (t : Slot), (∀ x ∈ xs, 1 ≤ x ∧ x ≤ 1000) → acc.length + xs.length ≤ 1000 → ∃ n' t', runFor (asg 3) pa_body ((zn xs).map .val) [a, .val (.int (n : Int)), .own 0 (zn acc), t] = .next [a, n', .own 0 (zn (acc ++ digR n xs)), t']
  | [], acc, n, t, _, _ => ⟨_, t, by rw [show digR n [] = [] from rfl, List.append_nil]; rfl⟩
  | x :: xs, acc, n, t, h, hl => by
    rw [List.length_cons] at hl
    obtain ⟨n', t', e⟩ := pa_loop a xs (acc ++ [n % x]) (n / x) (.val (.int (x : Int))) (fun y hy => h y (by simp [hy])) (by rw [List.length_append, List.length_singleton]; omega)
    refine ⟨n', t', ?_⟩
    have hx := h x (by simp)
    have h2 : (2 : Int) ^ 1000 > 1000 := by decide
    have hx0 : (x : Int) ≠ 0 := by omega
    have e1 : pa_body [a, .val (.int (n : Int)), .own 0 (zn acc), .val (.int (x : Int))] = .next [a, .val (.int ((n / x : Nat) : Int)), .own 0 (zn (acc ++ [n % x])), .val (.int (x : Int))] := by
      unfold pa_body
      rw [seqS_next (apS_own (n := 0) (xs := zn acc) (r := .val (.int ((n % x : Nat) : Int))) (p := .int ((n % x : Nat) : Int)) (by rfl) (by simp only [seqS_ap, nilS_ap, brkS_ap, contS_ap, badS_ap, raiseS_ap, frS_ap, setS_ap, dropS_ap, retS_ap, ifS_ap, asg_val, asg_new, asg_bor, retR_val, retR_new, rd_ap, retOwn_ap, cst_ap, bin2_ap, un1_ap, callN_ap, callF_ap, fldE_ap, aNil_ap, aCons_ap, tupD_ap, lstD_ap, nilD_ap, walkOf_ap, walkR1_ap, walkR2_ap, walkZ_ap, walkE_ap, walkV_ap, tupRevV_ap, andT_ap, orT_ap, notT_ap, boolOf_ap, boolR_bl, andV_ap, orV_ap, notE_ap, ifV_ap, chn_ap, noB_ap, intB_ap, sl3_ap, forS_ap, lcV_ap, yesT_ap, stD_val, stD_new0, stAll_nil, stAll_cons, stR_val, stR_new, argR_val, argR_new, argR_bor, argR_lend, addV_int, subV_int, negV_int, ltV_int, leV_int, gtV_int, geV_int, eqV_int, neV_int, eqV_str, neV_str, intV_int, absV_int, max2_int, min2_int, lenV_tup, lenV_lst, lenV_scr, lenV_lend, R.ok_bind, slotOf, List.map_cons, List.map_nil, List.length_cons, List.length_nil, List.cons_append, List.nil_append, List.append_nil, List.replicate, List.getElem?_cons_succ, List.getElem?_cons_zero, Res.items, List.set_cons_succ, List.set_cons_zero, Nat.reduceAdd, Nat.reduceSub, Res.pv, modV_int hx0, fmod_nat]) (by rfl) (by rw [zn_length]; exact line_lt (by omega))), zn_snoc]
      simp only [seqS_ap, nilS_ap, brkS_ap, contS_ap, badS_ap, raiseS_ap, frS_ap, setS_ap, dropS_ap, retS_ap, ifS_ap, asg_val, asg_new, asg_bor, retR_val, retR_new, rd_ap, retOwn_ap, cst_ap, bin2_ap, un1_ap, callN_ap, callF_ap, fldE_ap, aNil_ap, aCons_ap, tupD_ap, lstD_ap, nilD_ap, walkOf_ap, walkR1_ap, walkR2_ap, walkZ_ap, walkE_ap, walkV_ap, tupRevV_ap, andT_ap, orT_ap, notT_ap, boolOf_ap, boolR_bl, andV_ap, orV_ap, notE_ap, ifV_ap, chn_ap, noB_ap, intB_ap, sl3_ap, forS_ap, lcV_ap, yesT_ap, stD_val, stD_new0, stAll_nil, stAll_cons, stR_val, stR_new, argR_val, argR_new, argR_bor, argR_lend, addV_int, subV_int, negV_int, ltV_int, leV_int, gtV_int, geV_int, eqV_int, neV_int, eqV_str, neV_str, intV_int, absV_int, max2_int, min2_int, lenV_tup, lenV_lst, lenV_scr, lenV_lend, R.ok_bind, slotOf, List.map_cons, List.map_nil, List.length_cons, List.length_nil, List.cons_append, List.nil_append, List.append_nil, List.replicate, List.getElem?_cons_succ, List.getElem?_cons_zero, Res.items, List.set_cons_succ, List.set_cons_zero, Nat.reduceAdd, Nat.reduceSub, Res.pv, fdivV_pos (x := (n : Int)) (y := (x : Int)) (by omega), fdiv_nat]
    rw [zn_cons, List.map_cons, runFor_cons]
    simp only [asg_val, List.set_cons_succ, List.set_cons_zero]
    rw [e1]
    simp only
    rw [e, List.append_assoc]; rfl
theorem v_play_at {ss : List Nat} (h : Sizes ss) (n : Nat) (hn : n < Mz.pr ss) : f_play_at [.val (.tup (zn ss)), .val (.int (n : Int))] = .ok (.val (.tup (zn (dig ss n)))) := by
  have hcp := v_count_plays (r := .val (.tup (zn ss))) ss (.inr rfl) h.le
  obtain ⟨n', t', e⟩ := pa_loop (.val (.tup (zn ss))) ss.reverse [] n .unset (fun x hx => by have := h.el x (List.mem_reverse.mp hx); omega) (by rw [List.length_nil, List.length_reverse]; have := h.n4; omega)
  rw [List.nil_append] at e
  have hw : walkV (rd 0) [.val (.tup (zn ss)), .val (.int (n : Int)), .own 0 [], .unset] = .ok ((zn ss.reverse).map .val) := by rw [← zn_rev]; rfl
  have d0 : (0 : Int) ≤ (n : Int) := by omega
  have d1 : (n : Int) < (Mz.pr ss : Int) := by omega
  have hd : (zn (digR n ss.reverse)).reverse = zn (dig ss n) := by
    rw [zn_rev, digR_dig _ _ (by rw [List.reverse_reverse]; exact hn), List.reverse_reverse]
  refine runFn_ret (show b_play_at [.val (.tup (zn ss)), .val (.int (n : Int)), .unset, .unset] = _ from ?_)
  unfold b_play_at
  rw [seqS_next (ρ' := [.val (.tup (zn ss)), .val (.int (n : Int)), .unset, .unset]) (by simp only [seqS_ap, nilS_ap, brkS_ap, contS_ap, badS_ap, raiseS_ap, frS_ap, setS_ap, dropS_ap, retS_ap, ifS_ap, asg_val, asg_new, asg_bor, retR_val, retR_new, rd_ap, retOwn_ap, cst_ap, bin2_ap, un1_ap, callN_ap, callF_ap, fldE_ap, aNil_ap, aCons_ap, tupD_ap, lstD_ap, nilD_ap, walkOf_ap, walkR1_ap, walkR2_ap, walkZ_ap, walkE_ap, walkV_ap, tupRevV_ap, andT_ap, orT_ap, notT_ap, boolOf_ap, boolR_bl, andV_ap, orV_ap, notE_ap, ifV_ap, chn_ap, noB_ap, intB_ap, sl3_ap, forS_ap, lcV_ap, yesT_ap, stD_val, stD_new0, stAll_nil, stAll_cons, stR_val, stR_new, argR_val, argR_new, argR_bor, argR_lend, addV_int, subV_int, negV_int, ltV_int, leV_int, gtV_int, geV_int, eqV_int, neV_int, eqV_str, neV_str, intV_int, absV_int, max2_int, min2_int, lenV_tup, lenV_lst, lenV_scr, lenV_lend, R.ok_bind, slotOf, List.map_cons, List.map_nil, List.length_cons, List.length_nil, List.cons_append, List.nil_append, List.append_nil, List.replicate, List.getElem?_cons_succ, List.getElem?_cons_zero, Res.items, List.set_cons_succ, List.set_cons_zero, Nat.reduceAdd, Nat.reduceSub, Res.pv, decide_eq_true d0, if_true, hcp, decide_eq_true d1, Bool.not_true, Bool.false_eq_true, if_false]),
    seqS_next (ρ' := [.val (.tup (zn ss)), .val (.int (n : Int)), .own 0 [], .unset]) (by rfl), seqS_next ((forS_ok hw).trans e)]
  rw [frS_ap, show frE 2 [Slot.val (.tup (zn ss)), n', .own 0 (zn (digR n ss.reverse)), t'] = [.val (.tup (zn ss)), n', .val (.lst (zn (digR n ss.reverse))), t'] from rfl]
  simp only [seqS_ap, nilS_ap, brkS_ap, contS_ap, badS_ap, raiseS_ap, frS_ap, setS_ap, dropS_ap, retS_ap, ifS_ap, asg_val, asg_new, asg_bor, retR_val, retR_new, rd_ap, retOwn_ap, cst_ap, bin2_ap, un1_ap, callN_ap, callF_ap, fldE_ap, aNil_ap, aCons_ap, tupD_ap, lstD_ap, nilD_ap, walkOf_ap, walkR1_ap, walkR2_ap, walkZ_ap, walkE_ap, walkV_ap, tupRevV_ap, andT_ap, orT_ap, notT_ap, boolOf_ap, boolR_bl, andV_ap, orV_ap, notE_ap, ifV_ap, chn_ap, noB_ap, intB_ap, sl3_ap, forS_ap, lcV_ap, yesT_ap, stD_val, stD_new0, stAll_nil, stAll_cons, stR_val, stR_new, argR_val, argR_new, argR_bor, argR_lend, addV_int, subV_int, negV_int, ltV_int, leV_int, gtV_int, geV_int, eqV_int, neV_int, eqV_str, neV_str, intV_int, absV_int, max2_int, min2_int, lenV_tup, lenV_lst, lenV_scr, lenV_lend, R.ok_bind, slotOf, List.map_cons, List.map_nil, List.length_cons, List.length_nil, List.cons_append, List.nil_append, List.append_nil, List.replicate, List.getElem?_cons_succ, List.getElem?_cons_zero, Res.items, List.set_cons_succ, List.set_cons_zero, Nat.reduceAdd, Nat.reduceSub, Res.pv, hd]
def rsI (ss : List Nat) (rs : List (List Int)) (n : Nat) : List PV := if (arcsL false true ss rs (dig ss n)).length = 0 then [.tup (zn (dig ss n))] else []
def restsL (ss : List Nat) (rs : List (List Int)) : List PV := (List.range' 0 (Mz.pr ss)).flatMap (rsI ss rs)
theorem v_rests {ss : List Nat} {rs : List (List Int)} {o : Int} (G : GOk ss rs) : f_rests [.val (gameV ss rs o)] = .ok (.new 0 (restsL ss rs)) := by
  have hpr := G.sz.pr
  have hcp := v_count_plays (r := .val (.tup (zn ss))) ss (.inr rfl) G.sz.le
  have hlen : ∀ (l : List Nat), (l.flatMap (rsI ss rs)).length ≤ l.length := fun l => by
    induction l with
    | nil => simp
    | cons x l ih =>
      rw [List.flatMap_cons, List.length_append, List.length_cons]
      have : (rsI ss rs x).length ≤ 1 := by unfold rsI; split <;> simp
      omega
  obtain ⟨j', hj⟩ := app_loop (J := Slot) (g := asg 2) (body := (ifS (boolOf (bin2 eqV (callN lenV (aCons (callF f_arcs [] (aCons (rd 0) (aCons (rd 2) (aCons (cst (.str "better")) aNil)))) aNil)) (cst (.int 0))))
    (apS 1 (pthN 1) (callF f_play_at [] (aCons (fldE "Game" "sizes" (rd 0)) (aCons (rd 2) aNil))))
    nilS)) (fun (k : Nat) => Res.val (.int (k : Int))) (fun acc j => [.val (gameV ss rs o), .own 0 acc, j]) (rsI ss rs) (Mz.pr ss) (fun n acc j hn hl => by
      refine ⟨[.val (gameV ss rs o), .own 0 acc, .val (.int (n : Int))], .val (.int (n : Int)), rfl, .inl ?_⟩
      obtain ⟨o1, o2⟩ := plc_dig G.sz.pos hn
      have har := v_arcs (o := o) G o1 (rule := "better") (e := false) (b := true) (by decide) (by decide)
      rw [o2] at har
      have e1 : callN lenV (aCons (callF f_arcs [] (aCons (rd 0) (aCons (rd 2) (aCons (cst (.str "better")) aNil)))) aNil) [.val (gameV ss rs o), .own 0 acc, .val (.int (n : Int))] = .ok (.val (.int ((arcsL false true ss rs (dig ss n)).length : Int))) := by
        rw [callN_ap, aCons_ap, callF_ap]
        simp only [aCons_ap, aNil_ap, cst_ap, rd_ap, List.getElem?_cons_succ, List.getElem?_cons_zero, R.ok_bind, List.map_cons, List.map_nil, List.append_nil, argR_val, har]
        rfl
      rw [ifS_ap, boolOf_ap, bin2_ap, e1, R.ok_bind, cst_ap, R.ok_bind, eqV_int, R.ok_bind, boolR_bl]
      by_cases hz : (arcsL false true ss rs (dig ss n)).length = 0
      · have hz' : ((arcsL false true ss rs (dig ss n)).length : Int) = 0 := by omega
        have hI : rsI ss rs n = [.tup (zn (dig ss n))] := by unfold rsI; rw [if_pos hz]
        rw [hI] at hl
        simp only [decide_eq_true hz', if_true]
        have e2 : callF f_play_at [] (aCons (fldE "Game" "sizes" (rd 0)) (aCons (rd 2) aNil)) [.val (gameV ss rs o), .own 0 acc, .val (.int (n : Int))] = .ok (.val (.tup (zn (dig ss n)))) := by
          rw [callF_ap, aCons_ap, fld_sizes (ss := ss) (rs := rs) (o := o) (by rfl), R.ok_bind]
          simp only [seqS_ap, nilS_ap, brkS_ap, contS_ap, badS_ap, raiseS_ap, frS_ap, setS_ap, dropS_ap, retS_ap, ifS_ap, asg_val, asg_new, asg_bor, retR_val, retR_new, rd_ap, retOwn_ap, cst_ap, bin2_ap, un1_ap, callN_ap, callF_ap, fldE_ap, aNil_ap, aCons_ap, tupD_ap, lstD_ap, nilD_ap, walkOf_ap, walkR1_ap, walkR2_ap, walkZ_ap, walkE_ap, walkV_ap, tupRevV_ap, andT_ap, orT_ap, notT_ap, boolOf_ap, boolR_bl, andV_ap, orV_ap, notE_ap, ifV_ap, chn_ap, noB_ap, intB_ap, sl3_ap, forS_ap, lcV_ap, yesT_ap, stD_val, stD_new0, stAll_nil, stAll_cons, stR_val, stR_new, argR_val, argR_new, argR_bor, argR_lend, addV_int, subV_int, negV_int, ltV_int, leV_int, gtV_int, geV_int, eqV_int, neV_int, eqV_str, neV_str, intV_int, absV_int, max2_int, min2_int, lenV_tup, lenV_lst, lenV_scr, lenV_lend, R.ok_bind, slotOf, List.map_cons, List.map_nil, List.length_cons, List.length_nil, List.cons_append, List.nil_append, List.append_nil, List.replicate, List.getElem?_cons_succ, List.getElem?_cons_zero, Res.items, List.set_cons_succ, List.set_cons_zero, Nat.reduceAdd, Nat.reduceSub, Res.pv, v_play_at G.sz n hn]
        rw [apS_own (n := 0) (xs := acc) (by rfl) e2 (by rfl) (line_lt (by simp at hl; omega)), hI]; rfl
      · have hz' : ¬ ((arcsL false true ss rs (dig ss n)).length : Int) = 0 := by omega
        have hI : rsI ss rs n = [] := by unfold rsI; rw [if_neg hz]
        simp only [decide_eq_false hz', Bool.false_eq_true, if_false]
        rw [hI, List.append_nil]; rfl) (Mz.pr ss) 0 [] .unset (by omega) (by rw [List.length_nil]; have := hlen (List.range' 0 (Mz.pr ss)); rw [List.length_range'] at this; omega)
  have hcp2 : callF f_count_plays [] (aCons (fldE "Game" "sizes" (rd 0)) aNil) [.val (gameV ss rs o), .own 0 [], .unset] = .ok (.val (.int (Mz.pr ss : Int))) := by
    rw [callF_ap, aCons_ap, fld_sizes (ss := ss) (rs := rs) (o := o) (by rfl), R.ok_bind]
    simp only [seqS_ap, nilS_ap, brkS_ap, contS_ap, badS_ap, raiseS_ap, frS_ap, setS_ap, dropS_ap, retS_ap, ifS_ap, asg_val, asg_new, asg_bor, retR_val, retR_new, rd_ap, retOwn_ap, cst_ap, bin2_ap, un1_ap, callN_ap, callF_ap, fldE_ap, aNil_ap, aCons_ap, tupD_ap, lstD_ap, nilD_ap, walkOf_ap, walkR1_ap, walkR2_ap, walkZ_ap, walkE_ap, walkV_ap, tupRevV_ap, andT_ap, orT_ap, notT_ap, boolOf_ap, boolR_bl, andV_ap, orV_ap, notE_ap, ifV_ap, chn_ap, noB_ap, intB_ap, sl3_ap, forS_ap, lcV_ap, yesT_ap, stD_val, stD_new0, stAll_nil, stAll_cons, stR_val, stR_new, argR_val, argR_new, argR_bor, argR_lend, addV_int, subV_int, negV_int, ltV_int, leV_int, gtV_int, geV_int, eqV_int, neV_int, eqV_str, neV_str, intV_int, absV_int, max2_int, min2_int, lenV_tup, lenV_lst, lenV_scr, lenV_lend, R.ok_bind, slotOf, List.map_cons, List.map_nil, List.length_cons, List.length_nil, List.cons_append, List.nil_append, List.append_nil, List.replicate, List.getElem?_cons_succ, List.getElem?_cons_zero, Res.items, List.set_cons_succ, List.set_cons_zero, Nat.reduceAdd, Nat.reduceSub, Res.pv, hcp]
  refine runFn_ret (show b_rests [.val (gameV ss rs o), .unset, .unset] = _ from ?_)
  unfold b_rests
  rw [seqS_next (ρ' := [.val (gameV ss rs o), .own 0 [], .unset]) (by rfl), seqS_next ((forS_ok (walkR1_nat hcp2 (by omega))).trans hj)]
  rfl
end
end K88
namespace K88
open PySem PySem.Spec L2 Pv Mz
noncomputable section
theorem lp_loop (ss cs : List Nat) (hl : cs.length = ss.length) (hs : ∀ s ∈ ss, s ≤ 1000) : ∀ (n a v : Nat) (t : Slot), a + n = ss.length → ∃ t', runFor (asg 3) (setS 2 (bin2 addV (bin2 mulV (rd 2) (bin2 ixV (rd 0) (rd 3))) (bin2 ixV (rd 1) (rd 3)))) (rngF a n) [.val (.lst (zn ss)), .val (.tup (zn cs)), .val (.int (v : Int)), t] = .next [.val (.lst (zn ss)), .val (.tup (zn cs)), .val (.int (hor v (ss.drop a) (cs.drop a) : Int)), t']
  | 0, a, v, t, h => ⟨t, by
    rw [rngF_zero, runFor_nil, List.drop_of_length_le (by omega), show hor v [] (cs.drop a) = v from rfl]⟩
  | n + 1, a, v, t, h => by
    have h1 : a < ss.length := by omega
    have h2 : a < cs.length := by omega
    obtain ⟨t', e⟩ := lp_loop ss cs hl hs n (a + 1) (v * ss[a] + cs[a]) (.val (.int (a : Int))) (by omega)
    refine ⟨t', ?_⟩
    have a1 : atI (zn ss) (a : Int) = some (.int (ss[a] : Int)) := at_zn (List.getElem?_eq_getElem h1)
    have a2 : atI (zn cs) (a : Int) = some (.int (cs[a] : Int)) := at_zn (List.getElem?_eq_getElem h2)
    have hle := hs ss[a] (List.getElem_mem _)
    rw [rngF_succ, runFor_cons]
    have e1 : setS 2 (bin2 addV (bin2 mulV (rd 2) (bin2 ixV (rd 0) (rd 3))) (bin2 ixV (rd 1) (rd 3))) [.val (.lst (zn ss)), .val (.tup (zn cs)), .val (.int (v : Int)), .val (.int (a : Int))] = .next [.val (.lst (zn ss)), .val (.tup (zn cs)), .val (.int ((v * ss[a] + cs[a] : Nat) : Int)), .val (.int (a : Int))] := by
      simp only [seqS_ap, nilS_ap, brkS_ap, contS_ap, badS_ap, raiseS_ap, frS_ap, setS_ap, dropS_ap, retS_ap, ifS_ap, asg_val, asg_new, asg_bor, retR_val, retR_new, rd_ap, retOwn_ap, cst_ap, bin2_ap, un1_ap, callN_ap, callF_ap, fldE_ap, aNil_ap, aCons_ap, tupD_ap, lstD_ap, nilD_ap, walkOf_ap, walkR1_ap, walkR2_ap, walkZ_ap, walkE_ap, walkV_ap, tupRevV_ap, andT_ap, orT_ap, notT_ap, boolOf_ap, boolR_bl, andV_ap, orV_ap, notE_ap, ifV_ap, chn_ap, noB_ap, intB_ap, sl3_ap, forS_ap, lcV_ap, yesT_ap, stD_val, stD_new0, stAll_nil, stAll_cons, stR_val, stR_new, argR_val, argR_new, argR_bor, argR_lend, addV_int, subV_int, negV_int, ltV_int, leV_int, gtV_int, geV_int, eqV_int, neV_int, eqV_str, neV_str, intV_int, absV_int, max2_int, min2_int, lenV_tup, lenV_lst, lenV_scr, lenV_lend, R.ok_bind, slotOf, List.map_cons, List.map_nil, List.length_cons, List.length_nil, List.cons_append, List.nil_append, List.append_nil, List.replicate, List.getElem?_cons_succ, List.getElem?_cons_zero, Res.items, List.set_cons_succ, List.set_cons_zero, Nat.reduceAdd, Nat.reduceSub, Res.pv, ixV_lst, ixV_tup, a1, a2, mulV_big (x := (v : Int)) (y := (ss[a] : Int)) (by omega), Int.natCast_add, Int.natCast_mul]
    simp only [asg_val, List.set_cons_succ, List.set_cons_zero]
    rw [e1]
    simp only
    rw [e, List.drop_eq_getElem_cons h1, List.drop_eq_getElem_cons h2]; rfl
theorem v_law_place {ss cs : List Nat} (h : Sizes ss) (ok : Ok ss cs) : f_law_place [.val (.lst (zn ss)), .val (.tup (zn cs))] = .ok (.val (.int (plc ss cs : Int))) := by
  obtain ⟨t', e⟩ := lp_loop ss cs ok.length h.le ss.length 0 0 .unset (by omega)
  rw [List.drop_zero, List.drop_zero, hor_eq _ ok, Nat.zero_mul, Nat.zero_add] at e
  have h4 := h.n4
  refine runFn_ret (show b_law_place [.val (.lst (zn ss)), .val (.tup (zn cs)), .unset, .unset] = _ from ?_)
  unfold b_law_place
  rw [seqS_next (ρ' := [.val (.lst (zn ss)), .val (.tup (zn cs)), .val (.int ((0 : Nat) : Int)), .unset]) (by rfl), seqS_next ((forS_ok (walkR1_nat (n := ss.length) (by simp only [seqS_ap, nilS_ap, brkS_ap, contS_ap, badS_ap, raiseS_ap, frS_ap, setS_ap, dropS_ap, retS_ap, ifS_ap, asg_val, asg_new, asg_bor, retR_val, retR_new, rd_ap, retOwn_ap, cst_ap, bin2_ap, un1_ap, callN_ap, callF_ap, fldE_ap, aNil_ap, aCons_ap, tupD_ap, lstD_ap, nilD_ap, walkOf_ap, walkR1_ap, walkR2_ap, walkZ_ap, walkE_ap, walkV_ap, tupRevV_ap, andT_ap, orT_ap, notT_ap, boolOf_ap, boolR_bl, andV_ap, orV_ap, notE_ap, ifV_ap, chn_ap, noB_ap, intB_ap, sl3_ap, forS_ap, lcV_ap, yesT_ap, stD_val, stD_new0, stAll_nil, stAll_cons, stR_val, stR_new, argR_val, argR_new, argR_bor, argR_lend, addV_int, subV_int, negV_int, ltV_int, leV_int, gtV_int, geV_int, eqV_int, neV_int, eqV_str, neV_str, intV_int, absV_int, max2_int, min2_int, lenV_tup, lenV_lst, lenV_scr, lenV_lend, R.ok_bind, slotOf, List.map_cons, List.map_nil, List.length_cons, List.length_nil, List.cons_append, List.nil_append, List.append_nil, List.replicate, List.getElem?_cons_succ, List.getElem?_cons_zero, Res.items, List.set_cons_succ, List.set_cons_zero, Nat.reduceAdd, Nat.reduceSub, Res.pv, zn_length]) (by omega))).trans e)]
  rfl
theorem cut_take {α : Type} (xs : List α) (p : Nat) : cutP xs none (some (p : Int)) = xs.take p := by
  unfold cutP
  rw [HT.sIx_none, HT.sIx_nat, List.drop_zero, Nat.sub_zero]
  by_cases h : p ≤ xs.length
  · rw [Nat.min_eq_left h]
  · rw [Nat.min_eq_right (by omega), List.take_of_length_le (Nat.le_refl _), List.take_of_length_le (by omega)]
theorem cut_drop {α : Type} (xs : List α) (p : Nat) : cutP xs (some (p : Int)) none = xs.drop p := by
  unfold cutP
  rw [HT.sIx_none, HT.sIx_nat]
  by_cases h : p ≤ xs.length
  · rw [Nat.min_eq_left h, List.take_of_length_le (by rw [List.length_drop]; exact Nat.le_refl _)]
  · rw [Nat.min_eq_right (by omega), List.drop_of_length_le (Nat.le_refl _), List.drop_of_length_le (by omega), List.take_nil]
theorem zn_take (xs : List Nat) (p : Nat) : (zn xs).take p = zn (xs.take p) := by unfold zn; rw [List.map_take]
theorem zn_drop (xs : List Nat) (p : Nat) : (zn xs).drop p = zn (xs.drop p) := by unfold zn; rw [List.map_drop]
theorem slice_take {xs : List PV} {p : Nat} : sliceV (.val (.tup xs)) none (some (p : Int)) = .ok (.val (.tup (xs.take p))) := by show R.ok (Res.val (.tup (cutP xs none (some (p : Int))))) = _; rw [cut_take]
theorem slice_drop {xs : List PV} {p : Nat} : sliceV (.val (.tup xs)) (some (p : Int)) none = .ok (.val (.tup (xs.drop p))) := by show R.ok (Res.val (.tup (cutP xs (some (p : Int)) none))) = _; rw [cut_drop]
theorem v_law_gain {ss : List Nat} {rs : List (List Int)} {cs : List Nat} (G : GOk ss rs) (ok : Ok ss cs) (p c : Nat) (hp : p < ss.length) (hc : c < sp ss p) :
    f_law_gain [.val (.lst (zn ss)), .val (.lst (rlst rs)), .val (.tup (zn cs)), .val (.int (p : Int)), .val (.int (c : Int))] = .ok (.val (.int (Gp ss rs cs p c))) := by
  obtain ⟨r, s, t, d, A⟩ := G.at ok hp
  have hsp : sp ss p = s := getD_some A.hs
  rw [hsp] at hc
  have hdp : dp cs p = d := getD_some A.hd
  have hl := ok.length
  have h4 := G.sz.n4
  have hset : zn (cs.take p) ++ zn [c] ++ zn (cs.drop (p + 1)) = zn (cs.set p c) := by
    rw [zn_append, zn_append, List.set_eq_take_append_cons_drop, if_pos (by omega), List.append_assoc]; rfl
  have ok2 : Ok ss (cs.set p c) := ok.set p c fun h => by
    have := A.hs
    rw [List.getElem?_eq_getElem h] at this
    injection this with this
    omega
  have q1 := v_law_place G.sz ok2
  have q2 := v_law_place G.sz ok
  have e0 : setS 5 (bin2 addV (bin2 addV (sl3 (rd 2) noB (intB (rd 3))) (tupD (aCons (rd 4) aNil))) (sl3 (rd 2) (intB (bin2 addV (rd 3) (cst (.int 1)))) noB)) [.val (.lst (zn ss)), .val (.lst (rlst rs)), .val (.tup (zn cs)), .val (.int (p : Int)), .val (.int (c : Int)), .unset] = .next [.val (.lst (zn ss)), .val (.lst (rlst rs)), .val (.tup (zn cs)), .val (.int (p : Int)), .val (.int (c : Int)), .val (.tup (zn (cs.set p c)))] := by
    have t1 : sl3 (rd 2) noB (intB (rd 3)) [.val (.lst (zn ss)), .val (.lst (rlst rs)), .val (.tup (zn cs)), .val (.int (p : Int)), .val (.int (c : Int)), .unset] = .ok (.val (.tup (zn (cs.take p)))) := by
      simp only [seqS_ap, nilS_ap, brkS_ap, contS_ap, badS_ap, raiseS_ap, frS_ap, setS_ap, dropS_ap, retS_ap, ifS_ap, asg_val, asg_new, asg_bor, retR_val, retR_new, rd_ap, retOwn_ap, cst_ap, bin2_ap, un1_ap, callN_ap, callF_ap, fldE_ap, aNil_ap, aCons_ap, tupD_ap, lstD_ap, nilD_ap, walkOf_ap, walkR1_ap, walkR2_ap, walkZ_ap, walkE_ap, walkV_ap, tupRevV_ap, andT_ap, orT_ap, notT_ap, boolOf_ap, boolR_bl, andV_ap, orV_ap, notE_ap, ifV_ap, chn_ap, noB_ap, intB_ap, sl3_ap, forS_ap, lcV_ap, yesT_ap, stD_val, stD_new0, stAll_nil, stAll_cons, stR_val, stR_new, argR_val, argR_new, argR_bor, argR_lend, addV_int, subV_int, negV_int, ltV_int, leV_int, gtV_int, geV_int, eqV_int, neV_int, eqV_str, neV_str, intV_int, absV_int, max2_int, min2_int, lenV_tup, lenV_lst, lenV_scr, lenV_lend, R.ok_bind, slotOf, List.map_cons, List.map_nil, List.length_cons, List.length_nil, List.cons_append, List.nil_append, List.append_nil, List.replicate, List.getElem?_cons_succ, List.getElem?_cons_zero, Res.items, List.set_cons_succ, List.set_cons_zero, Nat.reduceAdd, Nat.reduceSub, Res.pv, slice_take, zn_take]
    have t2 : tupD (aCons (rd 4) aNil) [.val (.lst (zn ss)), .val (.lst (rlst rs)), .val (.tup (zn cs)), .val (.int (p : Int)), .val (.int (c : Int)), .unset] = .ok (.val (.tup (zn [c]))) := tup_val (rs := [.val (.int (c : Int))]) (by rfl) (by rfl) (by show 1 ≤ 100000; decide)
    have t3 : sl3 (rd 2) (intB (bin2 addV (rd 3) (cst (.int 1)))) noB [.val (.lst (zn ss)), .val (.lst (rlst rs)), .val (.tup (zn cs)), .val (.int (p : Int)), .val (.int (c : Int)), .unset] = .ok (.val (.tup (zn (cs.drop (p + 1))))) := by
      have : sliceV (.val (.tup (zn cs))) (some ((p : Int) + 1)) none = .ok (.val (.tup ((zn cs).drop (p + 1)))) := slice_drop (p := p + 1)
      simp only [seqS_ap, nilS_ap, brkS_ap, contS_ap, badS_ap, raiseS_ap, frS_ap, setS_ap, dropS_ap, retS_ap, ifS_ap, asg_val, asg_new, asg_bor, retR_val, retR_new, rd_ap, retOwn_ap, cst_ap, bin2_ap, un1_ap, callN_ap, callF_ap, fldE_ap, aNil_ap, aCons_ap, tupD_ap, lstD_ap, nilD_ap, walkOf_ap, walkR1_ap, walkR2_ap, walkZ_ap, walkE_ap, walkV_ap, tupRevV_ap, andT_ap, orT_ap, notT_ap, boolOf_ap, boolR_bl, andV_ap, orV_ap, notE_ap, ifV_ap, chn_ap, noB_ap, intB_ap, sl3_ap, forS_ap, lcV_ap, yesT_ap, stD_val, stD_new0, stAll_nil, stAll_cons, stR_val, stR_new, argR_val, argR_new, argR_bor, argR_lend, addV_int, subV_int, negV_int, ltV_int, leV_int, gtV_int, geV_int, eqV_int, neV_int, eqV_str, neV_str, intV_int, absV_int, max2_int, min2_int, lenV_tup, lenV_lst, lenV_scr, lenV_lend, R.ok_bind, slotOf, List.map_cons, List.map_nil, List.length_cons, List.length_nil, List.cons_append, List.nil_append, List.append_nil, List.replicate, List.getElem?_cons_succ, List.getElem?_cons_zero, Res.items, List.set_cons_succ, List.set_cons_zero, Nat.reduceAdd, Nat.reduceSub, Res.pv, this, zn_drop]
    rw [setS_ap, bin2_ap, bin2_ap, t1, R.ok_bind, t2, R.ok_bind, addV_tup (by rw [zn_length, zn_length, List.length_take]; simp; omega), R.ok_bind, t3, R.ok_bind,
      addV_tup (by rw [List.length_append, zn_length, zn_length, zn_length, List.length_take, List.length_drop]; simp; omega), hset]
    rfl
  have ag := at_rlst A.hr
  have b1 : atI (zs r) ((plc ss (cs.set p c) : Nat) : Int) = some (.int (Vp ss rs cs p c)) := at_zs (A.val c hc)
  have b2 : atI (zs r) (plc ss cs : Int) = some (.int (Vp ss rs cs p d)) := at_zs A.here
  refine runFn_ret (show b_law_gain [.val (.lst (zn ss)), .val (.lst (rlst rs)), .val (.tup (zn cs)), .val (.int (p : Int)), .val (.int (c : Int)), .unset] = _ from ?_)
  unfold b_law_gain Gp
  rw [seqS_next e0, hdp]
  simp only [seqS_ap, nilS_ap, brkS_ap, contS_ap, badS_ap, raiseS_ap, frS_ap, setS_ap, dropS_ap, retS_ap, ifS_ap, asg_val, asg_new, asg_bor, retR_val, retR_new, rd_ap, retOwn_ap, cst_ap, bin2_ap, un1_ap, callN_ap, callF_ap, fldE_ap, aNil_ap, aCons_ap, tupD_ap, lstD_ap, nilD_ap, walkOf_ap, walkR1_ap, walkR2_ap, walkZ_ap, walkE_ap, walkV_ap, tupRevV_ap, andT_ap, orT_ap, notT_ap, boolOf_ap, boolR_bl, andV_ap, orV_ap, notE_ap, ifV_ap, chn_ap, noB_ap, intB_ap, sl3_ap, forS_ap, lcV_ap, yesT_ap, stD_val, stD_new0, stAll_nil, stAll_cons, stR_val, stR_new, argR_val, argR_new, argR_bor, argR_lend, addV_int, subV_int, negV_int, ltV_int, leV_int, gtV_int, geV_int, eqV_int, neV_int, eqV_str, neV_str, intV_int, absV_int, max2_int, min2_int, lenV_tup, lenV_lst, lenV_scr, lenV_lend, R.ok_bind, slotOf, List.map_cons, List.map_nil, List.length_cons, List.length_nil, List.cons_append, List.nil_append, List.append_nil, List.replicate, List.getElem?_cons_succ, List.getElem?_cons_zero, Res.items, List.set_cons_succ, List.set_cons_zero, Nat.reduceAdd, Nat.reduceSub, Res.pv, ixV_lst, ag, q1, q2, b1, b2]
theorem v_law_is_whole (x : Int) : f_law_is_whole [.val (.int x)] = .ok (.val (.bl true)) := by
  refine runFn_ret (show b_law_is_whole [.val (.int x)] = _ from ?_)
  have h1 : isV "int" (.val (.int x)) = .ok (.val (.bl true)) := by
    have : isTy "int" (.int x) = some true := (show kitB "int" "int" = some true by decide +kernel)
    unfold isV; simp only [Res.pv, this]
  have h2 : isV "bool" (.val (.int x)) = .ok (.val (.bl false)) := by
    have : isTy "bool" (.int x) = some false := (show kitB "int" "bool" = some false by decide +kernel)
    unfold isV; simp only [Res.pv, this]
  unfold b_law_is_whole
  simp only [seqS_ap, nilS_ap, brkS_ap, contS_ap, badS_ap, raiseS_ap, frS_ap, setS_ap, dropS_ap, retS_ap, ifS_ap, asg_val, asg_new, asg_bor, retR_val, retR_new, rd_ap, retOwn_ap, cst_ap, bin2_ap, un1_ap, callN_ap, callF_ap, fldE_ap, aNil_ap, aCons_ap, tupD_ap, lstD_ap, nilD_ap, walkOf_ap, walkR1_ap, walkR2_ap, walkZ_ap, walkE_ap, walkV_ap, tupRevV_ap, andT_ap, orT_ap, notT_ap, boolOf_ap, boolR_bl, andV_ap, orV_ap, notE_ap, ifV_ap, chn_ap, noB_ap, intB_ap, sl3_ap, forS_ap, lcV_ap, yesT_ap, stD_val, stD_new0, stAll_nil, stAll_cons, stR_val, stR_new, argR_val, argR_new, argR_bor, argR_lend, addV_int, subV_int, negV_int, ltV_int, leV_int, gtV_int, geV_int, eqV_int, neV_int, eqV_str, neV_str, intV_int, absV_int, max2_int, min2_int, lenV_tup, lenV_lst, lenV_scr, lenV_lend, R.ok_bind, slotOf, List.map_cons, List.map_nil, List.length_cons, List.length_nil, List.cons_append, List.nil_append, List.append_nil, List.replicate, List.getElem?_cons_succ, List.getElem?_cons_zero, Res.items, List.set_cons_succ, List.set_cons_zero, Nat.reduceAdd, Nat.reduceSub, Res.pv, h1, h2, if_true, Bool.not_false]
theorem fold_sub (h : Int) : ∀ (l : List Int) (a : Int), (l.map fun x => x - h).foldl max (a - h) = l.foldl max a - h
  | [], a => rfl
  | x :: l, a => by
    show (l.map fun x => x - h).foldl max (max (a - h) (x - h)) = l.foldl max (max a x) - h
    rw [show max (a - h) (x - h) = max a x - h by omega, fold_sub h l]
theorem mxL_sub (h : Int) (l : List Int) (hn : l ≠ []) : mxL (l.map fun x => x - h) = mxL l - h := by
  cases l with
  | nil => exact absurd rfl hn
  | cons x l => exact fold_sub h l x
inductive Rule (rule : Str) : Bool → Bool → Bool → Prop
  | even (h : rule = "even") : Rule rule true false false
  | better (h : rule = "better") : Rule rule false true false
  | best (h : rule = "best") : Rule rule false false true
theorem Rule.e {rule : Str} {e b t : Bool} (h : Rule rule e b t) : decide (rule = "even") = e ∧ decide (rule = "better") = b ∧ decide (rule = "best") = t := by
  cases h with
  | even h => subst h; decide
  | better h => subst h; decide
  | best h => subst h; decide
def lwI (e b : Bool) (ss : List Nat) (rs : List (List Int)) (cs : List Nat) (p c : Nat) : List PV := (arI e b ss rs cs p c).map mvF
def lwP (e b : Bool) (ss : List Nat) (rs : List (List Int)) (cs : List Nat) (p : Nat) : List PV := (List.range' 0 (sp ss p)).flatMap (lwI e b ss rs cs p)
theorem mvL_eq (e b : Bool) (ss : List Nat) (rs : List (List Int)) (cs : List Nat) : mvL e b ss rs cs = (List.range' 0 ss.length).flatMap (lwP e b ss rs cs) := by
  unfold mvL arcsL lwP arP lwI
  rw [List.map_flatMap]
  congr 1
  funext p
  rw [List.map_flatMap]
abbrev lm_in : VS := (seqS (ifS (boolOf (bin2 eqV (rd 7) (bin2 ixV (rd 2) (rd 5))))
    contS
    nilS)
    (seqS (ifS (andT (boolOf (bin2 eqV (rd 3) (cst (.str "even")))) (boolOf (bin2 geV (bin2 ixV (rd 6) (rd 7)) (cst (.int 0)))))
    (apS 4 (pthN 4) (tupD (aCons (rd 5) (aCons (rd 7) aNil))))
    nilS)
    (seqS (ifS (andT (boolOf (bin2 eqV (rd 3) (cst (.str "better")))) (boolOf (bin2 gtV (bin2 ixV (rd 6) (rd 7)) (cst (.int 0)))))
    (apS 4 (pthN 4) (tupD (aCons (rd 5) (aCons (rd 7) aNil))))
    nilS)
    (frS 6 (ifS (andT (boolOf (bin2 eqV (rd 3) (cst (.str "best")))) (andT (boolOf (bin2 gtV (bin2 ixV (rd 6) (rd 7)) (cst (.int 0)))) (boolOf (bin2 eqV (bin2 ixV (rd 6) (rd 7)) (callN maxV (aCons (rd 6) aNil))))))
    (apS 4 (pthN 4) (tupD (aCons (rd 5) (aCons (rd 7) aNil))))
    nilS)))))
def S6 (f : Bool) (l : List Int) : Slot := if f then .own 0 (zs l) else .val (.lst (zs l))
abbrev lmE (s0 s1 : Slot) (cs : List Nat) (rule : Str) (p : Nat) (gl : List Int) (acc : List PV) (j : Bool × Slot) : Pv.Env := [s0, s1, .val (.tup (zn cs)), .val (.str rule), .own 0 acc, .val (.int (p : Int)), S6 j.1 gl, j.2]
theorem lm_ix (s0 s1 : Slot) (cs : List Nat) (rule : Str) (p : Nat) (gl : List Int) (acc : List PV) (f : Bool) (c : Nat) {x : Int} (h : gl[c]? = some x) : bin2 ixV (rd 6) (rd 7) (lmE s0 s1 cs rule p gl acc (f, .val (.int (c : Int)))) = .ok (.val (.int x)) := by
  have ha := at_zs h
  cases f with
  | true =>
    show bin2 ixV (rd 6) (rd 7) [s0, s1, .val (.tup (zn cs)), .val (.str rule), .own 0 acc, .val (.int (p : Int)), .own 0 (zs gl), .val (.int (c : Int))] = _
    simp only [seqS_ap, nilS_ap, brkS_ap, contS_ap, badS_ap, raiseS_ap, frS_ap, setS_ap, dropS_ap, retS_ap, ifS_ap, asg_val, asg_new, asg_bor, retR_val, retR_new, rd_ap, retOwn_ap, cst_ap, bin2_ap, un1_ap, callN_ap, callF_ap, fldE_ap, aNil_ap, aCons_ap, tupD_ap, lstD_ap, nilD_ap, walkOf_ap, walkR1_ap, walkR2_ap, walkZ_ap, walkE_ap, walkV_ap, tupRevV_ap, andT_ap, orT_ap, notT_ap, boolOf_ap, boolR_bl, andV_ap, orV_ap, notE_ap, ifV_ap, chn_ap, noB_ap, intB_ap, sl3_ap, forS_ap, lcV_ap, yesT_ap, stD_val, stD_new0, stAll_nil, stAll_cons, stR_val, stR_new, argR_val, argR_new, argR_bor, argR_lend, addV_int, subV_int, negV_int, ltV_int, leV_int, gtV_int, geV_int, eqV_int, neV_int, eqV_str, neV_str, intV_int, absV_int, max2_int, min2_int, lenV_tup, lenV_lst, lenV_scr, lenV_lend, R.ok_bind, slotOf, List.map_cons, List.map_nil, List.length_cons, List.length_nil, List.cons_append, List.nil_append, List.append_nil, List.replicate, List.getElem?_cons_succ, List.getElem?_cons_zero, Res.items, List.set_cons_succ, List.set_cons_zero, Nat.reduceAdd, Nat.reduceSub, Res.pv, ixV_lend0, ha]
  | false =>
    show bin2 ixV (rd 6) (rd 7) [s0, s1, .val (.tup (zn cs)), .val (.str rule), .own 0 acc, .val (.int (p : Int)), .val (.lst (zs gl)), .val (.int (c : Int))] = _
    simp only [seqS_ap, nilS_ap, brkS_ap, contS_ap, badS_ap, raiseS_ap, frS_ap, setS_ap, dropS_ap, retS_ap, ifS_ap, asg_val, asg_new, asg_bor, retR_val, retR_new, rd_ap, retOwn_ap, cst_ap, bin2_ap, un1_ap, callN_ap, callF_ap, fldE_ap, aNil_ap, aCons_ap, tupD_ap, lstD_ap, nilD_ap, walkOf_ap, walkR1_ap, walkR2_ap, walkZ_ap, walkE_ap, walkV_ap, tupRevV_ap, andT_ap, orT_ap, notT_ap, boolOf_ap, boolR_bl, andV_ap, orV_ap, notE_ap, ifV_ap, chn_ap, noB_ap, intB_ap, sl3_ap, forS_ap, lcV_ap, yesT_ap, stD_val, stD_new0, stAll_nil, stAll_cons, stR_val, stR_new, argR_val, argR_new, argR_bor, argR_lend, addV_int, subV_int, negV_int, ltV_int, leV_int, gtV_int, geV_int, eqV_int, neV_int, eqV_str, neV_str, intV_int, absV_int, max2_int, min2_int, lenV_tup, lenV_lst, lenV_scr, lenV_lend, R.ok_bind, slotOf, List.map_cons, List.map_nil, List.length_cons, List.length_nil, List.cons_append, List.nil_append, List.append_nil, List.replicate, List.getElem?_cons_succ, List.getElem?_cons_zero, Res.items, List.set_cons_succ, List.set_cons_zero, Nat.reduceAdd, Nat.reduceSub, Res.pv, ixV_lst, ha]
theorem lm_app (s0 s1 : Slot) (cs : List Nat) (rule : Str) (p : Nat) (gl : List Int) (acc : List PV) (f : Bool) (c : Nat) (hl : acc.length + 1 ≤ 10000) : apS 4 (pthN 4) (tupD (aCons (rd 5) (aCons (rd 7) aNil))) (lmE s0 s1 cs rule p gl acc (f, .val (.int (c : Int)))) = .next (lmE s0 s1 cs rule p gl (acc ++ [.tup [.int (p : Int), .int (c : Int)]]) (f, .val (.int (c : Int)))) := by
  have e2 : tupD (aCons (rd 5) (aCons (rd 7) aNil)) (lmE s0 s1 cs rule p gl acc (f, .val (.int (c : Int)))) = .ok (.val (.tup [.int (p : Int), .int (c : Int)])) := tup_val (rs := [.val (.int (p : Int)), .val (.int (c : Int))]) (by rfl) (by rfl) (by show 2 ≤ 100000; decide)
  rw [apS_own (n := 0) (xs := acc) (by rfl) e2 (by rfl) (line_lt (by omega))]; rfl
theorem lm_step {ss : List Nat} {rs : List (List Int)} {cs : List Nat} {p : Nat} {r : List Int} {s t d : Nat} (A : At ss rs cs p r s t d) {rule : Str} {e b bt : Bool} (Ru : Rule rule e b bt) (s0 s1 : Slot) (c : Nat) (acc : List PV) (j : Bool × Slot) (hc : c < s) (hl : acc.length + (lwI e b ss rs cs p c).length ≤ 10000) :
    ∃ ρ1 j', asg 7 (.val (.int (c : Int))) (lmE s0 s1 cs rule p ((List.range s).map (Gp ss rs cs p)) acc j) = .next ρ1 ∧
      (lm_in ρ1 = .next (lmE s0 s1 cs rule p ((List.range s).map (Gp ss rs cs p)) (acc ++ lwI e b ss rs cs p c) j') ∨ lm_in ρ1 = .cont (lmE s0 s1 cs rule p ((List.range s).map (Gp ss rs cs p)) (acc ++ lwI e b ss rs cs p c) j')) := by
  obtain ⟨f, j2⟩ := j
  have hdp : dp cs p = d := getD_some A.hd
  have hsp : sp ss p = s := getD_some A.hs
  have hd2 : atI (zn cs) (p : Int) = some (.int (d : Int)) := at_zn A.hd
  have hg : ((List.range s).map (Gp ss rs cs p))[c]? = some (Gp ss rs cs p c) := by rw [List.getElem?_map, List.getElem?_range hc]; rfl
  have hne : (List.range s).map (Gp ss rs cs p) ≠ [] := range_ne A.s5.1
  have hmx : mxL ((List.range s).map (Gp ss rs cs p)) = mxP ss rs cs p - Vp ss rs cs p d := by
    unfold mxP
    rw [hsp, ← mxL_sub _ _ (range_ne A.s5.1), List.map_map]
    unfold Gp
    rw [hdp]; rfl
  have hle : Vp ss rs cs p c ≤ mxP ss rs cs p := by unfold mxP; rw [hsp]; exact mxL_ge (List.mem_map.mpr ⟨c, List.mem_range.mpr hc, rfl⟩)
  have hGc : Gp ss rs cs p c = Vp ss rs cs p c - Vp ss rs cs p d := by unfold Gp; rw [hdp]
  refine ⟨lmE s0 s1 cs rule p ((List.range s).map (Gp ss rs cs p)) acc (f, .val (.int (c : Int))), ?_⟩
  by_cases hcd : c = d
  · have hz : (c : Int) = (d : Int) := by rw [hcd]
    have hL : lwI e b ss rs cs p c = [] := by
      unfold lwI arI kpA
      rw [hdp, decide_eq_true hz]; rfl
    refine ⟨(f, .val (.int (c : Int))), rfl, .inr ?_⟩
    rw [hL, List.append_nil]
    unfold lm_in
    rw [seqS_ap, show ifS (boolOf (bin2 eqV (rd 7) (bin2 ixV (rd 2) (rd 5)))) contS nilS (lmE s0 s1 cs rule p ((List.range s).map (Gp ss rs cs p)) acc (f, .val (.int (c : Int)))) = .cont (lmE s0 s1 cs rule p ((List.range s).map (Gp ss rs cs p)) acc (f, .val (.int (c : Int)))) by
      simp only [lmE, seqS_ap, nilS_ap, brkS_ap, contS_ap, badS_ap, raiseS_ap, frS_ap, setS_ap, dropS_ap, retS_ap, ifS_ap, asg_val, asg_new, asg_bor, retR_val, retR_new, rd_ap, retOwn_ap, cst_ap, bin2_ap, un1_ap, callN_ap, callF_ap, fldE_ap, aNil_ap, aCons_ap, tupD_ap, lstD_ap, nilD_ap, walkOf_ap, walkR1_ap, walkR2_ap, walkZ_ap, walkE_ap, walkV_ap, tupRevV_ap, andT_ap, orT_ap, notT_ap, boolOf_ap, boolR_bl, andV_ap, orV_ap, notE_ap, ifV_ap, chn_ap, noB_ap, intB_ap, sl3_ap, forS_ap, lcV_ap, yesT_ap, stD_val, stD_new0, stAll_nil, stAll_cons, stR_val, stR_new, argR_val, argR_new, argR_bor, argR_lend, addV_int, subV_int, negV_int, ltV_int, leV_int, gtV_int, geV_int, eqV_int, neV_int, eqV_str, neV_str, intV_int, absV_int, max2_int, min2_int, lenV_tup, lenV_lst, lenV_scr, lenV_lend, R.ok_bind, slotOf, List.map_cons, List.map_nil, List.length_cons, List.length_nil, List.cons_append, List.nil_append, List.append_nil, List.replicate, List.getElem?_cons_succ, List.getElem?_cons_zero, Res.items, List.set_cons_succ, List.set_cons_zero, Nat.reduceAdd, Nat.reduceSub, Res.pv, ixV_tup, hd2, decide_eq_true hz, if_true]]
  · have hz : ¬ (c : Int) = (d : Int) := by omega
    refine ⟨(false, .val (.int (c : Int))), rfl, .inl ?_⟩
    unfold lm_in
    rw [seqS_next (ρ' := lmE s0 s1 cs rule p ((List.range s).map (Gp ss rs cs p)) acc (f, .val (.int (c : Int)))) (by simp only [lmE, seqS_ap, nilS_ap, brkS_ap, contS_ap, badS_ap, raiseS_ap, frS_ap, setS_ap, dropS_ap, retS_ap, ifS_ap, asg_val, asg_new, asg_bor, retR_val, retR_new, rd_ap, retOwn_ap, cst_ap, bin2_ap, un1_ap, callN_ap, callF_ap, fldE_ap, aNil_ap, aCons_ap, tupD_ap, lstD_ap, nilD_ap, walkOf_ap, walkR1_ap, walkR2_ap, walkZ_ap, walkE_ap, walkV_ap, tupRevV_ap, andT_ap, orT_ap, notT_ap, boolOf_ap, boolR_bl, andV_ap, orV_ap, notE_ap, ifV_ap, chn_ap, noB_ap, intB_ap, sl3_ap, forS_ap, lcV_ap, yesT_ap, stD_val, stD_new0, stAll_nil, stAll_cons, stR_val, stR_new, argR_val, argR_new, argR_bor, argR_lend, addV_int, subV_int, negV_int, ltV_int, leV_int, gtV_int, geV_int, eqV_int, neV_int, eqV_str, neV_str, intV_int, absV_int, max2_int, min2_int, lenV_tup, lenV_lst, lenV_scr, lenV_lend, R.ok_bind, slotOf, List.map_cons, List.map_nil, List.length_cons, List.length_nil, List.cons_append, List.nil_append, List.append_nil, List.replicate, List.getElem?_cons_succ, List.getElem?_cons_zero, Res.items, List.set_cons_succ, List.set_cons_zero, Nat.reduceAdd, Nat.reduceSub, Res.pv, ixV_tup, hd2, decide_eq_false hz, Bool.false_eq_true, if_false])]
    have ee := Ru.e
    have hT : mvF (arT ss rs cs p c) = .tup [.int (p : Int), .int (c : Int)] := rfl
    have i1 : ∀ (nm : Str) (acc : List PV) (te : VE) (x : Bool), decide (rule = nm) = false → ifS (andT (boolOf (bin2 eqV (rd 3) (cst (.str nm)))) (boolOf te)) (apS 4 (pthN 4) (tupD (aCons (rd 5) (aCons (rd 7) aNil)))) nilS (lmE s0 s1 cs rule p ((List.range s).map (Gp ss rs cs p)) acc (f, .val (.int (c : Int)))) = .next (lmE s0 s1 cs rule p ((List.range s).map (Gp ss rs cs p)) acc (f, .val (.int (c : Int)))) := fun nm acc te x hn => by
      simp only [lmE, seqS_ap, nilS_ap, brkS_ap, contS_ap, badS_ap, raiseS_ap, frS_ap, setS_ap, dropS_ap, retS_ap, ifS_ap, asg_val, asg_new, asg_bor, retR_val, retR_new, rd_ap, retOwn_ap, cst_ap, bin2_ap, un1_ap, callN_ap, callF_ap, fldE_ap, aNil_ap, aCons_ap, tupD_ap, lstD_ap, nilD_ap, walkOf_ap, walkR1_ap, walkR2_ap, walkZ_ap, walkE_ap, walkV_ap, tupRevV_ap, andT_ap, orT_ap, notT_ap, boolOf_ap, boolR_bl, andV_ap, orV_ap, notE_ap, ifV_ap, chn_ap, noB_ap, intB_ap, sl3_ap, forS_ap, lcV_ap, yesT_ap, stD_val, stD_new0, stAll_nil, stAll_cons, stR_val, stR_new, argR_val, argR_new, argR_bor, argR_lend, addV_int, subV_int, negV_int, ltV_int, leV_int, gtV_int, geV_int, eqV_int, neV_int, eqV_str, neV_str, intV_int, absV_int, max2_int, min2_int, lenV_tup, lenV_lst, lenV_scr, lenV_lend, R.ok_bind, slotOf, List.map_cons, List.map_nil, List.length_cons, List.length_nil, List.cons_append, List.nil_append, List.append_nil, List.replicate, List.getElem?_cons_succ, List.getElem?_cons_zero, Res.items, List.set_cons_succ, List.set_cons_zero, Nat.reduceAdd, Nat.reduceSub, Res.pv, hn, Bool.false_eq_true, if_false]
    have i2 : ∀ (nm : Str) (acc : List PV) (te : VE) (x : Bool), decide (rule = nm) = true → te (lmE s0 s1 cs rule p ((List.range s).map (Gp ss rs cs p)) acc (f, .val (.int (c : Int)))) = .ok (.val (.bl x)) → ifS (andT (boolOf (bin2 eqV (rd 3) (cst (.str nm)))) (boolOf te)) (apS 4 (pthN 4) (tupD (aCons (rd 5) (aCons (rd 7) aNil)))) nilS (lmE s0 s1 cs rule p ((List.range s).map (Gp ss rs cs p)) acc (f, .val (.int (c : Int)))) = (if x = true then apS 4 (pthN 4) (tupD (aCons (rd 5) (aCons (rd 7) aNil))) (lmE s0 s1 cs rule p ((List.range s).map (Gp ss rs cs p)) acc (f, .val (.int (c : Int)))) else .next (lmE s0 s1 cs rule p ((List.range s).map (Gp ss rs cs p)) acc (f, .val (.int (c : Int))))) := fun nm acc te x hn ht => by
      have q : boolOf (bin2 eqV (rd 3) (cst (.str nm))) (lmE s0 s1 cs rule p ((List.range s).map (Gp ss rs cs p)) acc (f, .val (.int (c : Int)))) = .ok true := by simp only [lmE, seqS_ap, nilS_ap, brkS_ap, contS_ap, badS_ap, raiseS_ap, frS_ap, setS_ap, dropS_ap, retS_ap, ifS_ap, asg_val, asg_new, asg_bor, retR_val, retR_new, rd_ap, retOwn_ap, cst_ap, bin2_ap, un1_ap, callN_ap, callF_ap, fldE_ap, aNil_ap, aCons_ap, tupD_ap, lstD_ap, nilD_ap, walkOf_ap, walkR1_ap, walkR2_ap, walkZ_ap, walkE_ap, walkV_ap, tupRevV_ap, andT_ap, orT_ap, notT_ap, boolOf_ap, boolR_bl, andV_ap, orV_ap, notE_ap, ifV_ap, chn_ap, noB_ap, intB_ap, sl3_ap, forS_ap, lcV_ap, yesT_ap, stD_val, stD_new0, stAll_nil, stAll_cons, stR_val, stR_new, argR_val, argR_new, argR_bor, argR_lend, addV_int, subV_int, negV_int, ltV_int, leV_int, gtV_int, geV_int, eqV_int, neV_int, eqV_str, neV_str, intV_int, absV_int, max2_int, min2_int, lenV_tup, lenV_lst, lenV_scr, lenV_lend, R.ok_bind, slotOf, List.map_cons, List.map_nil, List.length_cons, List.length_nil, List.cons_append, List.nil_append, List.append_nil, List.replicate, List.getElem?_cons_succ, List.getElem?_cons_zero, Res.items, List.set_cons_succ, List.set_cons_zero, Nat.reduceAdd, Nat.reduceSub, Res.pv, hn]
      rw [ifS_ap, andT_ap, q, R.ok_bind, if_pos rfl, boolOf_ap, ht, R.ok_bind, boolR_bl]; cases x <;> rfl
    have fr : ∀ acc : List PV, frE 6 (lmE s0 s1 cs rule p ((List.range s).map (Gp ss rs cs p)) acc (f, .val (.int (c : Int)))) = lmE s0 s1 cs rule p ((List.range s).map (Gp ss rs cs p)) acc (false, .val (.int (c : Int))) := fun acc => by cases f <;> rfl
    have i3 : ∀ acc : List PV, decide (rule = "best") = false → frS 6 (ifS (andT (boolOf (bin2 eqV (rd 3) (cst (.str "best")))) (andT (boolOf (bin2 gtV (bin2 ixV (rd 6) (rd 7)) (cst (.int 0)))) (boolOf (bin2 eqV (bin2 ixV (rd 6) (rd 7)) (callN maxV (aCons (rd 6) aNil)))))) (apS 4 (pthN 4) (tupD (aCons (rd 5) (aCons (rd 7) aNil)))) nilS) (lmE s0 s1 cs rule p ((List.range s).map (Gp ss rs cs p)) acc (f, .val (.int (c : Int)))) = .next (lmE s0 s1 cs rule p ((List.range s).map (Gp ss rs cs p)) acc (false, .val (.int (c : Int)))) := fun acc hn => by
      rw [frS_ap, fr]
      simp only [lmE, seqS_ap, nilS_ap, brkS_ap, contS_ap, badS_ap, raiseS_ap, frS_ap, setS_ap, dropS_ap, retS_ap, ifS_ap, asg_val, asg_new, asg_bor, retR_val, retR_new, rd_ap, retOwn_ap, cst_ap, bin2_ap, un1_ap, callN_ap, callF_ap, fldE_ap, aNil_ap, aCons_ap, tupD_ap, lstD_ap, nilD_ap, walkOf_ap, walkR1_ap, walkR2_ap, walkZ_ap, walkE_ap, walkV_ap, tupRevV_ap, andT_ap, orT_ap, notT_ap, boolOf_ap, boolR_bl, andV_ap, orV_ap, notE_ap, ifV_ap, chn_ap, noB_ap, intB_ap, sl3_ap, forS_ap, lcV_ap, yesT_ap, stD_val, stD_new0, stAll_nil, stAll_cons, stR_val, stR_new, argR_val, argR_new, argR_bor, argR_lend, addV_int, subV_int, negV_int, ltV_int, leV_int, gtV_int, geV_int, eqV_int, neV_int, eqV_str, neV_str, intV_int, absV_int, max2_int, min2_int, lenV_tup, lenV_lst, lenV_scr, lenV_lend, R.ok_bind, slotOf, List.map_cons, List.map_nil, List.length_cons, List.length_nil, List.cons_append, List.nil_append, List.append_nil, List.replicate, List.getElem?_cons_succ, List.getElem?_cons_zero, Res.items, List.set_cons_succ, List.set_cons_zero, Nat.reduceAdd, Nat.reduceSub, Res.pv, hn, Bool.false_eq_true, if_false]
    cases Ru with
    | even h =>
      obtain ⟨e1, e2, e3⟩ := ee
      rw [seqS_next (ρ' := lmE s0 s1 cs rule p ((List.range s).map (Gp ss rs cs p)) (acc ++ lwI true false ss rs cs p c) (f, .val (.int (c : Int)))) (by
        rw [i2 "even" acc _ (decide (Gp ss rs cs p c ≥ 0)) e1 (by rw [bin2_ap, lm_ix _ _ _ _ _ _ _ _ _ hg, R.ok_bind, cst_ap, R.ok_bind, geV_int])]
        have hk : kpA true false ss rs cs p c = decide (Gp ss rs cs p c ≥ 0) := by
          unfold kpA
          rw [hdp, decide_eq_false hz, hGc]
          by_cases q : Vp ss rs cs p c < Vp ss rs cs p d
          · rw [decide_eq_true q, decide_eq_false (show ¬ Vp ss rs cs p c - Vp ss rs cs p d ≥ 0 by omega)]; rfl
          · rw [decide_eq_false q, decide_eq_true (show Vp ss rs cs p c - Vp ss rs cs p d ≥ 0 by omega)]; rfl
        unfold lwI arI
        unfold lwI arI at hl
        rw [hk]
        rw [hk] at hl
        cases hq : decide (Gp ss rs cs p c ≥ 0) with
        | true => rw [hq] at hl; rw [if_pos rfl, if_pos rfl, lm_app _ _ _ _ _ _ _ _ _ (by simpa using hl)]; rfl
        | false => rw [if_neg Bool.false_ne_true, if_neg Bool.false_ne_true, List.map_nil, List.append_nil]), seqS_next (i1 "better" _ _ true e2), i3 _ e3]
    | better h =>
      obtain ⟨e1, e2, e3⟩ := ee
      rw [seqS_next (i1 "even" _ _ true e1)]
      rw [seqS_next (ρ' := lmE s0 s1 cs rule p ((List.range s).map (Gp ss rs cs p)) (acc ++ lwI false true ss rs cs p c) (f, .val (.int (c : Int)))) (by
        rw [i2 "better" acc _ (decide (Gp ss rs cs p c > 0)) e2 (by rw [bin2_ap, lm_ix _ _ _ _ _ _ _ _ _ hg, R.ok_bind, cst_ap, R.ok_bind, gtV_int])]
        have hk : kpA false true ss rs cs p c = decide (Gp ss rs cs p c > 0) := by
          unfold kpA
          rw [hdp, decide_eq_false hz, hGc]
          by_cases q : Vp ss rs cs p c > Vp ss rs cs p d
          · rw [decide_eq_true q, decide_eq_false (show ¬ Vp ss rs cs p c < Vp ss rs cs p d by omega), decide_eq_true (show Vp ss rs cs p c - Vp ss rs cs p d > 0 by omega)]; rfl
          · rw [decide_eq_false q, decide_eq_false (show ¬ Vp ss rs cs p c - Vp ss rs cs p d > 0 by omega)]; simp
        unfold lwI arI
        unfold lwI arI at hl
        rw [hk]
        rw [hk] at hl
        cases hq : decide (Gp ss rs cs p c > 0) with
        | true => rw [hq] at hl; rw [if_pos rfl, if_pos rfl, lm_app _ _ _ _ _ _ _ _ _ (by simpa using hl)]; rfl
        | false => rw [if_neg Bool.false_ne_true, if_neg Bool.false_ne_true, List.map_nil, List.append_nil]), i3 _ e3]
    | best h =>
      obtain ⟨e1, e2, e3⟩ := ee
      rw [seqS_next (i1 "even" _ _ true e1), seqS_next (i1 "better" _ _ true e2), frS_ap, fr]
      have hk : kpA false false ss rs cs p c = (decide (Gp ss rs cs p c > 0) && decide (Gp ss rs cs p c = mxL ((List.range s).map (Gp ss rs cs p)))) := by
        unfold kpA
        rw [hdp, decide_eq_false hz, hmx, hGc]
        by_cases q : Vp ss rs cs p c > Vp ss rs cs p d
        · rw [decide_eq_true q, decide_eq_false (show ¬ Vp ss rs cs p c < Vp ss rs cs p d by omega), decide_eq_true (show Vp ss rs cs p c - Vp ss rs cs p d > 0 by omega)]
          by_cases q2 : Vp ss rs cs p c = mxP ss rs cs p
          · rw [decide_eq_true q2, decide_eq_true (show Vp ss rs cs p c - Vp ss rs cs p d = mxP ss rs cs p - Vp ss rs cs p d by omega)]; rfl
          · rw [decide_eq_false q2, decide_eq_false (show ¬ Vp ss rs cs p c - Vp ss rs cs p d = mxP ss rs cs p - Vp ss rs cs p d by omega)]; rfl
        · rw [decide_eq_false q, decide_eq_false (show ¬ Vp ss rs cs p c - Vp ss rs cs p d > 0 by omega)]; simp
      have ix2 := lm_ix s0 s1 cs rule p ((List.range s).map (Gp ss rs cs p)) acc false c hg
      have mx2 : callN maxV (aCons (rd 6) aNil) (lmE s0 s1 cs rule p ((List.range s).map (Gp ss rs cs p)) acc (false, .val (.int (c : Int)))) = .ok (.val (.int (mxL ((List.range s).map (Gp ss rs cs p))))) := by
        show callN maxV (aCons (rd 6) aNil) [s0, s1, .val (.tup (zn cs)), .val (.str rule), .own 0 acc, .val (.int (p : Int)), .val (.lst (zs ((List.range s).map (Gp ss rs cs p)))), .val (.int (c : Int))] = _
        simp only [seqS_ap, nilS_ap, brkS_ap, contS_ap, badS_ap, raiseS_ap, frS_ap, setS_ap, dropS_ap, retS_ap, ifS_ap, asg_val, asg_new, asg_bor, retR_val, retR_new, rd_ap, retOwn_ap, cst_ap, bin2_ap, un1_ap, callN_ap, callF_ap, fldE_ap, aNil_ap, aCons_ap, tupD_ap, lstD_ap, nilD_ap, walkOf_ap, walkR1_ap, walkR2_ap, walkZ_ap, walkE_ap, walkV_ap, tupRevV_ap, andT_ap, orT_ap, notT_ap, boolOf_ap, boolR_bl, andV_ap, orV_ap, notE_ap, ifV_ap, chn_ap, noB_ap, intB_ap, sl3_ap, forS_ap, lcV_ap, yesT_ap, stD_val, stD_new0, stAll_nil, stAll_cons, stR_val, stR_new, argR_val, argR_new, argR_bor, argR_lend, addV_int, subV_int, negV_int, ltV_int, leV_int, gtV_int, geV_int, eqV_int, neV_int, eqV_str, neV_str, intV_int, absV_int, max2_int, min2_int, lenV_tup, lenV_lst, lenV_scr, lenV_lend, R.ok_bind, slotOf, List.map_cons, List.map_nil, List.length_cons, List.length_nil, List.cons_append, List.nil_append, List.append_nil, List.replicate, List.getElem?_cons_succ, List.getElem?_cons_zero, Res.items, List.set_cons_succ, List.set_cons_zero, Nat.reduceAdd, Nat.reduceSub, Res.pv, maxV_lst hne]
      have q : boolOf (bin2 eqV (rd 3) (cst (.str "best"))) (lmE s0 s1 cs rule p ((List.range s).map (Gp ss rs cs p)) acc (false, .val (.int (c : Int)))) = .ok true := by simp only [lmE, seqS_ap, nilS_ap, brkS_ap, contS_ap, badS_ap, raiseS_ap, frS_ap, setS_ap, dropS_ap, retS_ap, ifS_ap, asg_val, asg_new, asg_bor, retR_val, retR_new, rd_ap, retOwn_ap, cst_ap, bin2_ap, un1_ap, callN_ap, callF_ap, fldE_ap, aNil_ap, aCons_ap, tupD_ap, lstD_ap, nilD_ap, walkOf_ap, walkR1_ap, walkR2_ap, walkZ_ap, walkE_ap, walkV_ap, tupRevV_ap, andT_ap, orT_ap, notT_ap, boolOf_ap, boolR_bl, andV_ap, orV_ap, notE_ap, ifV_ap, chn_ap, noB_ap, intB_ap, sl3_ap, forS_ap, lcV_ap, yesT_ap, stD_val, stD_new0, stAll_nil, stAll_cons, stR_val, stR_new, argR_val, argR_new, argR_bor, argR_lend, addV_int, subV_int, negV_int, ltV_int, leV_int, gtV_int, geV_int, eqV_int, neV_int, eqV_str, neV_str, intV_int, absV_int, max2_int, min2_int, lenV_tup, lenV_lst, lenV_scr, lenV_lend, R.ok_bind, slotOf, List.map_cons, List.map_nil, List.length_cons, List.length_nil, List.cons_append, List.nil_append, List.append_nil, List.replicate, List.getElem?_cons_succ, List.getElem?_cons_zero, Res.items, List.set_cons_succ, List.set_cons_zero, Nat.reduceAdd, Nat.reduceSub, Res.pv, e3]
      rw [ifS_ap, andT_ap, q, R.ok_bind, if_pos rfl, andT_ap, boolOf_ap, bin2_ap, ix2, R.ok_bind, cst_ap, R.ok_bind, gtV_int, R.ok_bind, boolR_bl, R.ok_bind, boolOf_ap, bin2_ap, ix2, R.ok_bind, mx2, R.ok_bind, eqV_int, R.ok_bind, boolR_bl]
      unfold lwI arI
      unfold lwI arI at hl
      rw [hk]
      rw [hk] at hl
      cases hq : decide (Gp ss rs cs p c > 0) with
      | false =>
        simp only [Bool.false_and, Bool.false_eq_true, if_false, List.map_nil, List.append_nil, nilS_ap]
      | true =>
        rw [hq] at hl
        simp only [Bool.true_and, if_true]
        simp only [Bool.true_and] at hl
        cases hq2 : decide (Gp ss rs cs p c = mxL ((List.range s).map (Gp ss rs cs p))) with
        | false => simp only [Bool.false_eq_true, if_false, List.map_nil, List.append_nil, nilS_ap]
        | true =>
          rw [hq2] at hl
          simp only [if_true]
          rw [lm_app _ _ _ _ _ _ _ _ _ (by simpa using hl)]; rfl
end
end K88
namespace K88
open PySem PySem.Spec L2 Pv Mz
noncomputable section
abbrev lm_body : VS := (seqS (setS 6 (lcV 0 (walkR1 (bin2 ixV (rd 0) (rd 5))) (asg 7) yesT (callF f_law_gain [] (aCons (rd 0) (aCons (rd 1) (aCons (rd 2) (aCons (rd 5) (aCons (rd 7) aNil)))))) [7]))
    (forS (walkR1 (bin2 ixV (rd 0) (rd 5))) (asg 7) lm_in))
theorem lwP_small {e b : Bool} {ss : List Nat} {rs : List (List Int)} {cs : List Nat} (h : Sizes ss) : (mvL e b ss rs cs).length ≤ 100 := by
  unfold mvL; rw [List.length_map]; exact arcs_small h
theorem lm_person {ss : List Nat} {rs : List (List Int)} {cs : List Nat} (G : GOk ss rs) (ok : Ok ss cs) {rule : Str} {e b bt : Bool} (Ru : Rule rule e b bt) (p : Nat) (hp : p < ss.length) (acc : List PV) (j : Slot × Slot × Slot) (hl : acc.length + (lwP e b ss rs cs p).length ≤ 10000) :
    ∃ ρ1 j', asg 5 (.val (.int (p : Int))) [.val (.lst (zn ss)), .val (.lst (rlst rs)), .val (.tup (zn cs)), .val (.str rule), .own 0 acc, j.1, j.2.1, j.2.2] = .next ρ1 ∧
      (lm_body ρ1 = .next ((fun (acc : List PV) (j : Slot × Slot × Slot) => [.val (.lst (zn ss)), .val (.lst (rlst rs)), .val (.tup (zn cs)), .val (.str rule), .own 0 acc, j.1, j.2.1, j.2.2]) (acc ++ lwP e b ss rs cs p) j') ∨
       lm_body ρ1 = .cont ((fun (acc : List PV) (j : Slot × Slot × Slot) => [.val (.lst (zn ss)), .val (.lst (rlst rs)), .val (.tup (zn cs)), .val (.str rule), .own 0 acc, j.1, j.2.1, j.2.2]) (acc ++ lwP e b ss rs cs p) j')) := by
  obtain ⟨r, s, t, d, A⟩ := G.at ok hp
  have hsp : sp ss p = s := getD_some A.hs
  have hs5 := A.s5
  have hss : atI (zn ss) (p : Int) = some (.int (s : Int)) := at_zn A.hs
  have hPe : lwP e b ss rs cs p = (List.range' 0 s).flatMap (lwI e b ss rs cs p) := by unfold lwP; rw [hsp]
  obtain ⟨j', hj⟩ := app_loop (fun (k : Nat) => Res.val (.int (k : Int))) (lmE (.val (.lst (zn ss))) (.val (.lst (rlst rs))) cs rule p ((List.range s).map (Gp ss rs cs p))) (lwI e b ss rs cs p) s
    (fun c acc j hc hl => lm_step A Ru _ _ c acc j hc hl) s 0 acc (true, j.2.2) (by omega) (by rw [← hPe]; exact hl)
  refine ⟨[.val (.lst (zn ss)), .val (.lst (rlst rs)), .val (.tup (zn cs)), .val (.str rule), .own 0 acc, .val (.int (p : Int)), j.2.1, j.2.2], (.val (.int (p : Int)), S6 j'.1 ((List.range s).map (Gp ss rs cs p)), j'.2), rfl, .inl ?_⟩
  have hlc : lcV 0 (walkR1 (bin2 ixV (rd 0) (rd 5))) (asg 7) yesT (callF f_law_gain [] (aCons (rd 0) (aCons (rd 1) (aCons (rd 2) (aCons (rd 5) (aCons (rd 7) aNil)))))) [7] [.val (.lst (zn ss)), .val (.lst (rlst rs)), .val (.tup (zn cs)), .val (.str rule), .own 0 acc, .val (.int (p : Int)), j.2.1, j.2.2] = .ok (.new 0 (zs ((List.range s).map (Gp ss rs cs p)))) := by
    refine lc_range (s := s) (Gp ss rs cs p) (by simp only [seqS_ap, nilS_ap, brkS_ap, contS_ap, badS_ap, raiseS_ap, frS_ap, setS_ap, dropS_ap, retS_ap, ifS_ap, asg_val, asg_new, asg_bor, retR_val, retR_new, rd_ap, retOwn_ap, cst_ap, bin2_ap, un1_ap, callN_ap, callF_ap, fldE_ap, aNil_ap, aCons_ap, tupD_ap, lstD_ap, nilD_ap, walkOf_ap, walkR1_ap, walkR2_ap, walkZ_ap, walkE_ap, walkV_ap, tupRevV_ap, andT_ap, orT_ap, notT_ap, boolOf_ap, boolR_bl, andV_ap, orV_ap, notE_ap, ifV_ap, chn_ap, noB_ap, intB_ap, sl3_ap, forS_ap, lcV_ap, yesT_ap, stD_val, stD_new0, stAll_nil, stAll_cons, stR_val, stR_new, argR_val, argR_new, argR_bor, argR_lend, addV_int, subV_int, negV_int, ltV_int, leV_int, gtV_int, geV_int, eqV_int, neV_int, eqV_str, neV_str, intV_int, absV_int, max2_int, min2_int, lenV_tup, lenV_lst, lenV_scr, lenV_lend, R.ok_bind, slotOf, List.map_cons, List.map_nil, List.length_cons, List.length_nil, List.cons_append, List.nil_append, List.append_nil, List.replicate, List.getElem?_cons_succ, List.getElem?_cons_zero, Res.items, List.set_cons_succ, List.set_cons_zero, Nat.reduceAdd, Nat.reduceSub, Res.pv, ixV_lst, hss]) (by omega) fun c hc => ?_
    show callF f_law_gain [] (aCons (rd 0) (aCons (rd 1) (aCons (rd 2) (aCons (rd 5) (aCons (rd 7) aNil))))) [.val (.lst (zn ss)), .val (.lst (rlst rs)), .val (.tup (zn cs)), .val (.str rule), .own 0 acc, .val (.int (p : Int)), j.2.1, .val (.int (c : Int))] = _
    simp only [seqS_ap, nilS_ap, brkS_ap, contS_ap, badS_ap, raiseS_ap, frS_ap, setS_ap, dropS_ap, retS_ap, ifS_ap, asg_val, asg_new, asg_bor, retR_val, retR_new, rd_ap, retOwn_ap, cst_ap, bin2_ap, un1_ap, callN_ap, callF_ap, fldE_ap, aNil_ap, aCons_ap, tupD_ap, lstD_ap, nilD_ap, walkOf_ap, walkR1_ap, walkR2_ap, walkZ_ap, walkE_ap, walkV_ap, tupRevV_ap, andT_ap, orT_ap, notT_ap, boolOf_ap, boolR_bl, andV_ap, orV_ap, notE_ap, ifV_ap, chn_ap, noB_ap, intB_ap, sl3_ap, forS_ap, lcV_ap, yesT_ap, stD_val, stD_new0, stAll_nil, stAll_cons, stR_val, stR_new, argR_val, argR_new, argR_bor, argR_lend, addV_int, subV_int, negV_int, ltV_int, leV_int, gtV_int, geV_int, eqV_int, neV_int, eqV_str, neV_str, intV_int, absV_int, max2_int, min2_int, lenV_tup, lenV_lst, lenV_scr, lenV_lend, R.ok_bind, slotOf, List.map_cons, List.map_nil, List.length_cons, List.length_nil, List.cons_append, List.nil_append, List.append_nil, List.replicate, List.getElem?_cons_succ, List.getElem?_cons_zero, Res.items, List.set_cons_succ, List.set_cons_zero, Nat.reduceAdd, Nat.reduceSub, Res.pv, v_law_gain G ok p c hp (by rw [hsp]; exact hc)]
  unfold lm_body
  rw [seqS_next (ρ' := lmE (.val (.lst (zn ss))) (.val (.lst (rlst rs))) cs rule p ((List.range s).map (Gp ss rs cs p)) acc (true, j.2.2)) (by rw [setS_ap, hlc]; rfl),
    forS_ok (walkR1_nat (n := s) (by simp only [lmE, seqS_ap, nilS_ap, brkS_ap, contS_ap, badS_ap, raiseS_ap, frS_ap, setS_ap, dropS_ap, retS_ap, ifS_ap, asg_val, asg_new, asg_bor, retR_val, retR_new, rd_ap, retOwn_ap, cst_ap, bin2_ap, un1_ap, callN_ap, callF_ap, fldE_ap, aNil_ap, aCons_ap, tupD_ap, lstD_ap, nilD_ap, walkOf_ap, walkR1_ap, walkR2_ap, walkZ_ap, walkE_ap, walkV_ap, tupRevV_ap, andT_ap, orT_ap, notT_ap, boolOf_ap, boolR_bl, andV_ap, orV_ap, notE_ap, ifV_ap, chn_ap, noB_ap, intB_ap, sl3_ap, forS_ap, lcV_ap, yesT_ap, stD_val, stD_new0, stAll_nil, stAll_cons, stR_val, stR_new, argR_val, argR_new, argR_bor, argR_lend, addV_int, subV_int, negV_int, ltV_int, leV_int, gtV_int, geV_int, eqV_int, neV_int, eqV_str, neV_str, intV_int, absV_int, max2_int, min2_int, lenV_tup, lenV_lst, lenV_scr, lenV_lend, R.ok_bind, slotOf, List.map_cons, List.map_nil, List.length_cons, List.length_nil, List.cons_append, List.nil_append, List.append_nil, List.replicate, List.getElem?_cons_succ, List.getElem?_cons_zero, Res.items, List.set_cons_succ, List.set_cons_zero, Nat.reduceAdd, Nat.reduceSub, Res.pv, ixV_lst, hss]) (by omega))]
  rw [hPe]
  exact hj
theorem v_law_moves {ss : List Nat} {rs : List (List Int)} {cs : List Nat} (G : GOk ss rs) (ok : Ok ss cs) {rule : Str} {e b bt : Bool} (Ru : Rule rule e b bt) :
    f_law_moves [.val (.lst (zn ss)), .val (.lst (rlst rs)), .val (.tup (zn cs)), .val (.str rule)] = .ok (.new 0 (mvL e b ss rs cs)) := by
  have hsm := lwP_small (e := e) (b := b) (rs := rs) (cs := cs) G.sz
  rw [mvL_eq] at hsm ⊢
  obtain ⟨j', hj⟩ := app_loop (fun (k : Nat) => Res.val (.int (k : Int))) (fun (acc : List PV) (j : Slot × Slot × Slot) => [.val (.lst (zn ss)), .val (.lst (rlst rs)), .val (.tup (zn cs)), .val (.str rule), .own 0 acc, j.1, j.2.1, j.2.2]) (lwP e b ss rs cs) ss.length
    (fun c acc j hc hl => lm_person G ok Ru c hc acc j hl) ss.length 0 [] (.unset, .unset, .unset) (by omega) (by rw [List.length_nil]; omega)
  have h4 := G.sz.n4
  refine runFn_ret (show b_law_moves [.val (.lst (zn ss)), .val (.lst (rlst rs)), .val (.tup (zn cs)), .val (.str rule), .unset, .unset, .unset, .unset] = _ from ?_)
  unfold b_law_moves
  rw [seqS_next (ρ' := [.val (.lst (zn ss)), .val (.lst (rlst rs)), .val (.tup (zn cs)), .val (.str rule), .own 0 [], .unset, .unset, .unset]) (by rfl),
    seqS_next ((forS_ok (walkR1_nat (n := ss.length) (by simp only [seqS_ap, nilS_ap, brkS_ap, contS_ap, badS_ap, raiseS_ap, frS_ap, setS_ap, dropS_ap, retS_ap, ifS_ap, asg_val, asg_new, asg_bor, retR_val, retR_new, rd_ap, retOwn_ap, cst_ap, bin2_ap, un1_ap, callN_ap, callF_ap, fldE_ap, aNil_ap, aCons_ap, tupD_ap, lstD_ap, nilD_ap, walkOf_ap, walkR1_ap, walkR2_ap, walkZ_ap, walkE_ap, walkV_ap, tupRevV_ap, andT_ap, orT_ap, notT_ap, boolOf_ap, boolR_bl, andV_ap, orV_ap, notE_ap, ifV_ap, chn_ap, noB_ap, intB_ap, sl3_ap, forS_ap, lcV_ap, yesT_ap, stD_val, stD_new0, stAll_nil, stAll_cons, stR_val, stR_new, argR_val, argR_new, argR_bor, argR_lend, addV_int, subV_int, negV_int, ltV_int, leV_int, gtV_int, geV_int, eqV_int, neV_int, eqV_str, neV_str, intV_int, absV_int, max2_int, min2_int, lenV_tup, lenV_lst, lenV_scr, lenV_lend, R.ok_bind, slotOf, List.map_cons, List.map_nil, List.length_cons, List.length_nil, List.cons_append, List.nil_append, List.append_nil, List.replicate, List.getElem?_cons_succ, List.getElem?_cons_zero, Res.items, List.set_cons_succ, List.set_cons_zero, Nat.reduceAdd, Nat.reduceSub, Res.pv, zn_length]) (by omega))).trans hj)]
  rfl
theorem keep_loop {J : Type} {g : VG} {body : VS} (it : Nat → Res) (E : J → Pv.Env) (hi : Nat) (hs : ∀ (c : Nat) (j : J), c < hi → ∃ ρ1 j', g (it c) (E j) = .next ρ1 ∧ (body ρ1 = .next (E j') ∨ body ρ1 = .cont (E j'))) (n a : Nat) (j : J) (h : a + n ≤ hi) : ∃ j', runFor g body ((List.range' a n).map it) (E j) = .next (E j') := by
  have hz : ∀ l : List Nat, (l.flatMap fun _ => ([] : List PV)) = [] := fun l => by induction l <;> simp
  obtain ⟨j', e⟩ := app_loop it (fun _ j => E j) (fun _ => []) hi (fun c acc j hc _ => hs c j hc) n a [] j h (by rw [hz]; simp)
  exact ⟨j', e⟩
def Tups (xs : List PV) : Prop := ∀ x ∈ xs, ∃ l : List Int, x = .tup (zs l) ∧ l.length ≤ 1000
theorem isV_list {r : Res} {xs : List PV} (h : r.pv = .lst xs) : isV "list" r = .ok (.val (.bl true)) := by
  have : isTy "list" (.lst xs) = some true := (show kitB "list" "list" = some true by decide +kernel)
  unfold isV; simp only [h, this]
theorem isV_tup {xs : List PV} : isV "tuple" (.val (.tup xs)) = .ok (.val (.bl true)) := by
  have : isTy "tuple" (.tup xs) = some true := (show kitB "tuple" "tuple" = some true by decide +kernel)
  unfold isV; simp only [Res.pv, this]
theorem v_law_is_list {r : Res} {xs : List PV} (hr : r = .val (.lst xs) ∨ r = .bor 0 xs) (hx : Tups xs) (hn : xs.length ≤ 1000) : f_law_is_list [r, .val (.lst xs)] = .ok (.val (.bl true)) := by
  have hrd : ∀ t2 t3 : Slot, rd 0 [slotOf r, .val (.lst xs), t2, t3] = .ok r := fun t2 t3 => by rcases hr with rfl | rfl <;> rfl
  have hpv : r.pv = .lst xs := by rcases hr with rfl | rfl <;> rfl
  have hlen : lenV [r] = .ok (.val (.int (xs.length : Int))) := by rcases hr with rfl | rfl <;> rfl
  have hix : ∀ (k : Nat) (x : PV), xs[k]? = some x → ixV r (.val (.int (k : Int))) = .ok (.val x) := fun k x hk => by
    have ha : atI xs (k : Int) = some x := by rw [Pv.atI_nat]; exact hk
    rcases hr with rfl | rfl
    · rw [ixV_lst, ha]
    · show (match atI xs (k : Int) with | some p => elB 0 p | none => .bad) = _
      rw [ha]; rfl
  have step : ∀ (c : Nat) (j : Slot × Slot), c < xs.length → ∃ ρ1 j', asg 2 (.val (.int (c : Int))) [slotOf r, .val (.lst xs), j.1, j.2] = .next ρ1 ∧
      ((seqS (ifS (orT (notT (boolOf (un1 (isV "tuple") (bin2 ixV (rd 0) (rd 2))))) (boolOf (bin2 neV (callN lenV (aCons (bin2 ixV (rd 0) (rd 2)) aNil)) (callN lenV (aCons (bin2 ixV (rd 1) (rd 2)) aNil)))))
    (retS (cst (.bl false)))
    nilS)
    (forS (walkR1 (callN lenV (aCons (bin2 ixV (rd 1) (rd 2)) aNil))) (asg 3)
    (ifS (orT (notT (boolOf (callF f_law_is_whole [] (aCons (bin2 ixV (bin2 ixV (rd 0) (rd 2)) (rd 3)) aNil)))) (boolOf (bin2 neV (bin2 ixV (bin2 ixV (rd 0) (rd 2)) (rd 3)) (bin2 ixV (bin2 ixV (rd 1) (rd 2)) (rd 3)))))
    (retS (cst (.bl false)))
    nilS))) ρ1 = .next ((fun (j : Slot × Slot) => [slotOf r, .val (.lst xs), j.1, j.2]) j') ∨ (seqS (ifS (orT (notT (boolOf (un1 (isV "tuple") (bin2 ixV (rd 0) (rd 2))))) (boolOf (bin2 neV (callN lenV (aCons (bin2 ixV (rd 0) (rd 2)) aNil)) (callN lenV (aCons (bin2 ixV (rd 1) (rd 2)) aNil)))))
    (retS (cst (.bl false)))
    nilS)
    (forS (walkR1 (callN lenV (aCons (bin2 ixV (rd 1) (rd 2)) aNil))) (asg 3)
    (ifS (orT (notT (boolOf (callF f_law_is_whole [] (aCons (bin2 ixV (bin2 ixV (rd 0) (rd 2)) (rd 3)) aNil)))) (boolOf (bin2 neV (bin2 ixV (bin2 ixV (rd 0) (rd 2)) (rd 3)) (bin2 ixV (bin2 ixV (rd 1) (rd 2)) (rd 3)))))
    (retS (cst (.bl false)))
    nilS))) ρ1 = .cont ((fun (j : Slot × Slot) => [slotOf r, .val (.lst xs), j.1, j.2]) j')) := fun c j hc => by
    obtain ⟨l, hl, hl2⟩ := hx xs[c] (List.getElem_mem hc)
    have hk : xs[c]? = some (.tup (zs l)) := by rw [List.getElem?_eq_getElem hc, hl]
    have q1 := hix c _ hk
    have q2 : atI xs (c : Int) = some (.tup (zs l)) := by rw [Pv.atI_nat]; exact hk
    obtain ⟨j3, hj⟩ := keep_loop (g := asg 3) (body := (ifS (orT (notT (boolOf (callF f_law_is_whole [] (aCons (bin2 ixV (bin2 ixV (rd 0) (rd 2)) (rd 3)) aNil)))) (boolOf (bin2 neV (bin2 ixV (bin2 ixV (rd 0) (rd 2)) (rd 3)) (bin2 ixV (bin2 ixV (rd 1) (rd 2)) (rd 3)))))
      (retS (cst (.bl false)))
      nilS)) (fun (k : Nat) => Res.val (.int (k : Int))) (fun (s : Slot) => [slotOf r, .val (.lst xs), .val (.int (c : Int)), s]) l.length (fun i s hi => by
        refine ⟨[slotOf r, .val (.lst xs), .val (.int (c : Int)), .val (.int (i : Int))], .val (.int (i : Int)), rfl, .inl ?_⟩
        have q3 : atI (zs l) (i : Int) = some (.int l[i]) := at_zs (List.getElem?_eq_getElem hi)
        simp only [ifS_ap, orT_ap, notT_ap, boolOf_ap, callF_ap, aCons_ap, aNil_ap, bin2_ap, hrd, rd_ap, List.getElem?_cons_succ, List.getElem?_cons_zero, R.ok_bind, q1, ixV_tup, ixV_lst, q2, q3, List.map_cons, List.map_nil, List.append_nil, argR_val, v_law_is_whole, boolR_bl, Bool.not_true, Bool.false_eq_true, if_false, neV_int, decide_true, nilS_ap]) l.length 0 j.2 (by omega)
    refine ⟨[slotOf r, .val (.lst xs), .val (.int (c : Int)), j.2], (.val (.int (c : Int)), j3), rfl, .inl ?_⟩
    rw [seqS_next (ρ' := [slotOf r, .val (.lst xs), .val (.int (c : Int)), j.2]) (by
      simp only [ifS_ap, orT_ap, notT_ap, boolOf_ap, un1_ap, callN_ap, aCons_ap, aNil_ap, bin2_ap, hrd, rd_ap, List.getElem?_cons_succ, List.getElem?_cons_zero, R.ok_bind, q1, ixV_lst, q2, isV_tup, boolR_bl, Bool.not_true, Bool.false_eq_true, if_false, lenV_tup, neV_int, decide_true, nilS_ap]),
      forS_ok (walkR1_nat (n := l.length) (by simp only [callN_ap, aCons_ap, aNil_ap, bin2_ap, rd_ap, List.getElem?_cons_succ, List.getElem?_cons_zero, R.ok_bind, ixV_lst, q2, lenV_tup, zs_length]) (by omega))]
    exact hj
  obtain ⟨j', hj⟩ := keep_loop (g := asg 2) (fun (k : Nat) => Res.val (.int (k : Int))) (fun (j : Slot × Slot) => [slotOf r, .val (.lst xs), j.1, j.2]) xs.length step xs.length 0 (.unset, .unset) (by omega)
  refine runFn_ret (show b_law_is_list [slotOf r, .val (.lst xs), .unset, .unset] = _ from ?_)
  unfold b_law_is_list
  rw [seqS_next (ρ' := [slotOf r, .val (.lst xs), .unset, .unset]) (by
      simp only [ifS_ap, orT_ap, notT_ap, boolOf_ap, un1_ap, callN_ap, aCons_ap, aNil_ap, bin2_ap, hrd, rd_ap, List.getElem?_cons_succ, List.getElem?_cons_zero, R.ok_bind, isV_list hpv, boolR_bl, Bool.not_true, Bool.false_eq_true, if_false, hlen, lenV_lst, neV_int, decide_true, nilS_ap]),
    seqS_next ((forS_ok (walkR1_nat (n := xs.length) (by simp only [callN_ap, aCons_ap, aNil_ap, rd_ap, List.getElem?_cons_succ, List.getElem?_cons_zero, R.ok_bind, lenV_lst]) (by omega))).trans hj)]
  rfl
theorem mvL_tups {e b : Bool} {ss : List Nat} {rs : List (List Int)} {cs : List Nat} : Tups (mvL e b ss rs cs) := fun x hx => by
  obtain ⟨y, hy, rfl⟩ := List.mem_map.mp hx
  obtain ⟨p, c, _, _, _, rfl⟩ := arcs_form hy
  exact ⟨[(p : Int), (c : Int)], rfl, by show 2 ≤ 1000; decide⟩
end
end K88
namespace K88
open PySem PySem.Spec L2 Pv Mz
noncomputable section
theorem frE_val {j : Nat} {ρ : Pv.Env} {p : PV} (h : ρ[j]? = some (.val p)) : frE j ρ = ρ := by unfold frE; rw [h]
def mstep (m : Int) (x : PV) : Int := match x with
  | .int g => if g > m then g else m
  | _ => m
def mostOf (xs : List PV) : Int := xs.foldl mstep 0
def dueP (ss : List Nat) (rs : List (List Int)) (cs : List Nat) (p : Nat) : List PV := (List.range' 0 (sp ss p)).flatMap fun c => [.int (Gp ss rs cs p c)]
def dueL (ss : List Nat) (rs : List (List Int)) (cs : List Nat) : List PV := (List.range' 0 ss.length).flatMap (dueP ss rs cs)
theorem mostOf_snoc (xs : List PV) (g : Int) : mostOf (xs ++ [.int g]) = if g > mostOf xs then g else mostOf xs := by unfold mostOf; rw [List.foldl_append]; rfl
theorem mfold_ge : ∀ (xs : List PV) (m : Int), m ≤ xs.foldl mstep m ∧ ∀ g, PV.int g ∈ xs → g ≤ xs.foldl mstep m
  | [], m => ⟨Int.le_refl m, (fun g h => by cases h)⟩
  | x :: xs, m => by
    obtain ⟨h1, h2⟩ := mfold_ge xs (mstep m x)
    have h3 : m ≤ mstep m x := by
      unfold mstep
      split
      · split <;> omega
      · exact Int.le_refl m
    refine ⟨Int.le_trans h3 h1, fun g hg => ?_⟩
    rcases List.mem_cons.mp hg with rfl | hg
    · refine Int.le_trans ?_ h1
      show g ≤ if g > m then g else m
      split <;> omega
    · exact h2 g hg
theorem mfold_mem : ∀ (xs : List PV) (m : Int), xs.foldl mstep m = m ∨ PV.int (xs.foldl mstep m) ∈ xs
  | [], m => .inl rfl
  | x :: xs, m => by
    show xs.foldl mstep (mstep m x) = m ∨ PV.int (xs.foldl mstep (mstep m x)) ∈ x :: xs
    rcases mfold_mem xs (mstep m x) with h | h
    · rw [h]
      unfold mstep
      split
      · split
        · exact .inr List.mem_cons_self
        · exact .inl rfl
      · exact .inl rfl
    · exact .inr (List.mem_cons_of_mem _ h)
theorem mxL_mem : ∀ {l : List Int}, l ≠ [] → mxL l ∈ l
  | [], h => absurd rfl h
  | x :: l, _ => by
    have : ∀ (l : List Int) (a : Int), l.foldl max a = a ∨ l.foldl max a ∈ l := fun l => by
      induction l with
      | nil => intro a; exact .inl rfl
      | cons y l ih =>
        intro a
        show l.foldl max (max a y) = a ∨ l.foldl max (max a y) ∈ y :: l
        rcases ih (max a y) with h | h
        · rw [h]
          by_cases q : a ≤ y
          · rw [show max a y = y by omega]; exact .inr List.mem_cons_self
          · rw [show max a y = a by omega]; exact .inl rfl
        · exact .inr (List.mem_cons_of_mem _ h)
    rcases this l x with h | h
    · show l.foldl max x ∈ _; rw [h]; exact List.mem_cons_self
    · exact List.mem_cons_of_mem _ h
theorem due_mem {ss : List Nat} {rs : List (List Int)} {cs : List Nat} {x : PV} : x ∈ dueL ss rs cs ↔ ∃ p c, p < ss.length ∧ c < sp ss p ∧ x = .int (Gp ss rs cs p c) := by
  unfold dueL dueP
  constructor
  · intro h
    obtain ⟨p, hp, h⟩ := List.mem_flatMap.mp h
    obtain ⟨c, hc, h⟩ := List.mem_flatMap.mp h
    exact ⟨p, c, by have := List.mem_range'_1.mp hp; omega, by have := List.mem_range'_1.mp hc; omega, by simpa using h⟩
  · rintro ⟨p, c, hp, hc, rfl⟩
    exact List.mem_flatMap.mpr ⟨p, List.mem_range'_1.mpr ⟨Nat.zero_le _, by omega⟩, List.mem_flatMap.mpr ⟨c, List.mem_range'_1.mpr ⟨Nat.zero_le _, by omega⟩, by simp⟩⟩
theorem slack_most {ss : List Nat} {rs : List (List Int)} {cs : List Nat} : slackI ss rs cs = mostOf (dueL ss rs cs) := by
  apply Int.le_antisymm
  · have h0 := (mfold_ge (dueL ss rs cs) 0)
    have hm := mxL_mem (l := 0 :: (arcsL false true ss rs cs).map moF) (by simp)
    unfold slackI
    rcases List.mem_cons.mp hm with h | h
    · rw [h]; exact h0.1
    · obtain ⟨y, hy, e⟩ := List.mem_map.mp h
      obtain ⟨p, c, hp, hc, _, rfl⟩ := arcs_form hy
      rw [← e]
      exact h0.2 _ (due_mem.mpr ⟨p, c, hp, hc, rfl⟩)
  · unfold slackI
    rcases mfold_mem (dueL ss rs cs) 0 with h | h
    · show (dueL ss rs cs).foldl mstep 0 ≤ _
      rw [h]; exact mxL_ge List.mem_cons_self
    · obtain ⟨p, c, hp, hc, e⟩ := due_mem.mp h
      injection e with e
      show (dueL ss rs cs).foldl mstep 0 ≤ _
      rw [e]
      by_cases hg : Gp ss rs cs p c > 0
      · have hk : kpA false true ss rs cs p c = true := by
          unfold kpA
          unfold Gp at hg
          have q1 : ¬ (Vp ss rs cs p c < Vp ss rs cs p (dp cs p)) := by omega
          have q2 : Vp ss rs cs p c > Vp ss rs cs p (dp cs p) := by omega
          have q3 : ¬ ((c : Int) = (dp cs p : Int)) := fun z => by
            have : c = dp cs p := by omega
            rw [this] at q2; omega
          rw [decide_eq_false q1, decide_eq_true q2, decide_eq_false q3]; rfl
        refine mxL_ge (List.mem_cons_of_mem _ (List.mem_map.mpr ⟨arT ss rs cs p c, ?_, rfl⟩))
        refine List.mem_flatMap.mpr ⟨p, List.mem_range'_1.mpr ⟨Nat.zero_le _, by omega⟩, List.mem_flatMap.mpr ⟨c, List.mem_range'_1.mpr ⟨Nat.zero_le _, by omega⟩, ?_⟩⟩
        unfold arI; rw [hk]; simp
      · exact Int.le_trans (by omega) (mxL_ge List.mem_cons_self)
theorem due_small {ss : List Nat} {rs : List (List Int)} {cs : List Nat} (h : Sizes ss) : (dueL ss rs cs).length ≤ 100 := by
  have gen : ∀ (l : List Nat) (f : Nat → List PV) (m : Nat), (∀ c ∈ l, (f c).length ≤ m) → (l.flatMap f).length ≤ l.length * m := fun l f m => by
    induction l with
    | nil => intro _; simp
    | cons x l ih =>
      intro hh
      rw [List.flatMap_cons, List.length_append, List.length_cons, Nat.add_mul, Nat.one_mul]
      have := hh x (by simp)
      have := ih fun c hc => hh c (by simp [hc])
      omega
  have h2 : ∀ p ∈ List.range' 0 ss.length, (dueP ss rs cs p).length ≤ 5 := fun p hp => by
    have hp' : p < ss.length := by have := List.mem_range'_1.mp hp; omega
    have := gen (List.range' 0 (sp ss p)) (fun c => [.int (Gp ss rs cs p c)]) 1 fun c _ => by simp
    rw [List.length_range', Nat.mul_one] at this
    have h5 : sp ss p ≤ 5 := by
      unfold sp
      rw [List.getD_eq_getElem?_getD, List.getElem?_eq_getElem hp']
      exact (h.el _ (List.getElem_mem _)).2
    exact Nat.le_trans this h5
  have h3 := gen _ (dueP ss rs cs) 5 h2
  rw [List.length_range'] at h3
  have := h.n4
  exact Nat.le_trans h3 (by omega)
abbrev lpE (g : Slot) (ss : List Nat) (rs : List (List Int)) (cs : List Nat) (acc : List PV) (j : Nat → Slot) : Pv.Env := [g, .val (.lst (zn ss)), .val (.lst (rlst rs)), .val (.tup (zn cs)), .val (.int (mostOf acc)), j 5, j 6, j 7, j 8, j 9]
abbrev lp_in : VS := (seqS (setS 7 (callF f_law_gain [] (aCons (rd 1) (aCons (rd 2) (aCons (rd 3) (aCons (rd 5) (aCons (rd 6) aNil)))))))
    (seqS (setS 8 (callF f_gain [] (aCons (rd 0) (aCons (rd 3) (aCons (rd 5) (aCons (rd 6) aNil))))))
    (seqS (frS 8 (frS 7 (ifS (orT (notT (boolOf (callF f_law_is_whole [] (aCons (rd 8) aNil)))) (boolOf (bin2 neV (rd 8) (rd 7))))
    (retS (cst (.bl false)))
    nilS)))
    (frS 7 (setS 4 (callN maxV (aCons (rd 4) (aCons (rd 7) aNil))))))))
theorem lp_step {ss : List Nat} {rs : List (List Int)} {o : Int} {cs : List Nat} (G : GOk ss rs) (ok : Ok ss cs) (p c : Nat) (hp : p < ss.length) (hc : c < sp ss p) (acc : List PV) (x7 x8 x9 : Slot) :
    lp_in [.val (gameV ss rs o), .val (.lst (zn ss)), .val (.lst (rlst rs)), .val (.tup (zn cs)), .val (.int (mostOf acc)), .val (.int (p : Int)), .val (.int (c : Int)), x7, x8, x9] = .next [.val (gameV ss rs o), .val (.lst (zn ss)), .val (.lst (rlst rs)), .val (.tup (zn cs)), .val (.int (mostOf (acc ++ [.int (Gp ss rs cs p c)]))), .val (.int (p : Int)), .val (.int (c : Int)), .val (.int (Gp ss rs cs p c)), .val (.int (Gp ss rs cs p c)), x9] := by
  have q1 := v_law_gain G ok p c hp hc
  have q2 := v_gain (o := o) G ok p c hp hc
  unfold lp_in
  rw [seqS_next (ρ' := [.val (gameV ss rs o), .val (.lst (zn ss)), .val (.lst (rlst rs)), .val (.tup (zn cs)), .val (.int (mostOf acc)), .val (.int (p : Int)), .val (.int (c : Int)), .val (.int (Gp ss rs cs p c)), x8, x9]) (by simp only [seqS_ap, nilS_ap, brkS_ap, contS_ap, badS_ap, raiseS_ap, frS_ap, setS_ap, dropS_ap, retS_ap, ifS_ap, asg_val, asg_new, asg_bor, retR_val, retR_new, rd_ap, retOwn_ap, cst_ap, bin2_ap, un1_ap, callN_ap, callF_ap, fldE_ap, aNil_ap, aCons_ap, tupD_ap, lstD_ap, nilD_ap, walkOf_ap, walkR1_ap, walkR2_ap, walkZ_ap, walkE_ap, walkV_ap, tupRevV_ap, andT_ap, orT_ap, notT_ap, boolOf_ap, boolR_bl, andV_ap, orV_ap, notE_ap, ifV_ap, chn_ap, noB_ap, intB_ap, sl3_ap, forS_ap, lcV_ap, yesT_ap, stD_val, stD_new0, stAll_nil, stAll_cons, stR_val, stR_new, argR_val, argR_new, argR_bor, argR_lend, addV_int, subV_int, negV_int, ltV_int, leV_int, gtV_int, geV_int, eqV_int, neV_int, eqV_str, neV_str, intV_int, absV_int, max2_int, min2_int, lenV_tup, lenV_lst, lenV_scr, lenV_lend, R.ok_bind, slotOf, List.map_cons, List.map_nil, List.length_cons, List.length_nil, List.cons_append, List.nil_append, List.append_nil, List.replicate, List.getElem?_cons_succ, List.getElem?_cons_zero, Res.items, List.set_cons_succ, List.set_cons_zero, Nat.reduceAdd, Nat.reduceSub, Res.pv, q1]),
    seqS_next (ρ' := [.val (gameV ss rs o), .val (.lst (zn ss)), .val (.lst (rlst rs)), .val (.tup (zn cs)), .val (.int (mostOf acc)), .val (.int (p : Int)), .val (.int (c : Int)), .val (.int (Gp ss rs cs p c)), .val (.int (Gp ss rs cs p c)), x9]) (by simp only [seqS_ap, nilS_ap, brkS_ap, contS_ap, badS_ap, raiseS_ap, frS_ap, setS_ap, dropS_ap, retS_ap, ifS_ap, asg_val, asg_new, asg_bor, retR_val, retR_new, rd_ap, retOwn_ap, cst_ap, bin2_ap, un1_ap, callN_ap, callF_ap, fldE_ap, aNil_ap, aCons_ap, tupD_ap, lstD_ap, nilD_ap, walkOf_ap, walkR1_ap, walkR2_ap, walkZ_ap, walkE_ap, walkV_ap, tupRevV_ap, andT_ap, orT_ap, notT_ap, boolOf_ap, boolR_bl, andV_ap, orV_ap, notE_ap, ifV_ap, chn_ap, noB_ap, intB_ap, sl3_ap, forS_ap, lcV_ap, yesT_ap, stD_val, stD_new0, stAll_nil, stAll_cons, stR_val, stR_new, argR_val, argR_new, argR_bor, argR_lend, addV_int, subV_int, negV_int, ltV_int, leV_int, gtV_int, geV_int, eqV_int, neV_int, eqV_str, neV_str, intV_int, absV_int, max2_int, min2_int, lenV_tup, lenV_lst, lenV_scr, lenV_lend, R.ok_bind, slotOf, List.map_cons, List.map_nil, List.length_cons, List.length_nil, List.cons_append, List.nil_append, List.append_nil, List.replicate, List.getElem?_cons_succ, List.getElem?_cons_zero, Res.items, List.set_cons_succ, List.set_cons_zero, Nat.reduceAdd, Nat.reduceSub, Res.pv, q2]),
    seqS_next (ρ' := [.val (gameV ss rs o), .val (.lst (zn ss)), .val (.lst (rlst rs)), .val (.tup (zn cs)), .val (.int (mostOf acc)), .val (.int (p : Int)), .val (.int (c : Int)), .val (.int (Gp ss rs cs p c)), .val (.int (Gp ss rs cs p c)), x9]) (by
      rw [frS_ap, frE_val (p := .int (Gp ss rs cs p c)) (by rfl), frS_ap, frE_val (p := .int (Gp ss rs cs p c)) (by rfl)]
      simp only [seqS_ap, nilS_ap, brkS_ap, contS_ap, badS_ap, raiseS_ap, frS_ap, setS_ap, dropS_ap, retS_ap, ifS_ap, asg_val, asg_new, asg_bor, retR_val, retR_new, rd_ap, retOwn_ap, cst_ap, bin2_ap, un1_ap, callN_ap, callF_ap, fldE_ap, aNil_ap, aCons_ap, tupD_ap, lstD_ap, nilD_ap, walkOf_ap, walkR1_ap, walkR2_ap, walkZ_ap, walkE_ap, walkV_ap, tupRevV_ap, andT_ap, orT_ap, notT_ap, boolOf_ap, boolR_bl, andV_ap, orV_ap, notE_ap, ifV_ap, chn_ap, noB_ap, intB_ap, sl3_ap, forS_ap, lcV_ap, yesT_ap, stD_val, stD_new0, stAll_nil, stAll_cons, stR_val, stR_new, argR_val, argR_new, argR_bor, argR_lend, addV_int, subV_int, negV_int, ltV_int, leV_int, gtV_int, geV_int, eqV_int, neV_int, eqV_str, neV_str, intV_int, absV_int, max2_int, min2_int, lenV_tup, lenV_lst, lenV_scr, lenV_lend, R.ok_bind, slotOf, List.map_cons, List.map_nil, List.length_cons, List.length_nil, List.cons_append, List.nil_append, List.append_nil, List.replicate, List.getElem?_cons_succ, List.getElem?_cons_zero, Res.items, List.set_cons_succ, List.set_cons_zero, Nat.reduceAdd, Nat.reduceSub, Res.pv, v_law_is_whole, Bool.not_true, Bool.false_eq_true, if_false, decide_true])]
  rw [frS_ap, frE_val (p := .int (Gp ss rs cs p c)) (by rfl)]
  simp only [seqS_ap, nilS_ap, brkS_ap, contS_ap, badS_ap, raiseS_ap, frS_ap, setS_ap, dropS_ap, retS_ap, ifS_ap, asg_val, asg_new, asg_bor, retR_val, retR_new, rd_ap, retOwn_ap, cst_ap, bin2_ap, un1_ap, callN_ap, callF_ap, fldE_ap, aNil_ap, aCons_ap, tupD_ap, lstD_ap, nilD_ap, walkOf_ap, walkR1_ap, walkR2_ap, walkZ_ap, walkE_ap, walkV_ap, tupRevV_ap, andT_ap, orT_ap, notT_ap, boolOf_ap, boolR_bl, andV_ap, orV_ap, notE_ap, ifV_ap, chn_ap, noB_ap, intB_ap, sl3_ap, forS_ap, lcV_ap, yesT_ap, stD_val, stD_new0, stAll_nil, stAll_cons, stR_val, stR_new, argR_val, argR_new, argR_bor, argR_lend, addV_int, subV_int, negV_int, ltV_int, leV_int, gtV_int, geV_int, eqV_int, neV_int, eqV_str, neV_str, intV_int, absV_int, max2_int, min2_int, lenV_tup, lenV_lst, lenV_scr, lenV_lend, R.ok_bind, slotOf, List.map_cons, List.map_nil, List.length_cons, List.length_nil, List.cons_append, List.nil_append, List.append_nil, List.replicate, List.getElem?_cons_succ, List.getElem?_cons_zero, Res.items, List.set_cons_succ, List.set_cons_zero, Nat.reduceAdd, Nat.reduceSub, Res.pv, mostOf_snoc]
theorem lp_all {ss : List Nat} {rs : List (List Int)} {o : Int} {cs : List Nat} (G : GOk ss rs) (ok : Ok ss cs) : ∃ j', forS (walkR1 (callN lenV (aCons (rd 1) aNil))) (asg 5) (forS (walkR1 (bin2 ixV (rd 1) (rd 5))) (asg 6) lp_in) (lpE (.val (gameV ss rs o)) ss rs cs [] (fun _ => .unset)) = .next (lpE (.val (gameV ss rs o)) ss rs cs (dueL ss rs cs) j') := by
  have h4 := G.sz.n4
  have hsm := due_small (rs := rs) (cs := cs) G.sz
  obtain ⟨j', hj⟩ := app_loop (g := asg 5) (body := forS (walkR1 (bin2 ixV (rd 1) (rd 5))) (asg 6) lp_in) (fun (k : Nat) => Res.val (.int (k : Int))) (lpE (.val (gameV ss rs o)) ss rs cs) (dueP ss rs cs) ss.length (fun p acc j hp hl => by
    have hss : atI (zn ss) (p : Int) = some (.int (sp ss p : Int)) := at_zn (by rw [List.getElem?_eq_getElem hp]; unfold sp; rw [List.getD_eq_getElem?_getD, List.getElem?_eq_getElem hp]; rfl)
    have h5 : sp ss p ≤ 5 := by
      unfold sp
      rw [List.getD_eq_getElem?_getD, List.getElem?_eq_getElem hp]
      exact (G.sz.el _ (List.getElem_mem _)).2
    obtain ⟨j2, hj2⟩ := app_loop (g := asg 6) (body := lp_in) (fun (k : Nat) => Res.val (.int (k : Int))) (fun acc (j : Nat → Slot) => lpE (.val (gameV ss rs o)) ss rs cs acc (mkJ (.val (.int (p : Int))) (j 6) (j 7) (j 8) (j 9) .unset .unset .unset .unset .unset)) (fun c => [.int (Gp ss rs cs p c)]) (sp ss p) (fun c acc j hc hl =>
      ⟨_, mkJ (.val (.int (p : Int))) (.val (.int (c : Int))) (.val (.int (Gp ss rs cs p c))) (.val (.int (Gp ss rs cs p c))) (j 9) .unset .unset .unset .unset .unset, rfl, .inl (lp_step G ok p c hp hc acc (j 7) (j 8) (j 9))⟩) (sp ss p) 0 acc j (by omega) hl
    refine ⟨lpE (.val (gameV ss rs o)) ss rs cs acc (mkJ (.val (.int (p : Int))) (j 6) (j 7) (j 8) (j 9) .unset .unset .unset .unset .unset), mkJ (.val (.int (p : Int))) (j2 6) (j2 7) (j2 8) (j2 9) .unset .unset .unset .unset .unset, rfl, .inl ?_⟩
    rw [forS_ok (walkR1_nat (n := sp ss p) (by
      show bin2 ixV (rd 1) (rd 5) [.val (gameV ss rs o), .val (.lst (zn ss)), .val (.lst (rlst rs)), .val (.tup (zn cs)), .val (.int (mostOf acc)), .val (.int (p : Int)), j 6, j 7, j 8, j 9] = _
      simp only [seqS_ap, nilS_ap, brkS_ap, contS_ap, badS_ap, raiseS_ap, frS_ap, setS_ap, dropS_ap, retS_ap, ifS_ap, asg_val, asg_new, asg_bor, retR_val, retR_new, rd_ap, retOwn_ap, cst_ap, bin2_ap, un1_ap, callN_ap, callF_ap, fldE_ap, aNil_ap, aCons_ap, tupD_ap, lstD_ap, nilD_ap, walkOf_ap, walkR1_ap, walkR2_ap, walkZ_ap, walkE_ap, walkV_ap, tupRevV_ap, andT_ap, orT_ap, notT_ap, boolOf_ap, boolR_bl, andV_ap, orV_ap, notE_ap, ifV_ap, chn_ap, noB_ap, intB_ap, sl3_ap, forS_ap, lcV_ap, yesT_ap, stD_val, stD_new0, stAll_nil, stAll_cons, stR_val, stR_new, argR_val, argR_new, argR_bor, argR_lend, addV_int, subV_int, negV_int, ltV_int, leV_int, gtV_int, geV_int, eqV_int, neV_int, eqV_str, neV_str, intV_int, absV_int, max2_int, min2_int, lenV_tup, lenV_lst, lenV_scr, lenV_lend, R.ok_bind, slotOf, List.map_cons, List.map_nil, List.length_cons, List.length_nil, List.cons_append, List.nil_append, List.append_nil, List.replicate, List.getElem?_cons_succ, List.getElem?_cons_zero, Res.items, List.set_cons_succ, List.set_cons_zero, Nat.reduceAdd, Nat.reduceSub, Res.pv, ixV_lst, hss]) (by omega))]
    exact hj2) ss.length 0 [] (fun _ => .unset) (by omega) (by rw [List.length_nil]; unfold dueL at hsm; omega)
  exact ⟨j', (forS_ok (walkR1_nat (n := ss.length) (by
    show callN lenV (aCons (rd 1) aNil) [.val (gameV ss rs o), .val (.lst (zn ss)), .val (.lst (rlst rs)), .val (.tup (zn cs)), .val (.int (mostOf [])), .unset, .unset, .unset, .unset, .unset] = _
    simp only [seqS_ap, nilS_ap, brkS_ap, contS_ap, badS_ap, raiseS_ap, frS_ap, setS_ap, dropS_ap, retS_ap, ifS_ap, asg_val, asg_new, asg_bor, retR_val, retR_new, rd_ap, retOwn_ap, cst_ap, bin2_ap, un1_ap, callN_ap, callF_ap, fldE_ap, aNil_ap, aCons_ap, tupD_ap, lstD_ap, nilD_ap, walkOf_ap, walkR1_ap, walkR2_ap, walkZ_ap, walkE_ap, walkV_ap, tupRevV_ap, andT_ap, orT_ap, notT_ap, boolOf_ap, boolR_bl, andV_ap, orV_ap, notE_ap, ifV_ap, chn_ap, noB_ap, intB_ap, sl3_ap, forS_ap, lcV_ap, yesT_ap, stD_val, stD_new0, stAll_nil, stAll_cons, stR_val, stR_new, argR_val, argR_new, argR_bor, argR_lend, addV_int, subV_int, negV_int, ltV_int, leV_int, gtV_int, geV_int, eqV_int, neV_int, eqV_str, neV_str, intV_int, absV_int, max2_int, min2_int, lenV_tup, lenV_lst, lenV_scr, lenV_lend, R.ok_bind, slotOf, List.map_cons, List.map_nil, List.length_cons, List.length_nil, List.cons_append, List.nil_append, List.append_nil, List.replicate, List.getElem?_cons_succ, List.getElem?_cons_zero, Res.items, List.set_cons_succ, List.set_cons_zero, Nat.reduceAdd, Nat.reduceSub, Res.pv, zn_length]) (by omega))).trans hj⟩
abbrev lr_body : VS := (seqS (setS 8 (callF f_moves [] (aCons (rd 0) (aCons (rd 3) (aCons (rd 9) aNil)))))
    (seqS (ifS (notT (boolOf (callF f_law_is_list [] (aCons (rd 8) (aCons (callF f_law_moves [] (aCons (rd 1) (aCons (rd 2) (aCons (rd 3) (aCons (rd 9) aNil))))) aNil)))))
    (retS (cst (.bl false)))
    nilS)
    (seqS (apS 8 (pthN 8) (tupD (aCons (cst (.int 0)) (aCons (cst (.int 0)) aNil))))
    (ifS (notT (boolOf (callF f_law_is_list [] (aCons (callF f_moves [] (aCons (rd 0) (aCons (rd 3) (aCons (rd 9) aNil)))) (aCons (callF f_law_moves [] (aCons (rd 1) (aCons (rd 2) (aCons (rd 3) (aCons (rd 9) aNil))))) aNil)))))
    (retS (cst (.bl false)))
    nilS))))
theorem lr_step {ss : List Nat} {rs : List (List Int)} {o : Int} {cs : List Nat} (G : GOk ss rs) (ok : Ok ss cs) {rule : Str} {e b bt : Bool} (Ru : Rule rule e b bt) (m x5 x6 x7 x8 : Slot) :
    lr_body [.val (gameV ss rs o), .val (.lst (zn ss)), .val (.lst (rlst rs)), .val (.tup (zn cs)), m, x5, x6, x7, x8, .val (.str rule)] = .next [.val (gameV ss rs o), .val (.lst (zn ss)), .val (.lst (rlst rs)), .val (.tup (zn cs)), m, x5, x6, x7, .own 0 (mvL e b ss rs cs ++ [.tup [.int 0, .int 0]]), .val (.str rule)] := by
  obtain ⟨e1, e2, e3⟩ := Ru.e
  have hsm := lwP_small (e := e) (b := b) (rs := rs) (cs := cs) G.sz
  have q1 := v_moves (o := o) G ok e1 e2
  have q2 := v_law_moves G ok Ru
  have q3 := v_law_is_list (r := .bor 0 (mvL e b ss rs cs)) (.inr rfl) mvL_tups (by omega)
  have q4 := v_law_is_list (r := .val (.lst (mvL e b ss rs cs))) (.inl rfl) mvL_tups (by omega)
  have e4 : tupD (aCons (cst (.int 0)) (aCons (cst (.int 0)) aNil)) [.val (gameV ss rs o), .val (.lst (zn ss)), .val (.lst (rlst rs)), .val (.tup (zn cs)), m, x5, x6, x7, .own 0 (mvL e b ss rs cs), .val (.str rule)] = .ok (.val (.tup [.int 0, .int 0])) := tup_val (rs := [.val (.int 0), .val (.int 0)]) (by rfl) (by rfl) (by decide)
  unfold lr_body
  rw [seqS_next (ρ' := [.val (gameV ss rs o), .val (.lst (zn ss)), .val (.lst (rlst rs)), .val (.tup (zn cs)), m, x5, x6, x7, .own 0 (mvL e b ss rs cs), .val (.str rule)]) (by simp only [seqS_ap, nilS_ap, brkS_ap, contS_ap, badS_ap, raiseS_ap, frS_ap, setS_ap, dropS_ap, retS_ap, ifS_ap, asg_val, asg_new, asg_bor, retR_val, retR_new, rd_ap, retOwn_ap, cst_ap, bin2_ap, un1_ap, callN_ap, callF_ap, fldE_ap, aNil_ap, aCons_ap, tupD_ap, lstD_ap, nilD_ap, walkOf_ap, walkR1_ap, walkR2_ap, walkZ_ap, walkE_ap, walkV_ap, tupRevV_ap, andT_ap, orT_ap, notT_ap, boolOf_ap, boolR_bl, andV_ap, orV_ap, notE_ap, ifV_ap, chn_ap, noB_ap, intB_ap, sl3_ap, forS_ap, lcV_ap, yesT_ap, stD_val, stD_new0, stAll_nil, stAll_cons, stR_val, stR_new, argR_val, argR_new, argR_bor, argR_lend, addV_int, subV_int, negV_int, ltV_int, leV_int, gtV_int, geV_int, eqV_int, neV_int, eqV_str, neV_str, intV_int, absV_int, max2_int, min2_int, lenV_tup, lenV_lst, lenV_scr, lenV_lend, R.ok_bind, slotOf, List.map_cons, List.map_nil, List.length_cons, List.length_nil, List.cons_append, List.nil_append, List.append_nil, List.replicate, List.getElem?_cons_succ, List.getElem?_cons_zero, Res.items, List.set_cons_succ, List.set_cons_zero, Nat.reduceAdd, Nat.reduceSub, Res.pv, q1]),
    seqS_next (ρ' := [.val (gameV ss rs o), .val (.lst (zn ss)), .val (.lst (rlst rs)), .val (.tup (zn cs)), m, x5, x6, x7, .own 0 (mvL e b ss rs cs), .val (.str rule)]) (by simp only [seqS_ap, nilS_ap, brkS_ap, contS_ap, badS_ap, raiseS_ap, frS_ap, setS_ap, dropS_ap, retS_ap, ifS_ap, asg_val, asg_new, asg_bor, retR_val, retR_new, rd_ap, retOwn_ap, cst_ap, bin2_ap, un1_ap, callN_ap, callF_ap, fldE_ap, aNil_ap, aCons_ap, tupD_ap, lstD_ap, nilD_ap, walkOf_ap, walkR1_ap, walkR2_ap, walkZ_ap, walkE_ap, walkV_ap, tupRevV_ap, andT_ap, orT_ap, notT_ap, boolOf_ap, boolR_bl, andV_ap, orV_ap, notE_ap, ifV_ap, chn_ap, noB_ap, intB_ap, sl3_ap, forS_ap, lcV_ap, yesT_ap, stD_val, stD_new0, stAll_nil, stAll_cons, stR_val, stR_new, argR_val, argR_new, argR_bor, argR_lend, addV_int, subV_int, negV_int, ltV_int, leV_int, gtV_int, geV_int, eqV_int, neV_int, eqV_str, neV_str, intV_int, absV_int, max2_int, min2_int, lenV_tup, lenV_lst, lenV_scr, lenV_lend, R.ok_bind, slotOf, List.map_cons, List.map_nil, List.length_cons, List.length_nil, List.cons_append, List.nil_append, List.append_nil, List.replicate, List.getElem?_cons_succ, List.getElem?_cons_zero, Res.items, List.set_cons_succ, List.set_cons_zero, Nat.reduceAdd, Nat.reduceSub, Res.pv, q2, q3, Bool.not_true, Bool.false_eq_true, if_false]),
    seqS_next (apS_own (n := 0) (xs := mvL e b ss rs cs) (by rfl) e4 (by rfl) (line_lt (by omega)))]
  show ifS _ _ _ [.val (gameV ss rs o), .val (.lst (zn ss)), .val (.lst (rlst rs)), .val (.tup (zn cs)), m, x5, x6, x7, .own 0 (mvL e b ss rs cs ++ [.tup [.int 0, .int 0]]), .val (.str rule)] = _
  simp only [seqS_ap, nilS_ap, brkS_ap, contS_ap, badS_ap, raiseS_ap, frS_ap, setS_ap, dropS_ap, retS_ap, ifS_ap, asg_val, asg_new, asg_bor, retR_val, retR_new, rd_ap, retOwn_ap, cst_ap, bin2_ap, un1_ap, callN_ap, callF_ap, fldE_ap, aNil_ap, aCons_ap, tupD_ap, lstD_ap, nilD_ap, walkOf_ap, walkR1_ap, walkR2_ap, walkZ_ap, walkE_ap, walkV_ap, tupRevV_ap, andT_ap, orT_ap, notT_ap, boolOf_ap, boolR_bl, andV_ap, orV_ap, notE_ap, ifV_ap, chn_ap, noB_ap, intB_ap, sl3_ap, forS_ap, lcV_ap, yesT_ap, stD_val, stD_new0, stAll_nil, stAll_cons, stR_val, stR_new, argR_val, argR_new, argR_bor, argR_lend, addV_int, subV_int, negV_int, ltV_int, leV_int, gtV_int, geV_int, eqV_int, neV_int, eqV_str, neV_str, intV_int, absV_int, max2_int, min2_int, lenV_tup, lenV_lst, lenV_scr, lenV_lend, R.ok_bind, slotOf, List.map_cons, List.map_nil, List.length_cons, List.length_nil, List.cons_append, List.nil_append, List.append_nil, List.replicate, List.getElem?_cons_succ, List.getElem?_cons_zero, Res.items, List.set_cons_succ, List.set_cons_zero, Nat.reduceAdd, Nat.reduceSub, Res.pv, q1, q2, q4, Bool.not_true, Bool.false_eq_true, if_false]
theorem v_law_at_play {ss : List Nat} {rs : List (List Int)} {o : Int} {cs : List Nat} (G : GOk ss rs) (ok : Ok ss cs) : f_law_at_play [.val (gameV ss rs o), .val (.lst (zn ss)), .val (.lst (rlst rs)), .val (.tup (zn cs))] = .ok (.val (.bl true)) := by
  obtain ⟨j', hj⟩ := lp_all (o := o) G ok
  have hsl := v_slack (o := o) G ok
  rw [slack_most] at hsl
  refine runFn_ret (show b_law_at_play [.val (gameV ss rs o), .val (.lst (zn ss)), .val (.lst (rlst rs)), .val (.tup (zn cs)), .unset, .unset, .unset, .unset, .unset, .unset] = _ from ?_)
  unfold b_law_at_play
  rw [seqS_next (ρ' := [.val (gameV ss rs o), .val (.lst (zn ss)), .val (.lst (rlst rs)), .val (.tup (zn cs)), .val (.int 0), .unset, .unset, .unset, .unset, .unset]) (by rfl),
    seqS_next (show forS (walkR1 (callN lenV (aCons (rd 1) aNil))) (asg 5) (forS (walkR1 (bin2 ixV (rd 1) (rd 5))) (asg 6) lp_in) [.val (gameV ss rs o), .val (.lst (zn ss)), .val (.lst (rlst rs)), .val (.tup (zn cs)), .val (.int 0), .unset, .unset, .unset, .unset, .unset] = _ from hj)]
  have hw : walkOf (lstD (aCons (cst (.str "better")) (aCons (cst (.str "best")) (aCons (cst (.str "even")) aNil)))) (lpE (.val (gameV ss rs o)) ss rs cs (dueL ss rs cs) j') = .ok [.val (.str "better"), .val (.str "best"), .val (.str "even")] := by
    rw [walkOf_new (n := 0) (xs := [.str "better", .str "best", .str "even"]) (lst_val (rs := [.val (.str "better"), .val (.str "best"), .val (.str "even")]) (by rfl) (by rfl) (by decide))]; rfl
  have hl : runFor (asg 9) lr_body [.val (.str "better"), .val (.str "best"), .val (.str "even")] (lpE (.val (gameV ss rs o)) ss rs cs (dueL ss rs cs) j') = .next [.val (gameV ss rs o), .val (.lst (zn ss)), .val (.lst (rlst rs)), .val (.tup (zn cs)), .val (.int (mostOf (dueL ss rs cs))), j' 5, j' 6, j' 7, .own 0 (mvL true false ss rs cs ++ [.tup [.int 0, .int 0]]), .val (.str "even")] := by
    rw [runFor_cons]
    simp only [asg_val, lpE, List.set_cons_succ, List.set_cons_zero]
    rw [lr_step G ok (.better rfl)]
    simp only
    rw [runFor_cons]
    simp only [asg_val, List.set_cons_succ, List.set_cons_zero]
    rw [lr_step G ok (.best rfl)]
    simp only
    rw [runFor_cons]
    simp only [asg_val, List.set_cons_succ, List.set_cons_zero]
    rw [lr_step G ok (.even rfl)]
    simp only [runFor_nil]
  rw [seqS_next ((forS_ok hw).trans hl),
    seqS_next (ρ' := [.val (gameV ss rs o), .val (.lst (zn ss)), .val (.lst (rlst rs)), .val (.tup (zn cs)), .val (.int (mostOf (dueL ss rs cs))), j' 5, j' 6, j' 7, .val (.int (mostOf (dueL ss rs cs))), .val (.str "even")]) (by simp only [seqS_ap, nilS_ap, brkS_ap, contS_ap, badS_ap, raiseS_ap, frS_ap, setS_ap, dropS_ap, retS_ap, ifS_ap, asg_val, asg_new, asg_bor, retR_val, retR_new, rd_ap, retOwn_ap, cst_ap, bin2_ap, un1_ap, callN_ap, callF_ap, fldE_ap, aNil_ap, aCons_ap, tupD_ap, lstD_ap, nilD_ap, walkOf_ap, walkR1_ap, walkR2_ap, walkZ_ap, walkE_ap, walkV_ap, tupRevV_ap, andT_ap, orT_ap, notT_ap, boolOf_ap, boolR_bl, andV_ap, orV_ap, notE_ap, ifV_ap, chn_ap, noB_ap, intB_ap, sl3_ap, forS_ap, lcV_ap, yesT_ap, stD_val, stD_new0, stAll_nil, stAll_cons, stR_val, stR_new, argR_val, argR_new, argR_bor, argR_lend, addV_int, subV_int, negV_int, ltV_int, leV_int, gtV_int, geV_int, eqV_int, neV_int, eqV_str, neV_str, intV_int, absV_int, max2_int, min2_int, lenV_tup, lenV_lst, lenV_scr, lenV_lend, R.ok_bind, slotOf, List.map_cons, List.map_nil, List.length_cons, List.length_nil, List.cons_append, List.nil_append, List.append_nil, List.replicate, List.getElem?_cons_succ, List.getElem?_cons_zero, Res.items, List.set_cons_succ, List.set_cons_zero, Nat.reduceAdd, Nat.reduceSub, Res.pv, hsl])]
  rw [frS_ap, frE_val (p := .int (mostOf (dueL ss rs cs))) (by rfl)]
  simp only [seqS_ap, nilS_ap, brkS_ap, contS_ap, badS_ap, raiseS_ap, frS_ap, setS_ap, dropS_ap, retS_ap, ifS_ap, asg_val, asg_new, asg_bor, retR_val, retR_new, rd_ap, retOwn_ap, cst_ap, bin2_ap, un1_ap, callN_ap, callF_ap, fldE_ap, aNil_ap, aCons_ap, tupD_ap, lstD_ap, nilD_ap, walkOf_ap, walkR1_ap, walkR2_ap, walkZ_ap, walkE_ap, walkV_ap, tupRevV_ap, andT_ap, orT_ap, notT_ap, boolOf_ap, boolR_bl, andV_ap, orV_ap, notE_ap, ifV_ap, chn_ap, noB_ap, intB_ap, sl3_ap, forS_ap, lcV_ap, yesT_ap, stD_val, stD_new0, stAll_nil, stAll_cons, stR_val, stR_new, argR_val, argR_new, argR_bor, argR_lend, addV_int, subV_int, negV_int, ltV_int, leV_int, gtV_int, geV_int, eqV_int, neV_int, eqV_str, neV_str, intV_int, absV_int, max2_int, min2_int, lenV_tup, lenV_lst, lenV_scr, lenV_lend, R.ok_bind, slotOf, List.map_cons, List.map_nil, List.length_cons, List.length_nil, List.cons_append, List.nil_append, List.append_nil, List.replicate, List.getElem?_cons_succ, List.getElem?_cons_zero, Res.items, List.set_cons_succ, List.set_cons_zero, Nat.reduceAdd, Nat.reduceSub, Res.pv, v_law_is_whole, if_true, decide_true]
end
end K88
namespace K88
open PySem PySem.Spec L2 Pv Mz
noncomputable section
theorem methF_ok {c m : Str} {fn : Fn} {ds : List PV} {e : VE} {a : VA} {ρ : Pv.Env} {r : Res} {rs : List Res} (ho : e ρ = .ok r) (hi : isIns c m r = true) (ha : a ρ = .ok rs) : methF c m fn ds e a ρ = fn (r :: (rs.map argR ++ ds.map .val)) := by
  rw [methF_ap, ho, R.ok_bind, if_pos hi, ha, R.ok_bind]
def pB (n : Nat) (p : Int) : Bool := decide (0 ≤ p) && decide (p < (n : Int))
theorem pers_test {ss : List Nat} {rs : List (List Int)} {o p : Int} {e1 e2 : VE} {ρ : Pv.Env} (h1 : e1 ρ = .ok (.val (gameV ss rs o))) (h2 : e2 ρ = .ok (.val (.int p))) (hb : pB ss.length p = false) (f g : VS) : ifS (notT (boolOf (chn leV ltV (cst (.int 0)) e2 (callN lenV (aCons (fldE "Game" "sizes" e1) aNil))))) f g ρ = f ρ := by
  have q : callN lenV (aCons (fldE "Game" "sizes" e1) aNil) ρ = .ok (.val (.int (ss.length : Int))) := by
    rw [callN_ap, aCons_ap, fld_sizes h1, R.ok_bind, aNil_ap, R.ok_bind, R.ok_bind, lenV_tup, zn_length]
  unfold pB at hb
  rw [ifS_ap, notT_ap, boolOf_ap, chn_ap, cst_ap, R.ok_bind, h2, R.ok_bind, leV_int, R.ok_bind, boolR_bl, R.ok_bind]
  cases h0 : decide (0 ≤ p) with
  | false => rfl
  | true =>
    rw [h0, Bool.true_and] at hb
    rw [if_pos rfl, q, R.ok_bind, ltV_int, hb, R.ok_bind, boolR_bl, R.ok_bind]
    rfl
theorem place_exc {ss : List Nat} {rs : List (List Int)} {o : Int} {ps : List Int} {e1 e2 : VE} {ρ : Pv.Env} (i : Nat) (h1 : e1 ρ = .ok (.val (gameV ss rs o))) (h2 : e2 ρ = .ok (.val (.tup (zs ps)))) (hb : okB ss ps = false) : setS i (callF f_place [] (aCons (fldE "Game" "sizes" e1) (aCons e2 aNil))) ρ = .exc badX ρ := by
  rw [setS_ap, callF_ap, aCons_ap, fld_sizes h1, R.ok_bind, aCons_ap, h2, R.ok_bind, aNil_ap, R.ok_bind, R.ok_bind, R.ok_bind]
  show (match f_place [.val (.tup (zn ss)), .val (.tup (zs ps))] with | .ok r => asg i r ρ | .exc x => .exc x ρ | .bad => .bad) = _
  rw [v_place_bad ss ps hb]
theorem place_okS {ss : List Nat} {rs : List (List Int)} {o : Int} {cs : List Nat} (G : GOk ss rs) (ok : Ok ss cs) {e1 e2 : VE} {ρ : Pv.Env} (i : Nat) (h1 : e1 ρ = .ok (.val (gameV ss rs o))) (h2 : e2 ρ = .ok (.val (.tup (zn cs)))) : setS i (callF f_place [] (aCons (fldE "Game" "sizes" e1) (aCons e2 aNil))) ρ = .next (ρ.set i (.val (.int (plc ss cs : Int)))) := by
  rw [setS_ap, callF_ap, aCons_ap, fld_sizes h1, R.ok_bind, aCons_ap, h2, R.ok_bind, aNil_ap, R.ok_bind, R.ok_bind, R.ok_bind]
  show (match f_place [.val (.tup (zn ss)), .val (.tup (zn cs))] with | .ok r => asg i r ρ | .exc x => .exc x ρ | .bad => .bad) = _
  rw [v_place ss cs ok G.sz.le]; rfl
theorem seqS_exc {f g : VS} {ρ ρ' : Pv.Env} {x : XV} (h : f ρ = .exc x ρ') : seqS f g ρ = .exc x ρ' := by rw [seqS_ap, h]
section
variable {ss : List Nat} {rs : List (List Int)} {o : Int} {cs : List Nat} {ps : List Int} {p : Int}
theorem pay_badplay (hb : okB ss ps = false) (p : Int) : f_Game_pay [.val (gameV ss rs o), .val (.tup (zs ps)), .val (.int p)] = .exc badX := by
  refine runFn_exc (show b_Game_pay [.val (gameV ss rs o), .val (.tup (zs ps)), .val (.int p), .unset] = .exc badX [.val (gameV ss rs o), .val (.tup (zs ps)), .val (.int p), .unset] from ?_)
  unfold b_Game_pay
  exact seqS_exc (place_exc 3 (by rfl) (by rfl) hb)
theorem pay_badpers (G : GOk ss rs) (ok : Ok ss cs) (hp : pB ss.length p = false) : f_Game_pay [.val (gameV ss rs o), .val (.tup (zn cs)), .val (.int p)] = .exc badX := by
  refine runFn_exc (show b_Game_pay [.val (gameV ss rs o), .val (.tup (zn cs)), .val (.int p), .unset] = .exc badX [.val (gameV ss rs o), .val (.tup (zn cs)), .val (.int p), .val (.int (plc ss cs : Int))] from ?_)
  unfold b_Game_pay
  rw [seqS_next (place_okS G ok 3 (by rfl) (by rfl))]
  exact seqS_exc (pers_test (ss := ss) (rs := rs) (o := o) (p := p) (by rfl) (by rfl) hp _ _)
theorem row_badpers (hp : pB ss.length p = false) : f_Game_row [.val (gameV ss rs o), .val (.int p)] = .exc badX := by
  refine runFn_exc (show b_Game_row [.val (gameV ss rs o), .val (.int p)] = .exc badX [.val (gameV ss rs o), .val (.int p)] from ?_)
  unfold b_Game_row
  exact seqS_exc (pers_test (ss := ss) (rs := rs) (o := o) (p := p) (by rfl) (by rfl) hp _ _)
theorem with_badplay (hb : okB ss ps = false) (p a b : Int) : f_Game_with_pay [.val (gameV ss rs o), .val (.tup (zs ps)), .val (.int p), .val (.int a), .val (.int b)] = .exc badX := by
  refine runFn_exc (show b_Game_with_pay [.val (gameV ss rs o), .val (.tup (zs ps)), .val (.int p), .val (.int a), .val (.int b), .unset, .unset, .unset, .unset] = .exc badX [.val (gameV ss rs o), .val (.tup (zs ps)), .val (.int p), .val (.int a), .val (.int b), .unset, .unset, .unset, .unset] from ?_)
  unfold b_Game_with_pay
  exact seqS_exc (place_exc 5 (by rfl) (by rfl) hb)
theorem with_badpers (G : GOk ss rs) (ok : Ok ss cs) (hp : pB ss.length p = false) (a b : Int) : f_Game_with_pay [.val (gameV ss rs o), .val (.tup (zn cs)), .val (.int p), .val (.int a), .val (.int b)] = .exc badX := by
  refine runFn_exc (show b_Game_with_pay [.val (gameV ss rs o), .val (.tup (zn cs)), .val (.int p), .val (.int a), .val (.int b), .unset, .unset, .unset, .unset] = .exc badX [.val (gameV ss rs o), .val (.tup (zn cs)), .val (.int p), .val (.int a), .val (.int b), .val (.int (plc ss cs : Int)), .unset, .unset, .unset] from ?_)
  unfold b_Game_with_pay
  rw [seqS_next (place_okS G ok 5 (by rfl) (by rfl))]
  exact seqS_exc (pers_test (ss := ss) (rs := rs) (o := o) (p := p) (by rfl) (by rfl) hp _ _)
end
def tableF (ss : List Nat) (r : List Int) (o : Int) : List (Str × PV) := [("sizes", .tup (zn ss)), ("numbers", .tup (zs r)), ("over", .int o)]
theorem v_Table_init (ss : List Nat) (r : List Int) (o : Nat) (h : Sizes ss) (hr : r.length = Mz.pr ss) (ho : 1 ≤ o ∧ o ≤ 1000) :
    f_Table_init [.val (.tup (zn ss)), .val (.tup (zs r)), .val (.int (o : Int))] = .ok (tableF ss (quo (gfold o r) r) ((o : Int).fdiv (gfold o r : Int))) := by
  have g1 := gfold_pos r o (by omega)
  have g2 := gfold_le r o (by omega)
  have hp := h.pr
  have hcs := v_check_sizes (r := .val (.tup (zn ss))) ss h (.inr rfl)
  have hcp := v_count_plays (r := .val (.tup (zn ss))) ss (.inr rfl) h.le
  have hdv := v_divisor (r := .val (.tup (zs r))) r (.inr rfl) o
  have h2 : (2 : Int) ^ 1000 > 1000 := by decide
  have d1 : ¬ ((o : Int) < 1) := by omega
  have d0 : ((r.length : Int) = (Mz.pr ss : Int)) := by rw [hr]
  have b1 : b_Table_init [.obj "Table" [], .val (.tup (zn ss)), .val (.tup (zs r)), .val (.int (o : Int)), .unset, .unset] = .next [.obj "Table" (tableF ss (quo (gfold o r) r) ((o : Int).fdiv (gfold o r : Int))), .val (.tup (zn ss)), .val (.tup (zs r)), .val (.int (o : Int)), .val (.int (gfold o r : Int)), .unset] := by
    unfold b_Table_init
    rw [seqS_next (fldS_obj (i := 0) (c := "Table") (fl := "sizes") (r := .val (.tup (zn ss))) (p := .tup (zn ss)) (fs := []) (by
        simp only [callF_ap, aCons_ap, aNil_ap, rd_ap, List.getElem?_cons_succ, List.getElem?_cons_zero, R.ok_bind, List.map_cons, List.map_nil, List.append_nil, argR_val, hcs]) (by rfl) (by rfl) (by decide))]
    show seqS _ _ [.obj "Table" [("sizes", .tup (zn ss))], .val (.tup (zn ss)), .val (.tup (zs r)), .val (.int (o : Int)), .unset, .unset] = _
    rw [seqS_next (ρ' := [.obj "Table" [("sizes", .tup (zn ss))], .val (.tup (zn ss)), .val (.tup (zs r)), .val (.int (o : Int)), .unset, .unset]) (by
        simp only [seqS_ap, nilS_ap, brkS_ap, contS_ap, badS_ap, raiseS_ap, frS_ap, setS_ap, dropS_ap, retS_ap, ifS_ap, asg_val, asg_new, asg_bor, retR_val, retR_new, rd_ap, retOwn_ap, cst_ap, bin2_ap, un1_ap, callN_ap, callF_ap, fldE_ap, aNil_ap, aCons_ap, tupD_ap, lstD_ap, nilD_ap, walkOf_ap, walkR1_ap, walkR2_ap, walkZ_ap, walkE_ap, walkV_ap, tupRevV_ap, andT_ap, orT_ap, notT_ap, boolOf_ap, boolR_bl, andV_ap, orV_ap, notE_ap, ifV_ap, chn_ap, noB_ap, intB_ap, sl3_ap, forS_ap, lcV_ap, yesT_ap, stD_val, stD_new0, stAll_nil, stAll_cons, stR_val, stR_new, argR_val, argR_new, argR_bor, argR_lend, addV_int, subV_int, negV_int, ltV_int, leV_int, gtV_int, geV_int, eqV_int, neV_int, eqV_str, neV_str, intV_int, absV_int, max2_int, min2_int, lenV_tup, lenV_lst, lenV_scr, lenV_lend, R.ok_bind, slotOf, List.map_cons, List.map_nil, List.length_cons, List.length_nil, List.cons_append, List.nil_append, List.append_nil, List.replicate, List.getElem?_cons_succ, List.getElem?_cons_zero, Res.items, List.set_cons_succ, List.set_cons_zero, Nat.reduceAdd, Nat.reduceSub, Res.pv, hcp, zs_length, decide_eq_true d0, Bool.not_true, Bool.false_eq_true, if_false, decide_eq_false d1]),
      seqS_next (ρ' := [.obj "Table" [("sizes", .tup (zn ss))], .val (.tup (zn ss)), .val (.tup (zs r)), .val (.int (o : Int)), .val (.int (gfold o r : Int)), .unset]) (by simp only [seqS_ap, nilS_ap, brkS_ap, contS_ap, badS_ap, raiseS_ap, frS_ap, setS_ap, dropS_ap, retS_ap, ifS_ap, asg_val, asg_new, asg_bor, retR_val, retR_new, rd_ap, retOwn_ap, cst_ap, bin2_ap, un1_ap, callN_ap, callF_ap, fldE_ap, aNil_ap, aCons_ap, tupD_ap, lstD_ap, nilD_ap, walkOf_ap, walkR1_ap, walkR2_ap, walkZ_ap, walkE_ap, walkV_ap, tupRevV_ap, andT_ap, orT_ap, notT_ap, boolOf_ap, boolR_bl, andV_ap, orV_ap, notE_ap, ifV_ap, chn_ap, noB_ap, intB_ap, sl3_ap, forS_ap, lcV_ap, yesT_ap, stD_val, stD_new0, stAll_nil, stAll_cons, stR_val, stR_new, argR_val, argR_new, argR_bor, argR_lend, addV_int, subV_int, negV_int, ltV_int, leV_int, gtV_int, geV_int, eqV_int, neV_int, eqV_str, neV_str, intV_int, absV_int, max2_int, min2_int, lenV_tup, lenV_lst, lenV_scr, lenV_lend, R.ok_bind, slotOf, List.map_cons, List.map_nil, List.length_cons, List.length_nil, List.cons_append, List.nil_append, List.append_nil, List.replicate, List.getElem?_cons_succ, List.getElem?_cons_zero, Res.items, List.set_cons_succ, List.set_cons_zero, Nat.reduceAdd, Nat.reduceSub, Res.pv, hdv])]
    have hc : callN tupleV (aCons (lcV 0 (walkOf (rd 2)) (asg 5) yesT (bin2 fdivV (rd 5) (rd 4)) [5]) aNil) [.obj "Table" [("sizes", .tup (zn ss))], .val (.tup (zn ss)), .val (.tup (zs r)), .val (.int (o : Int)), .val (.int (gfold o r : Int)), .unset] = .ok (.val (.tup (zs (quo (gfold o r) r)))) := by
      rw [callN_ap, aCons_ap, lc_zsT (row := r) (fun x => x.fdiv (gfold o r : Int)) (by rfl) (by omega) (fun x _ => by
        show bin2 fdivV (rd 5) (rd 4) [.obj "Table" [("sizes", .tup (zn ss))], .val (.tup (zn ss)), .val (.tup (zs r)), .val (.int (o : Int)), .val (.int (gfold o r : Int)), .val (.int x)] = _
        simp only [seqS_ap, nilS_ap, brkS_ap, contS_ap, badS_ap, raiseS_ap, frS_ap, setS_ap, dropS_ap, retS_ap, ifS_ap, asg_val, asg_new, asg_bor, retR_val, retR_new, rd_ap, retOwn_ap, cst_ap, bin2_ap, un1_ap, callN_ap, callF_ap, fldE_ap, aNil_ap, aCons_ap, tupD_ap, lstD_ap, nilD_ap, walkOf_ap, walkR1_ap, walkR2_ap, walkZ_ap, walkE_ap, walkV_ap, tupRevV_ap, andT_ap, orT_ap, notT_ap, boolOf_ap, boolR_bl, andV_ap, orV_ap, notE_ap, ifV_ap, chn_ap, noB_ap, intB_ap, sl3_ap, forS_ap, lcV_ap, yesT_ap, stD_val, stD_new0, stAll_nil, stAll_cons, stR_val, stR_new, argR_val, argR_new, argR_bor, argR_lend, addV_int, subV_int, negV_int, ltV_int, leV_int, gtV_int, geV_int, eqV_int, neV_int, eqV_str, neV_str, intV_int, absV_int, max2_int, min2_int, lenV_tup, lenV_lst, lenV_scr, lenV_lend, R.ok_bind, slotOf, List.map_cons, List.map_nil, List.length_cons, List.length_nil, List.cons_append, List.nil_append, List.append_nil, List.replicate, List.getElem?_cons_succ, List.getElem?_cons_zero, Res.items, List.set_cons_succ, List.set_cons_zero, Nat.reduceAdd, Nat.reduceSub, Res.pv, fdivV_pos (x := x) (y := (gfold o r : Int)) (by omega)]), R.ok_bind]
      rfl
    rw [seqS_next (f := frS 4 _) (ρ' := [.obj "Table" [("sizes", .tup (zn ss)), ("numbers", .tup (zs (quo (gfold o r) r)))], .val (.tup (zn ss)), .val (.tup (zs r)), .val (.int (o : Int)), .val (.int (gfold o r : Int)), .unset]) (by
        rw [frS_ap, frE_val (p := .int (gfold o r : Int)) (by rfl), fldS_obj (fs := [("sizes", .tup (zn ss))]) hc (by rfl) (by rfl) (by show 1 < 1000; decide)]
        rfl), frS_ap, frE_val (p := .int (gfold o r : Int)) (by rfl), fldS_obj (r := .val (.int ((o : Int).fdiv (gfold o r : Int)))) (p := .int ((o : Int).fdiv (gfold o r : Int))) (fs := [("sizes", .tup (zn ss)), ("numbers", .tup (zs (quo (gfold o r) r)))]) (by
      simp only [seqS_ap, nilS_ap, brkS_ap, contS_ap, badS_ap, raiseS_ap, frS_ap, setS_ap, dropS_ap, retS_ap, ifS_ap, asg_val, asg_new, asg_bor, retR_val, retR_new, rd_ap, retOwn_ap, cst_ap, bin2_ap, un1_ap, callN_ap, callF_ap, fldE_ap, aNil_ap, aCons_ap, tupD_ap, lstD_ap, nilD_ap, walkOf_ap, walkR1_ap, walkR2_ap, walkZ_ap, walkE_ap, walkV_ap, tupRevV_ap, andT_ap, orT_ap, notT_ap, boolOf_ap, boolR_bl, andV_ap, orV_ap, notE_ap, ifV_ap, chn_ap, noB_ap, intB_ap, sl3_ap, forS_ap, lcV_ap, yesT_ap, stD_val, stD_new0, stAll_nil, stAll_cons, stR_val, stR_new, argR_val, argR_new, argR_bor, argR_lend, addV_int, subV_int, negV_int, ltV_int, leV_int, gtV_int, geV_int, eqV_int, neV_int, eqV_str, neV_str, intV_int, absV_int, max2_int, min2_int, lenV_tup, lenV_lst, lenV_scr, lenV_lend, R.ok_bind, slotOf, List.map_cons, List.map_nil, List.length_cons, List.length_nil, List.cons_append, List.nil_append, List.append_nil, List.replicate, List.getElem?_cons_succ, List.getElem?_cons_zero, Res.items, List.set_cons_succ, List.set_cons_zero, Nat.reduceAdd, Nat.reduceSub, Res.pv, fdivV_pos (x := (o : Int)) (y := (gfold o r : Int)) (by omega)]) (by rfl) (by rfl) (by show 2 < 1000; decide)]
    rfl
  exact runInit_next (f := b_Table_init) b1 (by rfl)
theorem at_bad {ss : List Nat} {r : List Int} {o : Int} {ps : List Int} (hb : okB ss ps = false) : f_Table_at [.val (.ins "Table" (tableF ss r o)), .val (.tup (zs ps))] = .exc badX := by
  refine runFn_exc (show b_Table_at [.val (.ins "Table" (tableF ss r o)), .val (.tup (zs ps))] = .exc badX [.val (.ins "Table" (tableF ss r o)), .val (.tup (zs ps))] from ?_)
  unfold b_Table_at
  have e1 : fldE "Table" "numbers" (rd 0) [.val (.ins "Table" (tableF ss r o)), .val (.tup (zs ps))] = .ok (.val (.tup (zs r))) := by rw [fldE_ap]; rfl
  have e2 : fldE "Table" "sizes" (rd 0) [.val (.ins "Table" (tableF ss r o)), .val (.tup (zs ps))] = .ok (.val (.tup (zn ss))) := by rw [fldE_ap]; rfl
  rw [retS_ap, bin2_ap, e1, R.ok_bind, callF_ap, aCons_ap, e2, R.ok_bind, aCons_ap]
  show (match (f_place [.val (.tup (zn ss)), .val (.tup (zs ps))] >>= fun y => ixV (.val (.tup (zs r))) y) with | .ok r => retR r | .exc x => .exc x _ | .bad => .bad) = _
  rw [v_place_bad ss ps hb]; rfl
theorem row_ok {ss : List Nat} {rs : List (List Int)} {o : Nat} (G : GOk ss rs) (ho : 1 ≤ o ∧ o ≤ 1000) : ∃ r o', f_Game_row [.val (gameV ss rs (o : Int)), .val (.int 0)] = .ok (.val (.ins "Table" (tableF ss r o'))) := by
  have h1 := G.sz.n1
  have hl : 0 < rs.length := by rw [G.len]; omega
  have hr : rs[0]? = some rs[0] := List.getElem?_eq_getElem hl
  have hi := v_Table_init ss rs[0] o G.sz (G.row _ (List.getElem_mem _)) ho
  refine ⟨_, _, runFn_ret (show b_Game_row [.val (gameV ss rs (o : Int)), .val (.int 0)] = .ret (.val (.ins "Table" (tableF ss (quo (gfold o rs[0]) rs[0]) ((o : Int).fdiv (gfold o rs[0] : Int))))) from ?_)⟩
  unfold b_Game_row
  have q : callN lenV (aCons (fldE "Game" "sizes" (rd 0)) aNil) [.val (gameV ss rs (o : Int)), .val (.int 0)] = .ok (.val (.int (ss.length : Int))) := by
    rw [callN_ap, aCons_ap, fld_sizes (ss := ss) (rs := rs) (o := (o : Int)) (by rfl), R.ok_bind, aNil_ap, R.ok_bind, R.ok_bind, lenV_tup, zn_length]
  have d0 : (0 : Int) < (ss.length : Int) := by omega
  rw [seqS_next (ρ' := [.val (gameV ss rs (o : Int)), .val (.int 0)]) (by
    rw [ifS_ap, notT_ap, boolOf_ap, chn_ap, cst_ap, R.ok_bind, rd_ap]
    simp only [List.getElem?_cons_succ, List.getElem?_cons_zero, R.ok_bind, leV_int, boolR_bl, q, ltV_int, decide_eq_true d0, Int.le_refl, decide_true, if_true, Bool.not_true, Bool.false_eq_true, if_false, nilS_ap])]
  have ha : atI (rtup rs) 0 = some (.tup (zs rs[0])) := at_rtup (p := 0) hr
  rw [retS_ap, makeF_ap, aCons_ap, fld_sizes (ss := ss) (rs := rs) (o := (o : Int)) (by rfl), R.ok_bind, aCons_ap, bin2_ap, fld_pays (ss := ss) (rs := rs) (o := (o : Int)) (by rfl), R.ok_bind, rd_ap]
  simp only [List.getElem?_cons_succ, List.getElem?_cons_zero, R.ok_bind, ixV_tup, ha, aCons_ap, fld_over (ss := ss) (rs := rs) (o := (o : Int)) (e := rd 0) (ρ := [Slot.val (gameV ss rs (o : Int)), .val (.int 0)]) (by rfl), aNil_ap, List.map_cons, List.map_nil, List.append_nil, argR_val, hi, retR_val]
theorem ifk {d k : Int} {tl : Pv.Env} {f g : VS} : ifS (boolOf (bin2 eqV (rd 0) (cst (.int k)))) f g (.val (.int d) :: tl) = if d = k then f (.val (.int d) :: tl) else g (.val (.int d) :: tl) := by
  simp only [seqS_ap, nilS_ap, brkS_ap, contS_ap, badS_ap, raiseS_ap, frS_ap, setS_ap, dropS_ap, retS_ap, ifS_ap, asg_val, asg_new, asg_bor, retR_val, retR_new, rd_ap, retOwn_ap, cst_ap, bin2_ap, un1_ap, callN_ap, callF_ap, fldE_ap, aNil_ap, aCons_ap, tupD_ap, lstD_ap, nilD_ap, walkOf_ap, walkR1_ap, walkR2_ap, walkZ_ap, walkE_ap, walkV_ap, tupRevV_ap, andT_ap, orT_ap, notT_ap, boolOf_ap, boolR_bl, andV_ap, orV_ap, notE_ap, ifV_ap, chn_ap, noB_ap, intB_ap, sl3_ap, forS_ap, lcV_ap, yesT_ap, stD_val, stD_new0, stAll_nil, stAll_cons, stR_val, stR_new, argR_val, argR_new, argR_bor, argR_lend, addV_int, subV_int, negV_int, ltV_int, leV_int, gtV_int, geV_int, eqV_int, neV_int, eqV_str, neV_str, intV_int, absV_int, max2_int, min2_int, lenV_tup, lenV_lst, lenV_scr, lenV_lend, R.ok_bind, slotOf, List.map_cons, List.map_nil, List.length_cons, List.length_nil, List.cons_append, List.nil_append, List.append_nil, List.replicate, List.getElem?_cons_succ, List.getElem?_cons_zero, Res.items, List.set_cons_succ, List.set_cons_zero, Nat.reduceAdd, Nat.reduceSub, Res.pv]
  by_cases h : d = k
  · rw [decide_eq_true h, if_pos rfl, if_pos h]
  · rw [decide_eq_false h, if_neg Bool.false_ne_true, if_neg h]
theorem set_exc {fn : Fn} {ds : List PV} {a : VA} {ρ : Pv.Env} {rs : List Res} {i : Nat} (h1 : a ρ = .ok rs) (h2 : fn (rs.map argR ++ ds.map .val) = .exc badX) : setS i (callF fn ds a) ρ = .exc badX ρ := by rw [setS_ap, callF_ap, h1, R.ok_bind, h2]
theorem setm_exc {c m : Str} {fn : Fn} {ds : List PV} {e : VE} {a : VA} {ρ : Pv.Env} {r : Res} {rs : List Res} {i : Nat} (ho : e ρ = .ok r) (hi : isIns c m r = true) (h1 : a ρ = .ok rs) (h2 : fn (r :: (rs.map argR ++ ds.map .val)) = .exc badX) : setS i (methF c m fn ds e a) ρ = .exc badX ρ := by rw [setS_ap, methF_ok ho hi h1, h2]
theorem v_law_refuses {ss : List Nat} {rs : List (List Int)} {o : Nat} {cs : List Nat} {ps : List Int} {p c : Int} (G : GOk ss rs) (ok : Ok ss cs) (ho : 1 ≤ o ∧ o ≤ 1000) (hb : okB ss ps = false) (hp : pB ss.length p = false) (hp2 : chB ss p 0 = false) (hc : chB ss 0 c = false) (d : Nat) (hd : d < 11) :
    f_law_refuses [.val (.int (d : Int)), .val (gameV ss rs (o : Int)), .val (.tup (zn cs)), .val (.tup (zs ps)), .val (.int p), .val (.int c)] = .ok (.val (.bl true)) := by
  refine runFn_ret (show b_law_refuses [.val (.int (d : Int)), .val (gameV ss rs (o : Int)), .val (.tup (zn cs)), .val (.tup (zs ps)), .val (.int p), .val (.int c), .unset, .unset] = _ from ?_)
  unfold b_law_refuses
  rw [seqS_next (ρ' := [.val (.int (d : Int)), .val (gameV ss rs (o : Int)), .val (.tup (zn cs)), .val (.tup (zs ps)), .val (.int p), .val (.int c), .val (.int 0), .unset]) (by rfl)]
  refine seqS_ret ?_
  have fin : ∀ (f : VS), f [.val (.int (d : Int)), .val (gameV ss rs (o : Int)), .val (.tup (zn cs)), .val (.tup (zs ps)), .val (.int p), .val (.int c), .val (.int 0), .unset] = .exc badX [.val (.int (d : Int)), .val (gameV ss rs (o : Int)), .val (.tup (zn cs)), .val (.tup (zs ps)), .val (.int p), .val (.int c), .val (.int 0), .unset] →
      tryS 7 mt_Fault f (retS (andV (isE 7 is_BadPlay) (andV (notE (isE 7 is_BadGame)) (notE (isE 7 is_TooMany))))) [.val (.int (d : Int)), .val (gameV ss rs (o : Int)), .val (.tup (zn cs)), .val (.tup (zs ps)), .val (.int p), .val (.int c), .val (.int 0), .unset] = .ret (.val (.bl true)) := fun f hf => by
    unfold tryS
    rw [hf]
    rfl
  apply fin
  obtain ⟨r0, o', hrow⟩ := row_ok G ho
  match d, hd with
  | 0, _ => rw [ifk, if_pos (by rfl)]; exact set_exc (rs := [.val (gameV ss rs (o : Int)), .val (.tup (zs ps)), .val (.int 0), .val (.int 0)]) (by rfl) (v_gain_badplay hb 0 0)
  | 1, _ => rw [ifk, if_neg (by decide), ifk, if_pos (by rfl)]; exact set_exc (rs := [.val (gameV ss rs (o : Int)), .val (.tup (zn cs)), .val (.int p), .val (.int 0)]) (by rfl) (v_gain_badch G ok p 0 hp2)
  | 2, _ => rw [ifk, if_neg (by decide), ifk, if_neg (by decide), ifk, if_pos (by rfl)]; exact set_exc (rs := [.val (gameV ss rs (o : Int)), .val (.tup (zn cs)), .val (.int 0), .val (.int c)]) (by rfl) (v_gain_badch G ok 0 c hc)
  | 3, _ => rw [ifk, if_neg (by decide), ifk, if_neg (by decide), ifk, if_neg (by decide), ifk, if_pos (by rfl)]; exact set_exc (rs := [.val (gameV ss rs (o : Int)), .val (.tup (zs ps)), .val (.str "better")]) (by rfl) (v_moves_bad hb _)
  | 4, _ => rw [ifk, if_neg (by decide), ifk, if_neg (by decide), ifk, if_neg (by decide), ifk, if_neg (by decide), ifk, if_pos (by rfl)]; exact set_exc (rs := [.val (gameV ss rs (o : Int)), .val (.tup (zs ps))]) (by rfl) (v_slack_bad hb)
  | 5, _ => rw [ifk, if_neg (by decide), ifk, if_neg (by decide), ifk, if_neg (by decide), ifk, if_neg (by decide), ifk, if_neg (by decide), ifk, if_pos (by rfl)]; exact setm_exc (rs := [.val (.tup (zs ps)), .val (.int 0)]) (r := .val (gameV ss rs (o : Int))) (by rfl) (by rfl) (by rfl) (pay_badplay hb 0)
  | 6, _ => rw [ifk, if_neg (by decide), ifk, if_neg (by decide), ifk, if_neg (by decide), ifk, if_neg (by decide), ifk, if_neg (by decide), ifk, if_neg (by decide), ifk, if_pos (by rfl)]; exact setm_exc (rs := [.val (.tup (zn cs)), .val (.int p)]) (r := .val (gameV ss rs (o : Int))) (by rfl) (by rfl) (by rfl) (pay_badpers G ok hp)
  | 7, _ => rw [ifk, if_neg (by decide), ifk, if_neg (by decide), ifk, if_neg (by decide), ifk, if_neg (by decide), ifk, if_neg (by decide), ifk, if_neg (by decide), ifk, if_neg (by decide), ifk, if_pos (by rfl)]; exact setm_exc (rs := [.val (.int p)]) (r := .val (gameV ss rs (o : Int))) (by rfl) (by rfl) (by rfl) (row_badpers hp)
  | 8, _ =>
    rw [ifk, if_neg (by decide), ifk, if_neg (by decide), ifk, if_neg (by decide), ifk, if_neg (by decide), ifk, if_neg (by decide), ifk, if_neg (by decide), ifk, if_neg (by decide), ifk, if_neg (by decide), ifk, if_pos (by rfl)]
    exact setm_exc (rs := [.val (.tup (zs ps))]) (r := .val (.ins "Table" (tableF ss r0 o'))) ((methF_ok (r := .val (gameV ss rs (o : Int))) (rs := [.val (.int 0)]) (by rfl) (by rfl) (by rfl)).trans hrow) (by rfl) (by rfl) (at_bad hb)
  | 9, _ => rw [ifk, if_neg (by decide), ifk, if_neg (by decide), ifk, if_neg (by decide), ifk, if_neg (by decide), ifk, if_neg (by decide), ifk, if_neg (by decide), ifk, if_neg (by decide), ifk, if_neg (by decide), ifk, if_neg (by decide), ifk, if_pos (by rfl)]; exact setm_exc (rs := [.val (.tup (zs ps)), .val (.int 0), .val (.int 1), .val (.int 0)]) (r := .val (gameV ss rs (o : Int))) (by rfl) (by rfl) (by rfl) (with_badplay hb 0 1 0)
  | 10, _ => rw [ifk, if_neg (by decide), ifk, if_neg (by decide), ifk, if_neg (by decide), ifk, if_neg (by decide), ifk, if_neg (by decide), ifk, if_neg (by decide), ifk, if_neg (by decide), ifk, if_neg (by decide), ifk, if_neg (by decide), ifk, if_neg (by decide)]; exact setm_exc (rs := [.val (.tup (zn cs)), .val (.int p), .val (.int 1)]) (r := .val (gameV ss rs (o : Int))) (by rfl) (by rfl) (by rfl) (with_badpers G ok hp 1 1)
  | n + 11, h => omega
end
end K88
namespace K88
open PySem PySem.Spec L2 Pv Mz
noncomputable section
theorem lay_zs : ∀ l : List Int, PyData.canLayAll0 (toDs (zs l)) = true ∧ PyData.depthAll (toDs (zs l)) = 0
  | [] => ⟨by simp only [zs_nil, toDs, PyData.canLayAll0], by simp only [zs_nil, toDs, PyData.depthAll]⟩
  | x :: l => by
    obtain ⟨h1, h2⟩ := lay_zs l
    simp only [zs_cons, toDs, PV.toD, PyData.canLayAll0, PyData.canLay0, PyData.depthAll, PyData.depth, h1, h2]
    exact ⟨rfl, rfl⟩
theorem lay_tups : ∀ {xs : List PV}, Tups xs → PyData.canLayAll0 (toDs xs) = true ∧ PyData.depthAll (toDs xs) ≤ 1
  | [], _ => ⟨by simp only [toDs, PyData.canLayAll0], by simp only [toDs, PyData.depthAll]; omega⟩
  | x :: xs, h => by
    obtain ⟨h1, h2⟩ := lay_tups (xs := xs) fun y hy => h y (by simp [hy])
    obtain ⟨l, rfl, _⟩ := h x (by simp)
    obtain ⟨q1, q2⟩ := lay_zs l
    simp only [toDs, PV.toD, PyData.canLayAll0, PyData.canLay0, PyData.depthAll, PyData.depth, h1, q1, q2, Bool.and_self, true_and]
    omega
theorem eq_nil {xs : List PV} (h : Tups xs) : eqV (.new 0 xs) (.new 0 []) = .ok (.val (.bl (decide (xs.length = 0)))) := by
  obtain ⟨h1, h2⟩ := lay_tups h
  have s1 : SeqAt.shaped (PV.toD (.lst xs)) = true := by
    unfold SeqAt.shaped
    simp only [PV.toD, PyData.canLay0, PyData.depth, h1, Bool.true_and, decide_eq_true_eq]
    omega
  have s2 : SeqAt.shaped (PV.toD (.lst [])) = true := by
    unfold SeqAt.shaped
    simp only [PV.toD, toDs, PyData.canLay0, PyData.canLayAll0, PyData.depth, PyData.depthAll, Bool.true_and, decide_eq_true_eq]
    omega
  have e : eqB (.lst xs) (.lst []) = some (PyData.eqv (PV.toD (.lst xs)) (PV.toD (.lst []))) := by
    show (if SeqAt.shaped (PV.toD (.lst xs)) = true ∧ SeqAt.shaped (PV.toD (.lst [])) = true then _ else _) = _
    rw [if_pos ⟨s1, s2⟩]
  unfold Pv.eqV
  simp only [Res.pv, e]
  cases xs with
  | nil => simp only [PV.toD, toDs, PyData.eqv, PyData.eqvAll, List.length_nil, decide_true]
  | cons x xs => simp only [PV.toD, toDs, PyData.eqv, PyData.eqvAll, List.length_cons]; rw [decide_eq_false (by omega)]
theorem okB_bad : ∀ {ss : List Nat} {ps : List Int} {k : Nat} {x : Int} {s : Nat}, ps[k]? = some x → ss[k]? = some s → ¬ (0 ≤ x ∧ x < (s : Int)) → okB ss ps = false
  | [], _, k, _, _, _, h, _ => by simp at h
  | _ :: _, [], k, _, _, h, _, _ => by simp at h
  | a :: ss, c :: ps, 0, x, s, h1, h2, h3 => by
    simp at h1 h2
    subst h1 h2
    show (decide (0 ≤ c) && (decide (c < (a : Int)) && okB ss ps)) = false
    by_cases q : 0 ≤ c
    · rw [decide_eq_false (show ¬ c < (a : Int) by omega)]; simp
    · rw [decide_eq_false q]; rfl
  | a :: ss, c :: ps, k + 1, x, s, h1, h2, h3 => by
    show (decide (0 ≤ c) && (decide (c < (a : Int)) && okB ss ps)) = false
    rw [okB_bad (k := k) (by simpa using h1) (by simpa using h2) h3, Bool.and_false, Bool.and_false]
theorem zs_append {xs ys : List Int} : zs xs ++ zs ys = zs (xs ++ ys) := by unfold zs; rw [List.map_append]
theorem zs_take (xs : List Int) (p : Nat) : (zs xs).take p = zs (xs.take p) := by unfold zs; rw [List.map_take]
theorem zs_drop (xs : List Int) (p : Nat) : (zs xs).drop p = zs (xs.drop p) := by unfold zs; rw [List.map_drop]
theorem nI_length (cs : List Nat) : (nI cs).length = cs.length := by unfold nI; rw [List.length_map]
theorem v_law_bad_play {ss cs : List Nat} (h : Sizes ss) (ok : Ok ss cs) (n : Nat) : ∃ ps, okB ss ps = false ∧ f_law_bad_play [.val (.lst (zn ss)), .val (.tup (zn cs)), .val (.int (n : Int))] = .ok (.val (.tup (zs ps))) := by
  have h1 := h.n1
  have h4 := h.n4
  have hl := ok.length
  have hk : n / 4 % ss.length < ss.length := Nat.mod_lt _ (by omega)
  have hss : ss[n / 4 % ss.length]? = some ss[n / 4 % ss.length] := List.getElem?_eq_getElem hk
  have hat : atI (zn ss) ((n / 4 % ss.length : Nat) : Int) = some (.int (ss[n / 4 % ss.length] : Int)) := at_zn hss
  rw [← zs_nI cs]
  generalize hkk : n / 4 % ss.length = k at *
  have hlk : k < (nI cs).length := by rw [nI_length]; omega
  have hll : (nI cs).length = ss.length := by rw [nI_length, hl]
  have hdiv : (0 : Int) < 4 ∧ (4 : Int) < 2 ^ 1000 := by
    have h2 : (2 : Int) ^ 1000 > 1000 := by decide
    omega
  have hne : (ss.length : Int) ≠ 0 := by omega
  have m1 : Int.fmod (n : Int) 4 = ((n % 4 : Nat) : Int) := fmod_nat n 4
  have m2 : Int.fmod (Int.fdiv (n : Int) 4) (ss.length : Int) = (k : Int) := by rw [show Int.fdiv (n : Int) 4 = ((n / 4 : Nat) : Int) from fdiv_nat n 4, fmod_nat, hkk]
  have e0 : ∀ z, (seqS (ifS (boolOf (bin2 eqV (rd 3) (cst (.int 0))))
    (retS (bin2 addV (sl3 (rd 1) noB (intB (rd 4))) (sl3 (rd 1) (intB (bin2 addV (rd 4) (cst (.int 1)))) noB)))
    nilS)
    (seqS (ifS (boolOf (bin2 eqV (rd 3) (cst (.int 1))))
    (retS (bin2 addV (rd 1) (tupD (aCons (cst (.int 0)) aNil))))
    nilS)
    (seqS (ifS (boolOf (bin2 eqV (rd 3) (cst (.int 2))))
    (retS (bin2 addV (bin2 addV (sl3 (rd 1) noB (intB (rd 4))) (tupD (aCons (un1 negV (cst (.int 1))) aNil))) (sl3 (rd 1) (intB (bin2 addV (rd 4) (cst (.int 1)))) noB)))
    nilS)
    (retS (bin2 addV (bin2 addV (sl3 (rd 1) noB (intB (rd 4))) (tupD (aCons (bin2 ixV (rd 0) (rd 4)) aNil))) (sl3 (rd 1) (intB (bin2 addV (rd 4) (cst (.int 1)))) noB)))))) [.val (.lst (zn ss)), .val (.tup (zs (nI cs))), .val (.int (n : Int)), .val (.int ((n % 4 : Nat) : Int)), .val (.int (k : Int))] = .ret (.val (.tup (zs z))) →
      f_law_bad_play [.val (.lst (zn ss)), .val (.tup (zs (nI cs))), .val (.int (n : Int))] = .ok (.val (.tup (zs z))) := fun z hz => by
    refine runFn_ret (show b_law_bad_play [.val (.lst (zn ss)), .val (.tup (zs (nI cs))), .val (.int (n : Int)), .unset, .unset] = _ from ?_)
    unfold b_law_bad_play
    rw [seqS_next (ρ' := [.val (.lst (zn ss)), .val (.tup (zs (nI cs))), .val (.int (n : Int)), .val (.int ((n % 4 : Nat) : Int)), .unset]) (by simp only [seqS_ap, nilS_ap, brkS_ap, contS_ap, badS_ap, raiseS_ap, frS_ap, setS_ap, dropS_ap, retS_ap, ifS_ap, asg_val, asg_new, asg_bor, retR_val, retR_new, rd_ap, retOwn_ap, cst_ap, bin2_ap, un1_ap, callN_ap, callF_ap, fldE_ap, aNil_ap, aCons_ap, tupD_ap, lstD_ap, nilD_ap, walkOf_ap, walkR1_ap, walkR2_ap, walkZ_ap, walkE_ap, walkV_ap, tupRevV_ap, andT_ap, orT_ap, notT_ap, boolOf_ap, boolR_bl, andV_ap, orV_ap, notE_ap, ifV_ap, chn_ap, noB_ap, intB_ap, sl3_ap, forS_ap, lcV_ap, yesT_ap, stD_val, stD_new0, stAll_nil, stAll_cons, stR_val, stR_new, argR_val, argR_new, argR_bor, argR_lend, addV_int, subV_int, negV_int, ltV_int, leV_int, gtV_int, geV_int, eqV_int, neV_int, eqV_str, neV_str, intV_int, absV_int, max2_int, min2_int, lenV_tup, lenV_lst, lenV_scr, lenV_lend, R.ok_bind, slotOf, List.map_cons, List.map_nil, List.length_cons, List.length_nil, List.cons_append, List.nil_append, List.append_nil, List.replicate, List.getElem?_cons_succ, List.getElem?_cons_zero, Res.items, List.set_cons_succ, List.set_cons_zero, Nat.reduceAdd, Nat.reduceSub, Res.pv, modV_int (x := (n : Int)) (y := 4) (by decide), m1]),
      seqS_next (ρ' := [.val (.lst (zn ss)), .val (.tup (zs (nI cs))), .val (.int (n : Int)), .val (.int ((n % 4 : Nat) : Int)), .val (.int (k : Int))]) (by simp only [seqS_ap, nilS_ap, brkS_ap, contS_ap, badS_ap, raiseS_ap, frS_ap, setS_ap, dropS_ap, retS_ap, ifS_ap, asg_val, asg_new, asg_bor, retR_val, retR_new, rd_ap, retOwn_ap, cst_ap, bin2_ap, un1_ap, callN_ap, callF_ap, fldE_ap, aNil_ap, aCons_ap, tupD_ap, lstD_ap, nilD_ap, walkOf_ap, walkR1_ap, walkR2_ap, walkZ_ap, walkE_ap, walkV_ap, tupRevV_ap, andT_ap, orT_ap, notT_ap, boolOf_ap, boolR_bl, andV_ap, orV_ap, notE_ap, ifV_ap, chn_ap, noB_ap, intB_ap, sl3_ap, forS_ap, lcV_ap, yesT_ap, stD_val, stD_new0, stAll_nil, stAll_cons, stR_val, stR_new, argR_val, argR_new, argR_bor, argR_lend, addV_int, subV_int, negV_int, ltV_int, leV_int, gtV_int, geV_int, eqV_int, neV_int, eqV_str, neV_str, intV_int, absV_int, max2_int, min2_int, lenV_tup, lenV_lst, lenV_scr, lenV_lend, R.ok_bind, slotOf, List.map_cons, List.map_nil, List.length_cons, List.length_nil, List.cons_append, List.nil_append, List.append_nil, List.replicate, List.getElem?_cons_succ, List.getElem?_cons_zero, Res.items, List.set_cons_succ, List.set_cons_zero, Nat.reduceAdd, Nat.reduceSub, Res.pv, fdivV_pos (x := (n : Int)) hdiv, zn_length, modV_int hne, m2])]
    exact hz
  have t1 : sl3 (rd 1) noB (intB (rd 4)) [.val (.lst (zn ss)), .val (.tup (zs (nI cs))), .val (.int (n : Int)), .val (.int ((n % 4 : Nat) : Int)), .val (.int (k : Int))] = .ok (.val (.tup (zs ((nI cs).take k)))) := by simp only [seqS_ap, nilS_ap, brkS_ap, contS_ap, badS_ap, raiseS_ap, frS_ap, setS_ap, dropS_ap, retS_ap, ifS_ap, asg_val, asg_new, asg_bor, retR_val, retR_new, rd_ap, retOwn_ap, cst_ap, bin2_ap, un1_ap, callN_ap, callF_ap, fldE_ap, aNil_ap, aCons_ap, tupD_ap, lstD_ap, nilD_ap, walkOf_ap, walkR1_ap, walkR2_ap, walkZ_ap, walkE_ap, walkV_ap, tupRevV_ap, andT_ap, orT_ap, notT_ap, boolOf_ap, boolR_bl, andV_ap, orV_ap, notE_ap, ifV_ap, chn_ap, noB_ap, intB_ap, sl3_ap, forS_ap, lcV_ap, yesT_ap, stD_val, stD_new0, stAll_nil, stAll_cons, stR_val, stR_new, argR_val, argR_new, argR_bor, argR_lend, addV_int, subV_int, negV_int, ltV_int, leV_int, gtV_int, geV_int, eqV_int, neV_int, eqV_str, neV_str, intV_int, absV_int, max2_int, min2_int, lenV_tup, lenV_lst, lenV_scr, lenV_lend, R.ok_bind, slotOf, List.map_cons, List.map_nil, List.length_cons, List.length_nil, List.cons_append, List.nil_append, List.append_nil, List.replicate, List.getElem?_cons_succ, List.getElem?_cons_zero, Res.items, List.set_cons_succ, List.set_cons_zero, Nat.reduceAdd, Nat.reduceSub, Res.pv, slice_take, zs_take]
  have t3 : sl3 (rd 1) (intB (bin2 addV (rd 4) (cst (.int 1)))) noB [.val (.lst (zn ss)), .val (.tup (zs (nI cs))), .val (.int (n : Int)), .val (.int ((n % 4 : Nat) : Int)), .val (.int (k : Int))] = .ok (.val (.tup (zs ((nI cs).drop (k + 1))))) := by
    have : sliceV (.val (.tup (zs (nI cs)))) (some ((k : Int) + 1)) none = .ok (.val (.tup ((zs (nI cs)).drop (k + 1)))) := slice_drop (p := k + 1)
    simp only [seqS_ap, nilS_ap, brkS_ap, contS_ap, badS_ap, raiseS_ap, frS_ap, setS_ap, dropS_ap, retS_ap, ifS_ap, asg_val, asg_new, asg_bor, retR_val, retR_new, rd_ap, retOwn_ap, cst_ap, bin2_ap, un1_ap, callN_ap, callF_ap, fldE_ap, aNil_ap, aCons_ap, tupD_ap, lstD_ap, nilD_ap, walkOf_ap, walkR1_ap, walkR2_ap, walkZ_ap, walkE_ap, walkV_ap, tupRevV_ap, andT_ap, orT_ap, notT_ap, boolOf_ap, boolR_bl, andV_ap, orV_ap, notE_ap, ifV_ap, chn_ap, noB_ap, intB_ap, sl3_ap, forS_ap, lcV_ap, yesT_ap, stD_val, stD_new0, stAll_nil, stAll_cons, stR_val, stR_new, argR_val, argR_new, argR_bor, argR_lend, addV_int, subV_int, negV_int, ltV_int, leV_int, gtV_int, geV_int, eqV_int, neV_int, eqV_str, neV_str, intV_int, absV_int, max2_int, min2_int, lenV_tup, lenV_lst, lenV_scr, lenV_lend, R.ok_bind, slotOf, List.map_cons, List.map_nil, List.length_cons, List.length_nil, List.cons_append, List.nil_append, List.append_nil, List.replicate, List.getElem?_cons_succ, List.getElem?_cons_zero, Res.items, List.set_cons_succ, List.set_cons_zero, Nat.reduceAdd, Nat.reduceSub, Res.pv, this, zs_drop]
  have no : ∀ (j : Int) (f : VS), ¬ ((n % 4 : Nat) : Int) = j → ifS (boolOf (bin2 eqV (rd 3) (cst (.int j)))) f nilS [.val (.lst (zn ss)), .val (.tup (zs (nI cs))), .val (.int (n : Int)), .val (.int ((n % 4 : Nat) : Int)), .val (.int (k : Int))] = .next [.val (.lst (zn ss)), .val (.tup (zs (nI cs))), .val (.int (n : Int)), .val (.int ((n % 4 : Nat) : Int)), .val (.int (k : Int))] := fun j f hj => by simp only [seqS_ap, nilS_ap, brkS_ap, contS_ap, badS_ap, raiseS_ap, frS_ap, setS_ap, dropS_ap, retS_ap, ifS_ap, asg_val, asg_new, asg_bor, retR_val, retR_new, rd_ap, retOwn_ap, cst_ap, bin2_ap, un1_ap, callN_ap, callF_ap, fldE_ap, aNil_ap, aCons_ap, tupD_ap, lstD_ap, nilD_ap, walkOf_ap, walkR1_ap, walkR2_ap, walkZ_ap, walkE_ap, walkV_ap, tupRevV_ap, andT_ap, orT_ap, notT_ap, boolOf_ap, boolR_bl, andV_ap, orV_ap, notE_ap, ifV_ap, chn_ap, noB_ap, intB_ap, sl3_ap, forS_ap, lcV_ap, yesT_ap, stD_val, stD_new0, stAll_nil, stAll_cons, stR_val, stR_new, argR_val, argR_new, argR_bor, argR_lend, addV_int, subV_int, negV_int, ltV_int, leV_int, gtV_int, geV_int, eqV_int, neV_int, eqV_str, neV_str, intV_int, absV_int, max2_int, min2_int, lenV_tup, lenV_lst, lenV_scr, lenV_lend, R.ok_bind, slotOf, List.map_cons, List.map_nil, List.length_cons, List.length_nil, List.cons_append, List.nil_append, List.append_nil, List.replicate, List.getElem?_cons_succ, List.getElem?_cons_zero, Res.items, List.set_cons_succ, List.set_cons_zero, Nat.reduceAdd, Nat.reduceSub, Res.pv, decide_eq_false hj, Bool.false_eq_true, if_false]
  have yes : ∀ (j : Int) (f : VS), ((n % 4 : Nat) : Int) = j → ifS (boolOf (bin2 eqV (rd 3) (cst (.int j)))) f nilS [.val (.lst (zn ss)), .val (.tup (zs (nI cs))), .val (.int (n : Int)), .val (.int ((n % 4 : Nat) : Int)), .val (.int (k : Int))] = f [.val (.lst (zn ss)), .val (.tup (zs (nI cs))), .val (.int (n : Int)), .val (.int ((n % 4 : Nat) : Int)), .val (.int (k : Int))] := fun j f hj => by simp only [seqS_ap, nilS_ap, brkS_ap, contS_ap, badS_ap, raiseS_ap, frS_ap, setS_ap, dropS_ap, retS_ap, ifS_ap, asg_val, asg_new, asg_bor, retR_val, retR_new, rd_ap, retOwn_ap, cst_ap, bin2_ap, un1_ap, callN_ap, callF_ap, fldE_ap, aNil_ap, aCons_ap, tupD_ap, lstD_ap, nilD_ap, walkOf_ap, walkR1_ap, walkR2_ap, walkZ_ap, walkE_ap, walkV_ap, tupRevV_ap, andT_ap, orT_ap, notT_ap, boolOf_ap, boolR_bl, andV_ap, orV_ap, notE_ap, ifV_ap, chn_ap, noB_ap, intB_ap, sl3_ap, forS_ap, lcV_ap, yesT_ap, stD_val, stD_new0, stAll_nil, stAll_cons, stR_val, stR_new, argR_val, argR_new, argR_bor, argR_lend, addV_int, subV_int, negV_int, ltV_int, leV_int, gtV_int, geV_int, eqV_int, neV_int, eqV_str, neV_str, intV_int, absV_int, max2_int, min2_int, lenV_tup, lenV_lst, lenV_scr, lenV_lend, R.ok_bind, slotOf, List.map_cons, List.map_nil, List.length_cons, List.length_nil, List.cons_append, List.nil_append, List.append_nil, List.replicate, List.getElem?_cons_succ, List.getElem?_cons_zero, Res.items, List.set_cons_succ, List.set_cons_zero, Nat.reduceAdd, Nat.reduceSub, Res.pv, decide_eq_true hj, if_true]
  have mid : ∀ (x : Int) (e : VE), tupD (aCons e aNil) [.val (.lst (zn ss)), .val (.tup (zs (nI cs))), .val (.int (n : Int)), .val (.int ((n % 4 : Nat) : Int)), .val (.int (k : Int))] = .ok (.val (.tup (zs [x]))) →
      retS (bin2 addV (bin2 addV (sl3 (rd 1) noB (intB (rd 4))) (tupD (aCons e aNil))) (sl3 (rd 1) (intB (bin2 addV (rd 4) (cst (.int 1)))) noB)) [.val (.lst (zn ss)), .val (.tup (zs (nI cs))), .val (.int (n : Int)), .val (.int ((n % 4 : Nat) : Int)), .val (.int (k : Int))] = .ret (.val (.tup (zs ((nI cs).take k ++ [x] ++ (nI cs).drop (k + 1))))) := fun x e he => by
    rw [retS_ap, bin2_ap, bin2_ap, t1, R.ok_bind, he, R.ok_bind, addV_tup (by rw [zs_length, zs_length, List.length_take]; simp; omega), R.ok_bind, t3, R.ok_bind, zs_append, addV_tup (by rw [zs_length, zs_length, List.length_append, List.length_take, List.length_drop]; simp; omega), zs_append]; rfl
  have getk : ∀ x : Int, ((nI cs).take k ++ [x] ++ (nI cs).drop (k + 1))[k]? = some x := fun x => by
    rw [List.append_assoc, List.getElem?_append_right (by rw [List.length_take]; omega), List.length_take, Nat.min_eq_left (by omega), Nat.sub_self]; rfl
  have h4' : n % 4 < 4 := Nat.mod_lt _ (by decide)
  by_cases q0 : ((n % 4 : Nat) : Int) = 0
  · refine ⟨(nI cs).take k ++ (nI cs).drop (k + 1), okB_length (by rw [List.length_append, List.length_take, List.length_drop]; omega), e0 _ (seqS_ret ((yes 0 _ q0).trans ?_))⟩
    rw [retS_ap, bin2_ap, t1, R.ok_bind, t3, R.ok_bind, addV_tup (by rw [zs_length, zs_length, List.length_take, List.length_drop]; omega), zs_append]; rfl
  by_cases q1 : ((n % 4 : Nat) : Int) = 1
  · refine ⟨nI cs ++ [0], okB_length (by rw [List.length_append]; simp; omega), e0 _ ((seqS_next (no 0 _ q0)).trans (seqS_ret ((yes 1 _ q1).trans ?_)))⟩
    rw [retS_ap, bin2_ap, show rd 1 [.val (.lst (zn ss)), .val (.tup (zs (nI cs))), .val (.int (n : Int)), .val (.int ((n % 4 : Nat) : Int)), .val (.int (k : Int))] = .ok (.val (.tup (zs (nI cs)))) from rfl, R.ok_bind, tup_val (rs := [.val (.int 0)]) (ps := zs [0]) (by rfl) (by rfl) (by decide), R.ok_bind, addV_tup (by rw [zs_length, zs_length]; simp; omega), zs_append]; rfl
  by_cases q2 : ((n % 4 : Nat) : Int) = 2
  · refine ⟨_, okB_bad (getk (-1)) hss (by omega), e0 _ ((seqS_next (no 0 _ q0)).trans ((seqS_next (no 1 _ q1)).trans (seqS_ret ((yes 2 _ q2).trans ?_))))⟩
    exact mid (-1) _ (tup_val (rs := [.val (.int (-1))]) (by rfl) (by rfl) (by decide))
  · refine ⟨_, okB_bad (getk (ss[k] : Int)) hss (by omega), e0 _ ((seqS_next (no 0 _ q0)).trans ((seqS_next (no 1 _ q1)).trans ((seqS_next (no 2 _ q2)).trans ?_)))⟩
    exact mid (ss[k] : Int) _ (tup_val (rs := [.val (.int (ss[k] : Int))]) (by simp only [seqS_ap, nilS_ap, brkS_ap, contS_ap, badS_ap, raiseS_ap, frS_ap, setS_ap, dropS_ap, retS_ap, ifS_ap, asg_val, asg_new, asg_bor, retR_val, retR_new, rd_ap, retOwn_ap, cst_ap, bin2_ap, un1_ap, callN_ap, callF_ap, fldE_ap, aNil_ap, aCons_ap, tupD_ap, lstD_ap, nilD_ap, walkOf_ap, walkR1_ap, walkR2_ap, walkZ_ap, walkE_ap, walkV_ap, tupRevV_ap, andT_ap, orT_ap, notT_ap, boolOf_ap, boolR_bl, andV_ap, orV_ap, notE_ap, ifV_ap, chn_ap, noB_ap, intB_ap, sl3_ap, forS_ap, lcV_ap, yesT_ap, stD_val, stD_new0, stAll_nil, stAll_cons, stR_val, stR_new, argR_val, argR_new, argR_bor, argR_lend, addV_int, subV_int, negV_int, ltV_int, leV_int, gtV_int, geV_int, eqV_int, neV_int, eqV_str, neV_str, intV_int, absV_int, max2_int, min2_int, lenV_tup, lenV_lst, lenV_scr, lenV_lend, R.ok_bind, slotOf, List.map_cons, List.map_nil, List.length_cons, List.length_nil, List.cons_append, List.nil_append, List.append_nil, List.replicate, List.getElem?_cons_succ, List.getElem?_cons_zero, Res.items, List.set_cons_succ, List.set_cons_zero, Nat.reduceAdd, Nat.reduceSub, Res.pv, ixV_lst, hat]) (by rfl) (by show 1 ≤ 100000; decide))
end
end K88
namespace K88
open PySem PySem.Spec L2 Pv Mz
noncomputable section
theorem frE_own {j n : Nat} {ρ : Pv.Env} {xs : List PV} (h : ρ[j]? = some (.own n xs)) : frE j ρ = ρ.set j (.val (.lst xs)) := by unfold frE; rw [h]
theorem lc_rangeG {i : Nat} {src te : VE} {ρ : Pv.Env} {s : Nat} (fo : Nat → PV) (hs : src ρ = .ok (.val (.int (s : Int)))) (hn : s ≤ 1000) (hx : ∀ c, c < s → ∃ y, te ((wipeE ρ [i]).set i (.val (.int (c : Int)))) = .ok y ∧ stD 0 y = .ok (fo c)) : lcV 0 (walkR1 src) (asg i) yesT te [i] ρ = .ok (.new 0 ((List.range' 0 s).map fo)) :=
  lcV_ok (walkR1_nat hs (by omega)) (runLc_list (fi := fun (k : Nat) => Res.val (.int (k : Int))) (fo := fo) (List.range' 0 s) fun c hc => by
    obtain ⟨y, h1, h2⟩ := hx c (by have := List.mem_range'_1.mp hc; omega)
    exact ⟨_, y, rfl, h1, h2⟩) (by rw [List.length_map, List.length_range']; omega)
theorem lc_rows {i : Nat} {src te : VE} {ρ : Pv.Env} {rs : List (List Int)} (fo : List Int → PV) (hs : src ρ = .ok (.val (.lst (rlst rs)))) (hn : rs.length ≤ 1000) (hx : ∀ r ∈ rs, ∃ y, te ((wipeE ρ [i]).set i (.val (.lst (zs r)))) = .ok y ∧ stD 0 y = .ok (fo r)) : lcV 0 (walkOf src) (asg i) yesT te [i] ρ = .ok (.new 0 (rs.map fo)) := by
  refine lcV_ok (walkOf_lst hs) ?_ (by rw [List.length_map]; omega)
  unfold rlst
  rw [List.map_map]
  exact runLc_list (fi := Res.val ∘ fun r => PV.lst (zs r)) (fo := fo) rs fun r hr => by
    obtain ⟨y, h1, h2⟩ := hx r hr
    exact ⟨_, y, rfl, h1, h2⟩
theorem ixS_own {i n m : Nat} {xs : List PV} {e1 e2 : VE} {ρ : Pv.Env} {r : Res} {p : PV} {j : Int} (hs : ρ[i]? = some (.own n xs)) (h2 : e2 ρ = .ok r) (h1 : e1 ρ = .ok (.val (.int j))) (hm : ixN xs.length j = some m) (hp : stD n r = .ok p) : ixS i (pthN i) e1 e2 ρ = .next (ρ.set i (.own n (xs.set m p))) := by
  have q1 : slotL ρ i [] = some xs := by unfold slotL; rw [hs]; rfl
  have q2 : slotD ρ i [] = n := by unfold slotD; rw [hs]; rfl
  rw [ixS_ap, h2, pthN_ap, q1]
  simp only [q1, h1, q2, hp, hm, Res.pv]
  unfold upP
  rw [hs]
  rfl
abbrev LE (ns : List Int) (a1 a2 a3 a4 a5 a6 a7 a8 a9 a10 a11 a12 a13 a14 a15 a16 a17 a18 a19 : Slot) : Pv.Env := [.val (.scr ns), a1, a2, a3, a4, a5, a6, a7, a8, a9, a10, a11, a12, a13, a14, a15, a16, a17, a18, a19]
section
variable {ns : List Int} {a1 a2 a3 a4 a5 a6 a7 a11 a13 a14 a15 a16 a17 a18 a19 : Slot}
abbrev cm_in : VS := frS 8 (setS 8 (callF f_law_gcd [] (aCons (rd 8) (aCons (rd 10) aNil))))
theorem cm_inner (a9 a12 : Slot) : ∀ (row : List Int) (g : Nat) (t : Slot), 0 < g ∧ g ≤ 300 → ∃ t', runFor (asg 10) cm_in ((zs row).map .val) (LE ns a1 a2 a3 a4 a5 a6 a7 (.val (.int (g : Int))) a9 t a11 a12 a13 a14 a15 a16 a17 a18 a19) = .next (LE ns a1 a2 a3 a4 a5 a6 a7 (.val (.int (gfold g row : Int))) a9 t' a11 a12 a13 a14 a15 a16 a17 a18 a19)
  | [], g, t, _ => ⟨t, rfl⟩
  | x :: row, g, t, h => by
    have h1 : 0 < Nat.gcd g x.natAbs := Nat.gcd_pos_of_pos_left _ h.1
    have h2 : Nat.gcd g x.natAbs ≤ g := Nat.gcd_le_left _ h.1
    obtain ⟨t', ht⟩ := cm_inner a9 a12 row (Nat.gcd g x.natAbs) (.val (.int x)) ⟨h1, by omega⟩
    refine ⟨t', ?_⟩
    rw [zs_cons, List.map_cons, runFor_cons]
    simp only [asg_val, LE, List.set_cons_succ, List.set_cons_zero]
    have e : cm_in (LE ns a1 a2 a3 a4 a5 a6 a7 (.val (.int (g : Int))) a9 (.val (.int x)) a11 a12 a13 a14 a15 a16 a17 a18 a19) = .next (LE ns a1 a2 a3 a4 a5 a6 a7 (.val (.int ((Nat.gcd g x.natAbs : Nat) : Int))) a9 (.val (.int x)) a11 a12 a13 a14 a15 a16 a17 a18 a19) := by
      unfold cm_in
      rw [frS_ap, frE_val (p := .int (g : Int)) (by rfl)]
      simp only [LE, seqS_ap, nilS_ap, brkS_ap, contS_ap, badS_ap, raiseS_ap, frS_ap, setS_ap, dropS_ap, retS_ap, ifS_ap, asg_val, asg_new, asg_bor, retR_val, retR_new, rd_ap, retOwn_ap, cst_ap, bin2_ap, un1_ap, callN_ap, callF_ap, fldE_ap, aNil_ap, aCons_ap, tupD_ap, lstD_ap, nilD_ap, walkOf_ap, walkR1_ap, walkR2_ap, walkZ_ap, walkE_ap, walkV_ap, tupRevV_ap, andT_ap, orT_ap, notT_ap, boolOf_ap, boolR_bl, andV_ap, orV_ap, notE_ap, ifV_ap, chn_ap, noB_ap, intB_ap, sl3_ap, forS_ap, lcV_ap, yesT_ap, stD_val, stD_new0, stAll_nil, stAll_cons, stR_val, stR_new, argR_val, argR_new, argR_bor, argR_lend, addV_int, subV_int, negV_int, ltV_int, leV_int, gtV_int, geV_int, eqV_int, neV_int, eqV_str, neV_str, intV_int, absV_int, max2_int, min2_int, lenV_tup, lenV_lst, lenV_scr, lenV_lend, R.ok_bind, slotOf, List.map_cons, List.map_nil, List.length_cons, List.length_nil, List.cons_append, List.nil_append, List.append_nil, List.replicate, List.getElem?_cons_succ, List.getElem?_cons_zero, Res.items, List.set_cons_succ, List.set_cons_zero, Nat.reduceAdd, Nat.reduceSub, Res.pv, v_law_gcd g h.2 x]
    rw [e]
    simp only
    rw [ht, gfold_cons]
abbrev cm_out : VS := forS (walkOf (rd 9)) (asg 10) cm_in
theorem cm_outer (a12 : Slot) : ∀ (rs : List (List Int)) (g : Nat) (t9 t10 : Slot), 0 < g ∧ g ≤ 300 → ∃ t9' t10', runFor (asg 9) cm_out ((rlst rs).map .val) (LE ns a1 a2 a3 a4 a5 a6 a7 (.val (.int (g : Int))) t9 t10 a11 a12 a13 a14 a15 a16 a17 a18 a19) = .next (LE ns a1 a2 a3 a4 a5 a6 a7 (.val (.int (gfolds g rs : Int))) t9' t10' a11 a12 a13 a14 a15 a16 a17 a18 a19)
  | [], g, t9, t10, _ => ⟨t9, t10, rfl⟩
  | r :: rs, g, t9, t10, h => by
    obtain ⟨t, ht⟩ := cm_inner (ns := ns) (a1 := a1) (a2 := a2) (a3 := a3) (a4 := a4) (a5 := a5) (a6 := a6) (a7 := a7) (a11 := a11) (a13 := a13) (a14 := a14) (a15 := a15) (a16 := a16) (a17 := a17) (a18 := a18) (a19 := a19) (.val (.lst (zs r))) a12 r g t10 h
    obtain ⟨t9', t10', hr⟩ := cm_outer a12 rs (gfold g r) (.val (.lst (zs r))) t ⟨gfold_pos r g h.1, by have := gfold_le r g h.1; omega⟩
    refine ⟨t9', t10', ?_⟩
    show runFor (asg 9) cm_out (.val (.lst (zs r)) :: (rlst rs).map .val) _ = _
    rw [runFor_cons]
    simp only [asg_val, LE, List.set_cons_succ, List.set_cons_zero]
    have e : cm_out (LE ns a1 a2 a3 a4 a5 a6 a7 (.val (.int (g : Int))) (.val (.lst (zs r))) t10 a11 a12 a13 a14 a15 a16 a17 a18 a19) = .next (LE ns a1 a2 a3 a4 a5 a6 a7 (.val (.int (gfold g r : Int))) (.val (.lst (zs r))) t a11 a12 a13 a14 a15 a16 a17 a18 a19) := by
      unfold cm_out
      rw [forS_ok (walkOf_lst (xs := zs r) (by rfl)), ht]
    rw [e]
    exact hr
end
def Fz (S : Slot) (xs : List PV) : Prop := S = .own 0 xs ∨ S = .val (.lst xs)
section
variable {ns : List Int} {ss : List Nat} {rs : List (List Int)} {o : Int} {a2 a3 a4 a5 a8 a9 a10 a11 a13 a14 a15 a16 a17 a18 a19 : Slot}
abbrev ask_body : VS := (frS 7 (frS 6 (frS 1 (ifS (notT (boolOf (callF f_law_at_play [] (aCons (rd 7) (aCons (rd 1) (aCons (rd 6) (aCons (rd 12) aNil)))))))
    (retS (cst (.bl false)))
    nilS))))
theorem ask_loop (G : GOk ss rs) : ∀ (qs : List (List Nat)) (S t : Slot), Fz S (rlst rs) → (∀ q ∈ qs, Ok ss q) → ∃ S' t', Fz S' (rlst rs) ∧ runFor (asg 12) ask_body ((tps qs).map .val) (LE ns (.val (.lst (zn ss))) a2 a3 a4 a5 S (.val (gameV ss rs o)) a8 a9 a10 a11 t a13 a14 a15 a16 a17 a18 a19) = .next (LE ns (.val (.lst (zn ss))) a2 a3 a4 a5 S' (.val (gameV ss rs o)) a8 a9 a10 a11 t' a13 a14 a15 a16 a17 a18 a19)
  | [], S, t, h, _ => ⟨S, t, h, rfl⟩
  | q :: qs, S, t, h, hq => by
    obtain ⟨S', t', h1, h2⟩ := ask_loop G qs (.val (.lst (rlst rs))) (.val (.tup (zn q))) (.inr rfl) fun x hx => hq x (by simp [hx])
    refine ⟨S', t', h1, ?_⟩
    rw [tps_cons, List.map_cons, runFor_cons]
    simp only [asg_val, LE, List.set_cons_succ, List.set_cons_zero]
    have e : ask_body (LE ns (.val (.lst (zn ss))) a2 a3 a4 a5 S (.val (gameV ss rs o)) a8 a9 a10 a11 (.val (.tup (zn q))) a13 a14 a15 a16 a17 a18 a19) = .next (LE ns (.val (.lst (zn ss))) a2 a3 a4 a5 (.val (.lst (rlst rs))) (.val (gameV ss rs o)) a8 a9 a10 a11 (.val (.tup (zn q))) a13 a14 a15 a16 a17 a18 a19) := by
      unfold ask_body
      rw [frS_ap, frE_val (p := gameV ss rs o) (by rfl), frS_ap]
      have hf : frE 6 (LE ns (.val (.lst (zn ss))) a2 a3 a4 a5 S (.val (gameV ss rs o)) a8 a9 a10 a11 (.val (.tup (zn q))) a13 a14 a15 a16 a17 a18 a19) = LE ns (.val (.lst (zn ss))) a2 a3 a4 a5 (.val (.lst (rlst rs))) (.val (gameV ss rs o)) a8 a9 a10 a11 (.val (.tup (zn q))) a13 a14 a15 a16 a17 a18 a19 := by rcases h with rfl | rfl <;> rfl
      rw [hf, frS_ap, frE_val (p := .lst (zn ss)) (by rfl)]
      simp only [LE, seqS_ap, nilS_ap, brkS_ap, contS_ap, badS_ap, raiseS_ap, frS_ap, setS_ap, dropS_ap, retS_ap, ifS_ap, asg_val, asg_new, asg_bor, retR_val, retR_new, rd_ap, retOwn_ap, cst_ap, bin2_ap, un1_ap, callN_ap, callF_ap, fldE_ap, aNil_ap, aCons_ap, tupD_ap, lstD_ap, nilD_ap, walkOf_ap, walkR1_ap, walkR2_ap, walkZ_ap, walkE_ap, walkV_ap, tupRevV_ap, andT_ap, orT_ap, notT_ap, boolOf_ap, boolR_bl, andV_ap, orV_ap, notE_ap, ifV_ap, chn_ap, noB_ap, intB_ap, sl3_ap, forS_ap, lcV_ap, yesT_ap, stD_val, stD_new0, stAll_nil, stAll_cons, stR_val, stR_new, argR_val, argR_new, argR_bor, argR_lend, addV_int, subV_int, negV_int, ltV_int, leV_int, gtV_int, geV_int, eqV_int, neV_int, eqV_str, neV_str, intV_int, absV_int, max2_int, min2_int, lenV_tup, lenV_lst, lenV_scr, lenV_lend, R.ok_bind, slotOf, List.map_cons, List.map_nil, List.length_cons, List.length_nil, List.cons_append, List.nil_append, List.append_nil, List.replicate, List.getElem?_cons_succ, List.getElem?_cons_zero, Res.items, List.set_cons_succ, List.set_cons_zero, Nat.reduceAdd, Nat.reduceSub, Res.pv, v_law_at_play G (hq q (by simp)), Bool.not_true, Bool.false_eq_true, if_false]
    rw [e]
    exact h2
def dueI (ss : List Nat) (rs : List (List Int)) (p : List Nat) : List PV := if (mvL false true ss rs p).length = 0 then [.tup (zn p)] else []
abbrev due_body : VS := (frS 6 (frS 1 (ifS (boolOf (bin2 eqV (callF f_law_moves [] (aCons (rd 1) (aCons (rd 6) (aCons (rd 12) (aCons (cst (.str "better")) aNil))))) (nilD 0)))
    (apS 13 (pthN 13) (rd 12))
    nilS)))
theorem due_loop (G : GOk ss rs) : ∀ (qs : List (List Nat)) (acc : List PV) (S t : Slot), Fz S (rlst rs) → (∀ q ∈ qs, Ok ss q) → acc.length + qs.length ≤ 1000 → ∃ S' t', Fz S' (rlst rs) ∧ runFor (asg 12) due_body ((tps qs).map .val) (LE ns (.val (.lst (zn ss))) a2 a3 a4 a5 S (.val (gameV ss rs o)) a8 a9 a10 a11 t (.own 0 acc) a14 a15 a16 a17 a18 a19) = .next (LE ns (.val (.lst (zn ss))) a2 a3 a4 a5 S' (.val (gameV ss rs o)) a8 a9 a10 a11 t' (.own 0 (acc ++ qs.flatMap (dueI ss rs))) a14 a15 a16 a17 a18 a19)
  | [], acc, S, t, h, _, _ => ⟨S, t, h, by rw [List.flatMap_nil, List.append_nil]; rfl⟩
  | q :: qs, acc, S, t, h, hq, hl => by
    have hI : (dueI ss rs q).length ≤ 1 := by unfold dueI; split <;> simp
    obtain ⟨S', t', h1, h2⟩ := due_loop G qs (acc ++ dueI ss rs q) (.val (.lst (rlst rs))) (.val (.tup (zn q))) (.inr rfl) (fun x hx => hq x (by simp [hx])) (by rw [List.length_append]; simp at hl; omega)
    refine ⟨S', t', h1, ?_⟩
    rw [tps_cons, List.map_cons, runFor_cons]
    simp only [asg_val, LE, List.set_cons_succ, List.set_cons_zero]
    have e : due_body (LE ns (.val (.lst (zn ss))) a2 a3 a4 a5 S (.val (gameV ss rs o)) a8 a9 a10 a11 (.val (.tup (zn q))) (.own 0 acc) a14 a15 a16 a17 a18 a19) = .next (LE ns (.val (.lst (zn ss))) a2 a3 a4 a5 (.val (.lst (rlst rs))) (.val (gameV ss rs o)) a8 a9 a10 a11 (.val (.tup (zn q))) (.own 0 (acc ++ dueI ss rs q)) a14 a15 a16 a17 a18 a19) := by
      unfold due_body
      have hf : frE 6 (LE ns (.val (.lst (zn ss))) a2 a3 a4 a5 S (.val (gameV ss rs o)) a8 a9 a10 a11 (.val (.tup (zn q))) (.own 0 acc) a14 a15 a16 a17 a18 a19) = LE ns (.val (.lst (zn ss))) a2 a3 a4 a5 (.val (.lst (rlst rs))) (.val (gameV ss rs o)) a8 a9 a10 a11 (.val (.tup (zn q))) (.own 0 acc) a14 a15 a16 a17 a18 a19 := by rcases h with rfl | rfl <;> rfl
      rw [frS_ap, hf, frS_ap, frE_val (p := .lst (zn ss)) (by rfl), ifS_ap, boolOf_ap, bin2_ap]
      have hm := v_law_moves G (hq q (by simp)) (rule := "better") (.better rfl)
      have e1 : callF f_law_moves [] (aCons (rd 1) (aCons (rd 6) (aCons (rd 12) (aCons (cst (.str "better")) aNil)))) (LE ns (.val (.lst (zn ss))) a2 a3 a4 a5 (.val (.lst (rlst rs))) (.val (gameV ss rs o)) a8 a9 a10 a11 (.val (.tup (zn q))) (.own 0 acc) a14 a15 a16 a17 a18 a19) = .ok (.new 0 (mvL false true ss rs q)) := by simp only [LE, seqS_ap, nilS_ap, brkS_ap, contS_ap, badS_ap, raiseS_ap, frS_ap, setS_ap, dropS_ap, retS_ap, ifS_ap, asg_val, asg_new, asg_bor, retR_val, retR_new, rd_ap, retOwn_ap, cst_ap, bin2_ap, un1_ap, callN_ap, callF_ap, fldE_ap, aNil_ap, aCons_ap, tupD_ap, lstD_ap, nilD_ap, walkOf_ap, walkR1_ap, walkR2_ap, walkZ_ap, walkE_ap, walkV_ap, tupRevV_ap, andT_ap, orT_ap, notT_ap, boolOf_ap, boolR_bl, andV_ap, orV_ap, notE_ap, ifV_ap, chn_ap, noB_ap, intB_ap, sl3_ap, forS_ap, lcV_ap, yesT_ap, stD_val, stD_new0, stAll_nil, stAll_cons, stR_val, stR_new, argR_val, argR_new, argR_bor, argR_lend, addV_int, subV_int, negV_int, ltV_int, leV_int, gtV_int, geV_int, eqV_int, neV_int, eqV_str, neV_str, intV_int, absV_int, max2_int, min2_int, lenV_tup, lenV_lst, lenV_scr, lenV_lend, R.ok_bind, slotOf, List.map_cons, List.map_nil, List.length_cons, List.length_nil, List.cons_append, List.nil_append, List.append_nil, List.replicate, List.getElem?_cons_succ, List.getElem?_cons_zero, Res.items, List.set_cons_succ, List.set_cons_zero, Nat.reduceAdd, Nat.reduceSub, Res.pv, hm]
      rw [e1, R.ok_bind, nilD_ap, R.ok_bind, eq_nil mvL_tups, R.ok_bind, boolR_bl]
      by_cases hz : (mvL false true ss rs q).length = 0
      · have hD : dueI ss rs q = [.tup (zn q)] := by unfold dueI; rw [if_pos hz]
        simp only [decide_eq_true hz, if_true]
        rw [apS_own (n := 0) (xs := acc) (r := .val (.tup (zn q))) (p := .tup (zn q)) (by rfl) (by rfl) (by rfl) (line_lt (by simp at hl; omega)), hD]; rfl
      · have hD : dueI ss rs q = [] := by unfold dueI; rw [if_neg hz]
        simp only [decide_eq_false hz, Bool.false_eq_true, if_false]
        rw [hD, List.append_nil]; rfl
    rw [e]
    simp only
    rw [h2, List.flatMap_cons, List.append_assoc]
end
theorem due_rests (ss : List Nat) (rs : List (List Int)) : (allP ss).flatMap (dueI ss rs) = restsL ss rs := by
  unfold allP restsL
  rw [List.flatMap_map, List.range_eq_range']
  congr 1
  funext n
  unfold dueI rsI mvL
  rw [List.length_map]
theorem rests_tups {ss : List Nat} {rs : List (List Int)} (h : Sizes ss) : Tups (restsL ss rs) ∧ (restsL ss rs).length ≤ 200 := by
  constructor
  · intro x hx
    obtain ⟨n, hn, h2⟩ := List.mem_flatMap.mp hx
    unfold rsI at h2
    split at h2
    · have hn' : n < Mz.pr ss := by have := List.mem_range'_1.mp hn; omega
      refine ⟨nI (dig ss n), by rw [zs_nI]; simpa using h2, ?_⟩
      rw [nI_length, (plc_dig h.pos hn').1.length]
      have := h.n4; omega
    · cases h2
  · have : ∀ (l : List Nat), (l.flatMap (rsI ss rs)).length ≤ l.length := fun l => by
      induction l with
      | nil => simp
      | cons x l ih =>
        rw [List.flatMap_cons, List.length_append, List.length_cons]
        have : (rsI ss rs x).length ≤ 1 := by unfold rsI; split <;> simp
        omega
    have h3 := this (List.range' 0 (Mz.pr ss))
    rw [List.length_range'] at h3
    have := h.pr
    exact Nat.le_trans h3 (by omega)
end
end K88
namespace K88
open PySem PySem.Spec L2 Pv Mz
noncomputable section
abbrev tail_S : VS := (seqS (frS 11 (forS (walkOf (rd 11)) (asg 12) ask_body))
    (seqS (setS 13 (nilD 0))
    (seqS (frS 3 (forS (walkOf (rd 3)) (asg 12) due_body))
    (seqS (frS 7 (setS 14 (callF f_rests [] (aCons (rd 7) aNil))))
    (seqS (frS 13 (ifS (notT (boolOf (callF f_law_is_list [] (aCons (rd 14) (aCons (rd 13) aNil)))))
    (retS (cst (.bl false)))
    nilS))
    (seqS (apS 14 (pthN 14) (tupD (aCons (cst (.int 0)) aNil)))
    (seqS (frS 13 (frS 7 (ifS (notT (boolOf (callF f_law_is_list [] (aCons (callF f_rests [] (aCons (rd 7) aNil)) (aCons (rd 13) aNil)))))
    (retS (cst (.bl false)))
    nilS)))
    (seqS (setS 12 (bin2 ixV (rd 11) (bin2 modV (callN intV (aCons (bin2 ixV (rd 4) (cst (.int 15))) aNil)) (callN lenV (aCons (rd 11) aNil)))))
    (seqS (frS 1 (setS 15 (callF f_law_bad_play [] (aCons (rd 1) (aCons (rd 12) (aCons (bin2 ixV (rd 4) (cst (.int 16))) aNil))))))
    (seqS (setS 16 (callN lenV (aCons (rd 1) aNil)))
    (seqS (setS 17 (bin2 ixV (rd 1) (cst (.int 0))))
    (seqS (ifS (boolOf (bin2 eqV (bin2 modV (callN intV (aCons (bin2 ixV (rd 4) (cst (.int 17))) aNil)) (cst (.int 2))) (cst (.int 1))))
    (seqS (setS 16 (un1 negV (cst (.int 1))))
    (setS 17 (un1 negV (cst (.int 1)))))
    nilS)
    (seqS (forS (walkR1 (cst (.int 11))) (asg 18)
    (frS 15 (frS 7 (ifS (notT (boolOf (callF f_law_refuses [] (aCons (rd 18) (aCons (rd 7) (aCons (rd 12) (aCons (rd 15) (aCons (rd 16) (aCons (rd 17) aNil)))))))))
    (retS (cst (.bl false)))
    nilS))))
    (frS 7 (frS 6 (frS 1 (retS (callF f_law_at_play [] (aCons (rd 7) (aCons (rd 1) (aCons (rd 6) (aCons (rd 12) aNil))))))))))))))))))))))
theorem v_tail {ns nums : List Int} {ss : List Nat} {rs : List (List Int)} {o : Nat} (G : GOk ss rs) (ho : 1 ≤ o ∧ o ≤ 1000) (hn : nums.length = 30) (hr : In 0 3600 nums) (qs : List (List Nat)) (hq : ∀ q ∈ qs, Ok ss q) (hq0 : qs ≠ []) (hql : qs.length ≤ 1000) (S11 S6 a2 a5 a8 a9 a10 a19 : Slot) (h11 : Fz S11 (tps qs)) (h6 : Fz S6 (rlst rs)) :
    tail_S (LE ns (.val (.lst (zn ss))) a2 (.val (.lst (tps (allP ss)))) (.own 0 (zs nums)) a5 S6 (.val (gameV ss rs (o : Int))) a8 a9 a10 S11 .unset .unset .unset .unset .unset .unset .unset a19) = .ret (.val (.bl true)) := by
  obtain ⟨S6', t12, k1, k2⟩ := ask_loop (ns := ns) (o := (o : Int)) (a2 := a2) (a3 := .val (.lst (tps (allP ss)))) (a4 := .own 0 (zs nums)) (a5 := a5) (a8 := a8) (a9 := a9) (a10 := a10) (a11 := .val (.lst (tps qs))) (a13 := .unset) (a14 := .unset) (a15 := .unset) (a16 := .unset) (a17 := .unset) (a18 := .unset) (a19 := a19) G qs S6 .unset h6 hq
  obtain ⟨S6'', t12', k3, k4⟩ := due_loop (ns := ns) (o := (o : Int)) (a2 := a2) (a3 := .val (.lst (tps (allP ss)))) (a4 := .own 0 (zs nums)) (a5 := a5) (a8 := a8) (a9 := a9) (a10 := a10) (a11 := .val (.lst (tps qs))) (a14 := .unset) (a15 := .unset) (a16 := .unset) (a17 := .unset) (a18 := .unset) (a19 := a19) G (allP ss) [] S6' t12 k1 (allP_ok G.sz.pos) (by rw [List.length_nil, allP_length]; have := G.sz.pr; omega)
  rw [List.nil_append, due_rests] at k4
  obtain ⟨rt1, rt2⟩ := rests_tups (rs := rs) G.sz
  have hrests := v_rests (o := (o : Int)) G
  have il1 := v_law_is_list (r := .bor 0 (restsL ss rs)) (.inr rfl) rt1 (by omega)
  have il2 := v_law_is_list (r := .val (.lst (restsL ss rs))) (.inl rfl) rt1 (by omega)
  have hnum : ∀ i, i < 30 → ∃ x : Nat, nums[i]? = some (x : Int) := fun i hi => by
    have hi' : i < nums.length := by omega
    obtain ⟨x, hx⟩ := nat_of (hr nums[i] (List.getElem_mem hi')).1
    exact ⟨x, by rw [List.getElem?_eq_getElem hi', hx]⟩
  obtain ⟨x15, n15⟩ := hnum 15 (by omega)
  obtain ⟨x16, n16⟩ := hnum 16 (by omega)
  obtain ⟨x17, n17⟩ := hnum 17 (by omega)
  have i15 : atI (zs nums) 15 = some (.int (x15 : Int)) := at_zs (i := 15) n15
  have i16 : atI (zs nums) 16 = some (.int (x16 : Int)) := at_zs (i := 16) n16
  have i17 : atI (zs nums) 17 = some (.int (x17 : Int)) := at_zs (i := 17) n17
  have hqp : 0 < qs.length := List.length_pos_iff.mpr hq0
  have hmod : x15 % qs.length < qs.length := Nat.mod_lt _ hqp
  have hpick : atI (tps qs) ((x15 % qs.length : Nat) : Int) = some (.tup (zn qs[x15 % qs.length])) := by
    rw [Pv.atI_nat]; unfold tps; rw [List.getElem?_map, List.getElem?_eq_getElem hmod]; rfl
  have okq : Ok ss qs[x15 % qs.length] := hq _ (List.getElem_mem _)
  generalize qs[x15 % qs.length] = cs at hpick okq
  obtain ⟨ps, hb, hbad⟩ := v_law_bad_play G.sz okq x16
  have h1 := G.sz.n1
  have hs0 : atI (zn ss) 0 = some (.int (ss[0] : Int)) := at_zn (i := 0) (List.getElem?_eq_getElem (by omega))
  have q15 : Int.fmod (x15 : Int) (qs.length : Int) = ((x15 % qs.length : Nat) : Int) := fmod_nat _ _
  have hql0 : (qs.length : Int) ≠ 0 := by omega
  have fin : ∀ (p c : Int), pB ss.length p = false → chB ss p 0 = false → chB ss 0 c = false → ∀ S6 : Slot, Fz S6 (rlst rs) →
      (seqS (forS (walkR1 (cst (.int 11))) (asg 18)
    (frS 15 (frS 7 (ifS (notT (boolOf (callF f_law_refuses [] (aCons (rd 18) (aCons (rd 7) (aCons (rd 12) (aCons (rd 15) (aCons (rd 16) (aCons (rd 17) aNil)))))))))
    (retS (cst (.bl false)))
    nilS))))
    (frS 7 (frS 6 (frS 1 (retS (callF f_law_at_play [] (aCons (rd 7) (aCons (rd 1) (aCons (rd 6) (aCons (rd 12) aNil)))))))))) (LE ns (.val (.lst (zn ss))) a2 (.val (.lst (tps (allP ss)))) (.own 0 (zs nums)) a5 S6 (.val (gameV ss rs (o : Int))) a8 a9 a10 (.val (.lst (tps qs))) (.val (.tup (zn cs))) (.val (.lst (restsL ss rs))) (.own 0 (restsL ss rs ++ [.tup [.int 0]])) (.val (.tup (zs ps))) (.val (.int p)) (.val (.int c)) .unset a19) = .ret (.val (.bl true)) := fun p c g1 g2 g3 S6 hS => by
    obtain ⟨j', hj⟩ := keep_loop (g := asg 18) (body := (frS 15 (frS 7 (ifS (notT (boolOf (callF f_law_refuses [] (aCons (rd 18) (aCons (rd 7) (aCons (rd 12) (aCons (rd 15) (aCons (rd 16) (aCons (rd 17) aNil)))))))))
      (retS (cst (.bl false)))
      nilS)))) (fun (k : Nat) => Res.val (.int (k : Int))) (fun (s : Slot) => LE ns (.val (.lst (zn ss))) a2 (.val (.lst (tps (allP ss)))) (.own 0 (zs nums)) a5 S6 (.val (gameV ss rs (o : Int))) a8 a9 a10 (.val (.lst (tps qs))) (.val (.tup (zn cs))) (.val (.lst (restsL ss rs))) (.own 0 (restsL ss rs ++ [.tup [.int 0]])) (.val (.tup (zs ps))) (.val (.int p)) (.val (.int c)) s a19) 11 (fun d s hd => by
        refine ⟨LE ns (.val (.lst (zn ss))) a2 (.val (.lst (tps (allP ss)))) (.own 0 (zs nums)) a5 S6 (.val (gameV ss rs (o : Int))) a8 a9 a10 (.val (.lst (tps qs))) (.val (.tup (zn cs))) (.val (.lst (restsL ss rs))) (.own 0 (restsL ss rs ++ [.tup [.int 0]])) (.val (.tup (zs ps))) (.val (.int p)) (.val (.int c)) (.val (.int (d : Int))) a19, .val (.int (d : Int)), rfl, .inl ?_⟩
        rw [frS_ap, frE_val (p := .tup (zs ps)) (by rfl), frS_ap, frE_val (p := gameV ss rs (o : Int)) (by rfl)]
        simp only [LE, seqS_ap, nilS_ap, brkS_ap, contS_ap, badS_ap, raiseS_ap, frS_ap, setS_ap, dropS_ap, retS_ap, ifS_ap, asg_val, asg_new, asg_bor, retR_val, retR_new, rd_ap, retOwn_ap, cst_ap, bin2_ap, un1_ap, callN_ap, callF_ap, fldE_ap, aNil_ap, aCons_ap, tupD_ap, lstD_ap, nilD_ap, walkOf_ap, walkR1_ap, walkR2_ap, walkZ_ap, walkE_ap, walkV_ap, tupRevV_ap, andT_ap, orT_ap, notT_ap, boolOf_ap, boolR_bl, andV_ap, orV_ap, notE_ap, ifV_ap, chn_ap, noB_ap, intB_ap, sl3_ap, forS_ap, lcV_ap, yesT_ap, stD_val, stD_new0, stAll_nil, stAll_cons, stR_val, stR_new, argR_val, argR_new, argR_bor, argR_lend, addV_int, subV_int, negV_int, ltV_int, leV_int, gtV_int, geV_int, eqV_int, neV_int, eqV_str, neV_str, intV_int, absV_int, max2_int, min2_int, lenV_tup, lenV_lst, lenV_scr, lenV_lend, R.ok_bind, slotOf, List.map_cons, List.map_nil, List.length_cons, List.length_nil, List.cons_append, List.nil_append, List.append_nil, List.replicate, List.getElem?_cons_succ, List.getElem?_cons_zero, Res.items, List.set_cons_succ, List.set_cons_zero, Nat.reduceAdd, Nat.reduceSub, Res.pv, v_law_refuses G okq ho hb g1 g2 g3 d hd, Bool.not_true, Bool.false_eq_true, if_false]) 11 0 .unset (by omega)
    rw [seqS_next ((forS_ok (walkR1_nat (n := 11) (by rfl) (by decide))).trans hj)]
    rw [frS_ap, frE_val (p := gameV ss rs (o : Int)) (by rfl), frS_ap]
    have hf : frE 6 (LE ns (.val (.lst (zn ss))) a2 (.val (.lst (tps (allP ss)))) (.own 0 (zs nums)) a5 S6 (.val (gameV ss rs (o : Int))) a8 a9 a10 (.val (.lst (tps qs))) (.val (.tup (zn cs))) (.val (.lst (restsL ss rs))) (.own 0 (restsL ss rs ++ [.tup [.int 0]])) (.val (.tup (zs ps))) (.val (.int p)) (.val (.int c)) j' a19) = LE ns (.val (.lst (zn ss))) a2 (.val (.lst (tps (allP ss)))) (.own 0 (zs nums)) a5 (.val (.lst (rlst rs))) (.val (gameV ss rs (o : Int))) a8 a9 a10 (.val (.lst (tps qs))) (.val (.tup (zn cs))) (.val (.lst (restsL ss rs))) (.own 0 (restsL ss rs ++ [.tup [.int 0]])) (.val (.tup (zs ps))) (.val (.int p)) (.val (.int c)) j' a19 := by rcases hS with rfl | rfl <;> rfl
    rw [hf, frS_ap, frE_val (p := .lst (zn ss)) (by rfl)]
    simp only [LE, seqS_ap, nilS_ap, brkS_ap, contS_ap, badS_ap, raiseS_ap, frS_ap, setS_ap, dropS_ap, retS_ap, ifS_ap, asg_val, asg_new, asg_bor, retR_val, retR_new, rd_ap, retOwn_ap, cst_ap, bin2_ap, un1_ap, callN_ap, callF_ap, fldE_ap, aNil_ap, aCons_ap, tupD_ap, lstD_ap, nilD_ap, walkOf_ap, walkR1_ap, walkR2_ap, walkZ_ap, walkE_ap, walkV_ap, tupRevV_ap, andT_ap, orT_ap, notT_ap, boolOf_ap, boolR_bl, andV_ap, orV_ap, notE_ap, ifV_ap, chn_ap, noB_ap, intB_ap, sl3_ap, forS_ap, lcV_ap, yesT_ap, stD_val, stD_new0, stAll_nil, stAll_cons, stR_val, stR_new, argR_val, argR_new, argR_bor, argR_lend, addV_int, subV_int, negV_int, ltV_int, leV_int, gtV_int, geV_int, eqV_int, neV_int, eqV_str, neV_str, intV_int, absV_int, max2_int, min2_int, lenV_tup, lenV_lst, lenV_scr, lenV_lend, R.ok_bind, slotOf, List.map_cons, List.map_nil, List.length_cons, List.length_nil, List.cons_append, List.nil_append, List.append_nil, List.replicate, List.getElem?_cons_succ, List.getElem?_cons_zero, Res.items, List.set_cons_succ, List.set_cons_zero, Nat.reduceAdd, Nat.reduceSub, Res.pv, v_law_at_play G okq]
  have e0 : tupD (aCons (cst (.int 0)) aNil) (LE ns (.val (.lst (zn ss))) a2 (.val (.lst (tps (allP ss)))) (.own 0 (zs nums)) a5 S6'' (.val (gameV ss rs (o : Int))) a8 a9 a10 (.val (.lst (tps qs))) t12' (.val (.lst (restsL ss rs))) (.own 0 (restsL ss rs)) .unset .unset .unset .unset a19) = .ok (.val (.tup [.int 0])) := tup_val (rs := [.val (.int 0)]) (by rfl) (by rfl) (by decide)
  unfold tail_S
  rw [seqS_next (f := frS 11 _) (ρ' := LE ns (.val (.lst (zn ss))) a2 (.val (.lst (tps (allP ss)))) (.own 0 (zs nums)) a5 S6' (.val (gameV ss rs (o : Int))) a8 a9 a10 (.val (.lst (tps qs))) t12 .unset .unset .unset .unset .unset .unset a19) (by
      have hf : frE 11 (LE ns (.val (.lst (zn ss))) a2 (.val (.lst (tps (allP ss)))) (.own 0 (zs nums)) a5 S6 (.val (gameV ss rs (o : Int))) a8 a9 a10 S11 .unset .unset .unset .unset .unset .unset .unset a19) = LE ns (.val (.lst (zn ss))) a2 (.val (.lst (tps (allP ss)))) (.own 0 (zs nums)) a5 S6 (.val (gameV ss rs (o : Int))) a8 a9 a10 (.val (.lst (tps qs))) .unset .unset .unset .unset .unset .unset .unset a19 := by rcases h11 with rfl | rfl <;> rfl
      rw [frS_ap, hf]
      exact (forS_ok (walkOf_lst (xs := tps qs) (by rfl))).trans k2),
    seqS_next (ρ' := LE ns (.val (.lst (zn ss))) a2 (.val (.lst (tps (allP ss)))) (.own 0 (zs nums)) a5 S6' (.val (gameV ss rs (o : Int))) a8 a9 a10 (.val (.lst (tps qs))) t12 (.own 0 []) .unset .unset .unset .unset .unset a19) (by rfl),
    seqS_next (f := frS 3 _) (ρ' := LE ns (.val (.lst (zn ss))) a2 (.val (.lst (tps (allP ss)))) (.own 0 (zs nums)) a5 S6'' (.val (gameV ss rs (o : Int))) a8 a9 a10 (.val (.lst (tps qs))) t12' (.own 0 (restsL ss rs)) .unset .unset .unset .unset .unset a19) (by
      rw [frS_ap, frE_val (p := .lst (tps (allP ss))) (by rfl)]
      exact (forS_ok (walkOf_lst (xs := tps (allP ss)) (by rfl))).trans k4),
    seqS_next (f := frS 7 _) (ρ' := LE ns (.val (.lst (zn ss))) a2 (.val (.lst (tps (allP ss)))) (.own 0 (zs nums)) a5 S6'' (.val (gameV ss rs (o : Int))) a8 a9 a10 (.val (.lst (tps qs))) t12' (.own 0 (restsL ss rs)) (.own 0 (restsL ss rs)) .unset .unset .unset .unset a19) (by
      rw [frS_ap, frE_val (p := gameV ss rs (o : Int)) (by rfl)]
      simp only [LE, seqS_ap, nilS_ap, brkS_ap, contS_ap, badS_ap, raiseS_ap, frS_ap, setS_ap, dropS_ap, retS_ap, ifS_ap, asg_val, asg_new, asg_bor, retR_val, retR_new, rd_ap, retOwn_ap, cst_ap, bin2_ap, un1_ap, callN_ap, callF_ap, fldE_ap, aNil_ap, aCons_ap, tupD_ap, lstD_ap, nilD_ap, walkOf_ap, walkR1_ap, walkR2_ap, walkZ_ap, walkE_ap, walkV_ap, tupRevV_ap, andT_ap, orT_ap, notT_ap, boolOf_ap, boolR_bl, andV_ap, orV_ap, notE_ap, ifV_ap, chn_ap, noB_ap, intB_ap, sl3_ap, forS_ap, lcV_ap, yesT_ap, stD_val, stD_new0, stAll_nil, stAll_cons, stR_val, stR_new, argR_val, argR_new, argR_bor, argR_lend, addV_int, subV_int, negV_int, ltV_int, leV_int, gtV_int, geV_int, eqV_int, neV_int, eqV_str, neV_str, intV_int, absV_int, max2_int, min2_int, lenV_tup, lenV_lst, lenV_scr, lenV_lend, R.ok_bind, slotOf, List.map_cons, List.map_nil, List.length_cons, List.length_nil, List.cons_append, List.nil_append, List.append_nil, List.replicate, List.getElem?_cons_succ, List.getElem?_cons_zero, Res.items, List.set_cons_succ, List.set_cons_zero, Nat.reduceAdd, Nat.reduceSub, Res.pv, hrests]),
    seqS_next (f := frS 13 _) (ρ' := LE ns (.val (.lst (zn ss))) a2 (.val (.lst (tps (allP ss)))) (.own 0 (zs nums)) a5 S6'' (.val (gameV ss rs (o : Int))) a8 a9 a10 (.val (.lst (tps qs))) t12' (.val (.lst (restsL ss rs))) (.own 0 (restsL ss rs)) .unset .unset .unset .unset a19) (by
      rw [frS_ap, frE_own (n := 0) (xs := restsL ss rs) (by rfl)]
      simp only [LE, seqS_ap, nilS_ap, brkS_ap, contS_ap, badS_ap, raiseS_ap, frS_ap, setS_ap, dropS_ap, retS_ap, ifS_ap, asg_val, asg_new, asg_bor, retR_val, retR_new, rd_ap, retOwn_ap, cst_ap, bin2_ap, un1_ap, callN_ap, callF_ap, fldE_ap, aNil_ap, aCons_ap, tupD_ap, lstD_ap, nilD_ap, walkOf_ap, walkR1_ap, walkR2_ap, walkZ_ap, walkE_ap, walkV_ap, tupRevV_ap, andT_ap, orT_ap, notT_ap, boolOf_ap, boolR_bl, andV_ap, orV_ap, notE_ap, ifV_ap, chn_ap, noB_ap, intB_ap, sl3_ap, forS_ap, lcV_ap, yesT_ap, stD_val, stD_new0, stAll_nil, stAll_cons, stR_val, stR_new, argR_val, argR_new, argR_bor, argR_lend, addV_int, subV_int, negV_int, ltV_int, leV_int, gtV_int, geV_int, eqV_int, neV_int, eqV_str, neV_str, intV_int, absV_int, max2_int, min2_int, lenV_tup, lenV_lst, lenV_scr, lenV_lend, R.ok_bind, slotOf, List.map_cons, List.map_nil, List.length_cons, List.length_nil, List.cons_append, List.nil_append, List.append_nil, List.replicate, List.getElem?_cons_succ, List.getElem?_cons_zero, Res.items, List.set_cons_succ, List.set_cons_zero, Nat.reduceAdd, Nat.reduceSub, Res.pv, il1, Bool.not_true, Bool.false_eq_true, if_false]),
    seqS_next (apS_own (i := 14) (n := 0) (xs := restsL ss rs) (by rfl) e0 (by rfl) (line_lt (by omega)))]
  show seqS _ _ (LE ns (.val (.lst (zn ss))) a2 (.val (.lst (tps (allP ss)))) (.own 0 (zs nums)) a5 S6'' (.val (gameV ss rs (o : Int))) a8 a9 a10 (.val (.lst (tps qs))) t12' (.val (.lst (restsL ss rs))) (.own 0 (restsL ss rs ++ [.tup [.int 0]])) .unset .unset .unset .unset a19) = _
  rw [seqS_next (f := frS 13 _) (ρ' := LE ns (.val (.lst (zn ss))) a2 (.val (.lst (tps (allP ss)))) (.own 0 (zs nums)) a5 S6'' (.val (gameV ss rs (o : Int))) a8 a9 a10 (.val (.lst (tps qs))) t12' (.val (.lst (restsL ss rs))) (.own 0 (restsL ss rs ++ [.tup [.int 0]])) .unset .unset .unset .unset a19) (by
      rw [frS_ap, frE_val (p := .lst (restsL ss rs)) (by rfl), frS_ap, frE_val (p := gameV ss rs (o : Int)) (by rfl)]
      simp only [LE, seqS_ap, nilS_ap, brkS_ap, contS_ap, badS_ap, raiseS_ap, frS_ap, setS_ap, dropS_ap, retS_ap, ifS_ap, asg_val, asg_new, asg_bor, retR_val, retR_new, rd_ap, retOwn_ap, cst_ap, bin2_ap, un1_ap, callN_ap, callF_ap, fldE_ap, aNil_ap, aCons_ap, tupD_ap, lstD_ap, nilD_ap, walkOf_ap, walkR1_ap, walkR2_ap, walkZ_ap, walkE_ap, walkV_ap, tupRevV_ap, andT_ap, orT_ap, notT_ap, boolOf_ap, boolR_bl, andV_ap, orV_ap, notE_ap, ifV_ap, chn_ap, noB_ap, intB_ap, sl3_ap, forS_ap, lcV_ap, yesT_ap, stD_val, stD_new0, stAll_nil, stAll_cons, stR_val, stR_new, argR_val, argR_new, argR_bor, argR_lend, addV_int, subV_int, negV_int, ltV_int, leV_int, gtV_int, geV_int, eqV_int, neV_int, eqV_str, neV_str, intV_int, absV_int, max2_int, min2_int, lenV_tup, lenV_lst, lenV_scr, lenV_lend, R.ok_bind, slotOf, List.map_cons, List.map_nil, List.length_cons, List.length_nil, List.cons_append, List.nil_append, List.append_nil, List.replicate, List.getElem?_cons_succ, List.getElem?_cons_zero, Res.items, List.set_cons_succ, List.set_cons_zero, Nat.reduceAdd, Nat.reduceSub, Res.pv, hrests, il2, Bool.not_true, Bool.false_eq_true, if_false]),
    seqS_next (ρ' := LE ns (.val (.lst (zn ss))) a2 (.val (.lst (tps (allP ss)))) (.own 0 (zs nums)) a5 S6'' (.val (gameV ss rs (o : Int))) a8 a9 a10 (.val (.lst (tps qs))) (.val (.tup (zn cs))) (.val (.lst (restsL ss rs))) (.own 0 (restsL ss rs ++ [.tup [.int 0]])) .unset .unset .unset .unset a19) (by
      simp only [LE, seqS_ap, nilS_ap, brkS_ap, contS_ap, badS_ap, raiseS_ap, frS_ap, setS_ap, dropS_ap, retS_ap, ifS_ap, asg_val, asg_new, asg_bor, retR_val, retR_new, rd_ap, retOwn_ap, cst_ap, bin2_ap, un1_ap, callN_ap, callF_ap, fldE_ap, aNil_ap, aCons_ap, tupD_ap, lstD_ap, nilD_ap, walkOf_ap, walkR1_ap, walkR2_ap, walkZ_ap, walkE_ap, walkV_ap, tupRevV_ap, andT_ap, orT_ap, notT_ap, boolOf_ap, boolR_bl, andV_ap, orV_ap, notE_ap, ifV_ap, chn_ap, noB_ap, intB_ap, sl3_ap, forS_ap, lcV_ap, yesT_ap, stD_val, stD_new0, stAll_nil, stAll_cons, stR_val, stR_new, argR_val, argR_new, argR_bor, argR_lend, addV_int, subV_int, negV_int, ltV_int, leV_int, gtV_int, geV_int, eqV_int, neV_int, eqV_str, neV_str, intV_int, absV_int, max2_int, min2_int, lenV_tup, lenV_lst, lenV_scr, lenV_lend, R.ok_bind, slotOf, List.map_cons, List.map_nil, List.length_cons, List.length_nil, List.cons_append, List.nil_append, List.append_nil, List.replicate, List.getElem?_cons_succ, List.getElem?_cons_zero, Res.items, List.set_cons_succ, List.set_cons_zero, Nat.reduceAdd, Nat.reduceSub, Res.pv, ixV_lend0, i15, ixV_lst, tps_length, modV_int (x := (x15 : Int)) hql0, q15, hpick]),
    seqS_next (f := frS 1 _) (ρ' := LE ns (.val (.lst (zn ss))) a2 (.val (.lst (tps (allP ss)))) (.own 0 (zs nums)) a5 S6'' (.val (gameV ss rs (o : Int))) a8 a9 a10 (.val (.lst (tps qs))) (.val (.tup (zn cs))) (.val (.lst (restsL ss rs))) (.own 0 (restsL ss rs ++ [.tup [.int 0]])) (.val (.tup (zs ps))) .unset .unset .unset a19) (by
      rw [frS_ap, frE_val (p := .lst (zn ss)) (by rfl)]
      simp only [LE, seqS_ap, nilS_ap, brkS_ap, contS_ap, badS_ap, raiseS_ap, frS_ap, setS_ap, dropS_ap, retS_ap, ifS_ap, asg_val, asg_new, asg_bor, retR_val, retR_new, rd_ap, retOwn_ap, cst_ap, bin2_ap, un1_ap, callN_ap, callF_ap, fldE_ap, aNil_ap, aCons_ap, tupD_ap, lstD_ap, nilD_ap, walkOf_ap, walkR1_ap, walkR2_ap, walkZ_ap, walkE_ap, walkV_ap, tupRevV_ap, andT_ap, orT_ap, notT_ap, boolOf_ap, boolR_bl, andV_ap, orV_ap, notE_ap, ifV_ap, chn_ap, noB_ap, intB_ap, sl3_ap, forS_ap, lcV_ap, yesT_ap, stD_val, stD_new0, stAll_nil, stAll_cons, stR_val, stR_new, argR_val, argR_new, argR_bor, argR_lend, addV_int, subV_int, negV_int, ltV_int, leV_int, gtV_int, geV_int, eqV_int, neV_int, eqV_str, neV_str, intV_int, absV_int, max2_int, min2_int, lenV_tup, lenV_lst, lenV_scr, lenV_lend, R.ok_bind, slotOf, List.map_cons, List.map_nil, List.length_cons, List.length_nil, List.cons_append, List.nil_append, List.append_nil, List.replicate, List.getElem?_cons_succ, List.getElem?_cons_zero, Res.items, List.set_cons_succ, List.set_cons_zero, Nat.reduceAdd, Nat.reduceSub, Res.pv, ixV_lend0, i16, hbad]),
    seqS_next (ρ' := LE ns (.val (.lst (zn ss))) a2 (.val (.lst (tps (allP ss)))) (.own 0 (zs nums)) a5 S6'' (.val (gameV ss rs (o : Int))) a8 a9 a10 (.val (.lst (tps qs))) (.val (.tup (zn cs))) (.val (.lst (restsL ss rs))) (.own 0 (restsL ss rs ++ [.tup [.int 0]])) (.val (.tup (zs ps))) (.val (.int (ss.length : Int))) .unset .unset a19) (by
      simp only [LE, seqS_ap, nilS_ap, brkS_ap, contS_ap, badS_ap, raiseS_ap, frS_ap, setS_ap, dropS_ap, retS_ap, ifS_ap, asg_val, asg_new, asg_bor, retR_val, retR_new, rd_ap, retOwn_ap, cst_ap, bin2_ap, un1_ap, callN_ap, callF_ap, fldE_ap, aNil_ap, aCons_ap, tupD_ap, lstD_ap, nilD_ap, walkOf_ap, walkR1_ap, walkR2_ap, walkZ_ap, walkE_ap, walkV_ap, tupRevV_ap, andT_ap, orT_ap, notT_ap, boolOf_ap, boolR_bl, andV_ap, orV_ap, notE_ap, ifV_ap, chn_ap, noB_ap, intB_ap, sl3_ap, forS_ap, lcV_ap, yesT_ap, stD_val, stD_new0, stAll_nil, stAll_cons, stR_val, stR_new, argR_val, argR_new, argR_bor, argR_lend, addV_int, subV_int, negV_int, ltV_int, leV_int, gtV_int, geV_int, eqV_int, neV_int, eqV_str, neV_str, intV_int, absV_int, max2_int, min2_int, lenV_tup, lenV_lst, lenV_scr, lenV_lend, R.ok_bind, slotOf, List.map_cons, List.map_nil, List.length_cons, List.length_nil, List.cons_append, List.nil_append, List.append_nil, List.replicate, List.getElem?_cons_succ, List.getElem?_cons_zero, Res.items, List.set_cons_succ, List.set_cons_zero, Nat.reduceAdd, Nat.reduceSub, Res.pv, zn_length]),
    seqS_next (ρ' := LE ns (.val (.lst (zn ss))) a2 (.val (.lst (tps (allP ss)))) (.own 0 (zs nums)) a5 S6'' (.val (gameV ss rs (o : Int))) a8 a9 a10 (.val (.lst (tps qs))) (.val (.tup (zn cs))) (.val (.lst (restsL ss rs))) (.own 0 (restsL ss rs ++ [.tup [.int 0]])) (.val (.tup (zs ps))) (.val (.int (ss.length : Int))) (.val (.int (ss[0] : Int))) .unset a19) (by
      simp only [LE, seqS_ap, nilS_ap, brkS_ap, contS_ap, badS_ap, raiseS_ap, frS_ap, setS_ap, dropS_ap, retS_ap, ifS_ap, asg_val, asg_new, asg_bor, retR_val, retR_new, rd_ap, retOwn_ap, cst_ap, bin2_ap, un1_ap, callN_ap, callF_ap, fldE_ap, aNil_ap, aCons_ap, tupD_ap, lstD_ap, nilD_ap, walkOf_ap, walkR1_ap, walkR2_ap, walkZ_ap, walkE_ap, walkV_ap, tupRevV_ap, andT_ap, orT_ap, notT_ap, boolOf_ap, boolR_bl, andV_ap, orV_ap, notE_ap, ifV_ap, chn_ap, noB_ap, intB_ap, sl3_ap, forS_ap, lcV_ap, yesT_ap, stD_val, stD_new0, stAll_nil, stAll_cons, stR_val, stR_new, argR_val, argR_new, argR_bor, argR_lend, addV_int, subV_int, negV_int, ltV_int, leV_int, gtV_int, geV_int, eqV_int, neV_int, eqV_str, neV_str, intV_int, absV_int, max2_int, min2_int, lenV_tup, lenV_lst, lenV_scr, lenV_lend, R.ok_bind, slotOf, List.map_cons, List.map_nil, List.length_cons, List.length_nil, List.cons_append, List.nil_append, List.append_nil, List.replicate, List.getElem?_cons_succ, List.getElem?_cons_zero, Res.items, List.set_cons_succ, List.set_cons_zero, Nat.reduceAdd, Nat.reduceSub, Res.pv, ixV_lst, hs0])]
  by_cases hx : Int.fmod (x17 : Int) 2 = 1
  · rw [seqS_next (f := ifS _ _ _) (ρ' := LE ns (.val (.lst (zn ss))) a2 (.val (.lst (tps (allP ss)))) (.own 0 (zs nums)) a5 S6'' (.val (gameV ss rs (o : Int))) a8 a9 a10 (.val (.lst (tps qs))) (.val (.tup (zn cs))) (.val (.lst (restsL ss rs))) (.own 0 (restsL ss rs ++ [.tup [.int 0]])) (.val (.tup (zs ps))) (.val (.int (-1))) (.val (.int (-1))) .unset a19) (by
      simp only [LE, seqS_ap, nilS_ap, brkS_ap, contS_ap, badS_ap, raiseS_ap, frS_ap, setS_ap, dropS_ap, retS_ap, ifS_ap, asg_val, asg_new, asg_bor, retR_val, retR_new, rd_ap, retOwn_ap, cst_ap, bin2_ap, un1_ap, callN_ap, callF_ap, fldE_ap, aNil_ap, aCons_ap, tupD_ap, lstD_ap, nilD_ap, walkOf_ap, walkR1_ap, walkR2_ap, walkZ_ap, walkE_ap, walkV_ap, tupRevV_ap, andT_ap, orT_ap, notT_ap, boolOf_ap, boolR_bl, andV_ap, orV_ap, notE_ap, ifV_ap, chn_ap, noB_ap, intB_ap, sl3_ap, forS_ap, lcV_ap, yesT_ap, stD_val, stD_new0, stAll_nil, stAll_cons, stR_val, stR_new, argR_val, argR_new, argR_bor, argR_lend, addV_int, subV_int, negV_int, ltV_int, leV_int, gtV_int, geV_int, eqV_int, neV_int, eqV_str, neV_str, intV_int, absV_int, max2_int, min2_int, lenV_tup, lenV_lst, lenV_scr, lenV_lend, R.ok_bind, slotOf, List.map_cons, List.map_nil, List.length_cons, List.length_nil, List.cons_append, List.nil_append, List.append_nil, List.replicate, List.getElem?_cons_succ, List.getElem?_cons_zero, Res.items, List.set_cons_succ, List.set_cons_zero, Nat.reduceAdd, Nat.reduceSub, Res.pv, ixV_lend0, i17, modV_int (x := (x17 : Int)) (y := 2) (by decide), decide_eq_true hx, if_true])]
    exact fin (-1) (-1) (by unfold pB; rfl) (by unfold chB; rfl) (by unfold chB; rw [decide_eq_false (show ¬ (0 : Int) ≤ -1 by omega)]; simp) _ k3
  · rw [seqS_next (f := ifS _ _ _) (ρ' := LE ns (.val (.lst (zn ss))) a2 (.val (.lst (tps (allP ss)))) (.own 0 (zs nums)) a5 S6'' (.val (gameV ss rs (o : Int))) a8 a9 a10 (.val (.lst (tps qs))) (.val (.tup (zn cs))) (.val (.lst (restsL ss rs))) (.own 0 (restsL ss rs ++ [.tup [.int 0]])) (.val (.tup (zs ps))) (.val (.int (ss.length : Int))) (.val (.int (ss[0] : Int))) .unset a19) (by
      simp only [LE, seqS_ap, nilS_ap, brkS_ap, contS_ap, badS_ap, raiseS_ap, frS_ap, setS_ap, dropS_ap, retS_ap, ifS_ap, asg_val, asg_new, asg_bor, retR_val, retR_new, rd_ap, retOwn_ap, cst_ap, bin2_ap, un1_ap, callN_ap, callF_ap, fldE_ap, aNil_ap, aCons_ap, tupD_ap, lstD_ap, nilD_ap, walkOf_ap, walkR1_ap, walkR2_ap, walkZ_ap, walkE_ap, walkV_ap, tupRevV_ap, andT_ap, orT_ap, notT_ap, boolOf_ap, boolR_bl, andV_ap, orV_ap, notE_ap, ifV_ap, chn_ap, noB_ap, intB_ap, sl3_ap, forS_ap, lcV_ap, yesT_ap, stD_val, stD_new0, stAll_nil, stAll_cons, stR_val, stR_new, argR_val, argR_new, argR_bor, argR_lend, addV_int, subV_int, negV_int, ltV_int, leV_int, gtV_int, geV_int, eqV_int, neV_int, eqV_str, neV_str, intV_int, absV_int, max2_int, min2_int, lenV_tup, lenV_lst, lenV_scr, lenV_lend, R.ok_bind, slotOf, List.map_cons, List.map_nil, List.length_cons, List.length_nil, List.cons_append, List.nil_append, List.append_nil, List.replicate, List.getElem?_cons_succ, List.getElem?_cons_zero, Res.items, List.set_cons_succ, List.set_cons_zero, Nat.reduceAdd, Nat.reduceSub, Res.pv, ixV_lend0, i17, modV_int (x := (x17 : Int)) (y := 2) (by decide), decide_eq_false hx, Bool.false_eq_true, if_false])]
    refine fin _ _ ?_ ?_ ?_ _ k3
    · unfold pB; rw [decide_eq_false (show ¬ (ss.length : Int) < (ss.length : Int) by omega)]; simp
    · unfold chB; rw [decide_eq_false (show ¬ (ss.length : Int) < (ss.length : Int) by omega)]; simp
    · unfold chB
      have : ss.getD (0 : Int).toNat 0 = ss[0] := getD_some (List.getElem?_eq_getElem (by omega))
      rw [this, decide_eq_false (show ¬ (ss[0] : Int) < (ss[0] : Int) by omega)]; simp
end
end K88
namespace K88
open PySem PySem.Spec L2 Pv Mz
noncomputable section
theorem v_law (ns : List Int) : f_law [.val (.scr ns)] = .ok (.val (.bl true)) := by
  obtain ⟨c0, hc0⟩ := v_law_cell ns 0
  obtain ⟨c1, hc1⟩ := v_law_cell ns 1
  obtain ⟨ss, hS, hss⟩ := v_law_sizes c0
  obtain ⟨nums, hn, hr, hnums⟩ := v_law_row c1 3600 30 (by decide) (by decide)
  have hc0' : f_law_cell [Res.val (.scr ns), Res.val (.int 0)] = .ok (.val (.int c0)) := hc0
  have hc1' : f_law_cell [Res.val (.scr ns), Res.val (.int 1)] = .ok (.val (.int c1)) := hc1
  have hnums' : f_law_row [Res.val (.int c1), Res.val (.int 30), Res.val (.int 3600)] = .ok (.new 0 (zs nums)) := hnums
  have hcnt := v_law_count ss hS.le
  have hplays := v_law_plays ss hS
  have h1 := hS.n1
  have h4 := hS.n4
  have hpr := hS.pr
  have hprp := pr_pos hS.pos
  have hnum : ∀ i, i < 30 → ∃ x : Nat, nums[i]? = some (x : Int) := fun i hi => by
    have hi' : i < nums.length := by omega
    obtain ⟨x, hx⟩ := nat_of (hr nums[i] (List.getElem_mem hi')).1
    exact ⟨x, by rw [List.getElem?_eq_getElem hi', hx]⟩
  obtain ⟨x0, n0⟩ := hnum 0 (by omega)
  obtain ⟨x1, n1⟩ := hnum 1 (by omega)
  have i0 : atI (zs nums) 0 = some (.int (x0 : Int)) := at_zs (i := 0) n0
  have i1 : atI (zs nums) 1 = some (.int (x1 : Int)) := at_zs (i := 1) n1
  obtain ⟨o, ho⟩ := nat_of (x := 1 + Int.fmod (x0 : Int) 9) (by have := fmod_in (x := (x0 : Int)) (m := 9) (by omega); omega)
  have ho9 : 1 ≤ o ∧ o ≤ 9 := by have := fmod_in (x := (x0 : Int)) (m := 9) (by omega); omega
  have hrow : ∀ k : Nat, ∃ row : List Int, row.length = Mz.pr ss ∧ ∃ c, f_law_cell [Res.val (.scr ns), Res.val (.int (2 + (k : Int)))] = .ok (.val (.int c)) ∧ f_law_pays [.val (.int (c + 17 * (k : Int))), .val (.int (Mz.pr ss : Int))] = .ok (.new 0 (zs row)) := fun k => by
    obtain ⟨c, hc⟩ := v_law_cell ns (2 + k)
    obtain ⟨row, r1, _, r3⟩ := v_law_pays (c + 17 * (k : Int)) (Mz.pr ss) (by omega)
    exact ⟨row, r1, c, hc, r3⟩
  obtain ⟨rw0, hrw0⟩ := Classical.skolem.mp hrow
  have hR0 : ∃ rs0 : List (List Int), rs0.length = ss.length ∧ (∀ r ∈ rs0, r.length = Mz.pr ss) ∧ (List.range' 0 ss.length).map (fun k => PV.lst (zs (rw0 k))) = rlst rs0 := ⟨(List.range' 0 ss.length).map rw0, by rw [List.length_map, List.length_range'], (fun r hr => by
    obtain ⟨k, _, e⟩ := List.mem_map.mp hr
    rw [← e]; exact (hrw0 k).1), by unfold rlst; rw [List.map_map]; rfl⟩
  obtain ⟨rs0, l0, r0, e0⟩ := hR0
  have hl0 : 0 < rs0.length := by omega
  have hR1 : ∃ rs : List (List Int), rs.length = ss.length ∧ (∀ r ∈ rs, r.length = Mz.pr ss) ∧ ifS (boolOf (bin2 ltV (bin2 ixV (rd 4) (cst (.int 1))) (cst (.int 1200))))
    (ixS 6 (pthN 6) (bin2 subV (callN lenV (aCons (rd 1) aNil)) (cst (.int 1))) (callN listV (aCons (bin2 ixV (rd 6) (cst (.int 0))) aNil)))
    nilS (LE ns (.val (.lst (zn ss))) (.val (.int (Mz.pr ss : Int))) (.val (.lst (tps (allP ss)))) (.own 0 (zs nums)) (.val (.int (o : Int))) (.own 0 (rlst rs0)) .unset .unset .unset .unset .unset .unset .unset .unset .unset .unset .unset .unset .unset) = .next (LE ns (.val (.lst (zn ss))) (.val (.int (Mz.pr ss : Int))) (.val (.lst (tps (allP ss)))) (.own 0 (zs nums)) (.val (.int (o : Int))) (.own 0 (rlst rs)) .unset .unset .unset .unset .unset .unset .unset .unset .unset .unset .unset .unset .unset) := by
    by_cases hx : (x1 : Int) < 1200
    · refine ⟨rs0.set (ss.length - 1) rs0[0], by rw [List.length_set]; exact l0, (fun r hr => by
        rcases List.mem_or_eq_of_mem_set hr with h | h
        · exact r0 r h
        · rw [h]; exact r0 _ (List.getElem_mem _)), ?_⟩
      have ha : atI (rlst rs0) 0 = some (.lst (zs rs0[0])) := at_rlst (p := 0) (List.getElem?_eq_getElem hl0)
      have hset : (rlst rs0).set (ss.length - 1) (.lst (zs rs0[0])) = rlst (rs0.set (ss.length - 1) rs0[0]) := by unfold rlst; rw [List.map_set]
      have hlen : (rlst rs0).length = ss.length := by unfold rlst; rw [List.length_map, l0]
      have hix : ixN (rlst rs0).length ((ss.length : Int) - 1) = some (ss.length - 1) := by
        rw [hlen, show (ss.length : Int) - 1 = ((ss.length - 1 : Nat) : Int) by omega]
        unfold ixN
        rw [if_pos (by omega), if_pos (by omega), Int.toNat_natCast]
      have hb : boolOf (bin2 ltV (bin2 ixV (rd 4) (cst (.int 1))) (cst (.int 1200))) (LE ns (.val (.lst (zn ss))) (.val (.int (Mz.pr ss : Int))) (.val (.lst (tps (allP ss)))) (.own 0 (zs nums)) (.val (.int (o : Int))) (.own 0 (rlst rs0)) .unset .unset .unset .unset .unset .unset .unset .unset .unset .unset .unset .unset .unset) = .ok true := by
        simp only [LE, seqS_ap, nilS_ap, brkS_ap, contS_ap, badS_ap, raiseS_ap, frS_ap, setS_ap, dropS_ap, retS_ap, ifS_ap, asg_val, asg_new, asg_bor, retR_val, retR_new, rd_ap, retOwn_ap, cst_ap, bin2_ap, un1_ap, callN_ap, callF_ap, fldE_ap, aNil_ap, aCons_ap, tupD_ap, lstD_ap, nilD_ap, walkOf_ap, walkR1_ap, walkR2_ap, walkZ_ap, walkE_ap, walkV_ap, tupRevV_ap, andT_ap, orT_ap, notT_ap, boolOf_ap, boolR_bl, andV_ap, orV_ap, notE_ap, ifV_ap, chn_ap, noB_ap, intB_ap, sl3_ap, forS_ap, lcV_ap, yesT_ap, stD_val, stD_new0, stAll_nil, stAll_cons, stR_val, stR_new, argR_val, argR_new, argR_bor, argR_lend, addV_int, subV_int, negV_int, ltV_int, leV_int, gtV_int, geV_int, eqV_int, neV_int, eqV_str, neV_str, intV_int, absV_int, max2_int, min2_int, lenV_tup, lenV_lst, lenV_scr, lenV_lend, R.ok_bind, slotOf, List.map_cons, List.map_nil, List.length_cons, List.length_nil, List.cons_append, List.nil_append, List.append_nil, List.replicate, List.getElem?_cons_succ, List.getElem?_cons_zero, Res.items, List.set_cons_succ, List.set_cons_zero, Nat.reduceAdd, Nat.reduceSub, Res.pv, ixV_lend0, i1, decide_eq_true hx]
      rw [ifS_ap, hb]
      simp only [if_true]
      rw [ixS_own (n := 0) (xs := rlst rs0) (r := .new 0 (zs rs0[0])) (p := .lst (zs rs0[0])) (j := (ss.length : Int) - 1) (m := ss.length - 1) (by rfl) (by
        simp only [LE, seqS_ap, nilS_ap, brkS_ap, contS_ap, badS_ap, raiseS_ap, frS_ap, setS_ap, dropS_ap, retS_ap, ifS_ap, asg_val, asg_new, asg_bor, retR_val, retR_new, rd_ap, retOwn_ap, cst_ap, bin2_ap, un1_ap, callN_ap, callF_ap, fldE_ap, aNil_ap, aCons_ap, tupD_ap, lstD_ap, nilD_ap, walkOf_ap, walkR1_ap, walkR2_ap, walkZ_ap, walkE_ap, walkV_ap, tupRevV_ap, andT_ap, orT_ap, notT_ap, boolOf_ap, boolR_bl, andV_ap, orV_ap, notE_ap, ifV_ap, chn_ap, noB_ap, intB_ap, sl3_ap, forS_ap, lcV_ap, yesT_ap, stD_val, stD_new0, stAll_nil, stAll_cons, stR_val, stR_new, argR_val, argR_new, argR_bor, argR_lend, addV_int, subV_int, negV_int, ltV_int, leV_int, gtV_int, geV_int, eqV_int, neV_int, eqV_str, neV_str, intV_int, absV_int, max2_int, min2_int, lenV_tup, lenV_lst, lenV_scr, lenV_lend, R.ok_bind, slotOf, List.map_cons, List.map_nil, List.length_cons, List.length_nil, List.cons_append, List.nil_append, List.append_nil, List.replicate, List.getElem?_cons_succ, List.getElem?_cons_zero, Res.items, List.set_cons_succ, List.set_cons_zero, Nat.reduceAdd, Nat.reduceSub, Res.pv, ixV_lend0, ha]; rfl) (by simp only [LE, seqS_ap, nilS_ap, brkS_ap, contS_ap, badS_ap, raiseS_ap, frS_ap, setS_ap, dropS_ap, retS_ap, ifS_ap, asg_val, asg_new, asg_bor, retR_val, retR_new, rd_ap, retOwn_ap, cst_ap, bin2_ap, un1_ap, callN_ap, callF_ap, fldE_ap, aNil_ap, aCons_ap, tupD_ap, lstD_ap, nilD_ap, walkOf_ap, walkR1_ap, walkR2_ap, walkZ_ap, walkE_ap, walkV_ap, tupRevV_ap, andT_ap, orT_ap, notT_ap, boolOf_ap, boolR_bl, andV_ap, orV_ap, notE_ap, ifV_ap, chn_ap, noB_ap, intB_ap, sl3_ap, forS_ap, lcV_ap, yesT_ap, stD_val, stD_new0, stAll_nil, stAll_cons, stR_val, stR_new, argR_val, argR_new, argR_bor, argR_lend, addV_int, subV_int, negV_int, ltV_int, leV_int, gtV_int, geV_int, eqV_int, neV_int, eqV_str, neV_str, intV_int, absV_int, max2_int, min2_int, lenV_tup, lenV_lst, lenV_scr, lenV_lend, R.ok_bind, slotOf, List.map_cons, List.map_nil, List.length_cons, List.length_nil, List.cons_append, List.nil_append, List.append_nil, List.replicate, List.getElem?_cons_succ, List.getElem?_cons_zero, Res.items, List.set_cons_succ, List.set_cons_zero, Nat.reduceAdd, Nat.reduceSub, Res.pv, zn_length]) hix (by rfl), hset]
      rfl
    · exact ⟨rs0, l0, r0, by simp only [LE, seqS_ap, nilS_ap, brkS_ap, contS_ap, badS_ap, raiseS_ap, frS_ap, setS_ap, dropS_ap, retS_ap, ifS_ap, asg_val, asg_new, asg_bor, retR_val, retR_new, rd_ap, retOwn_ap, cst_ap, bin2_ap, un1_ap, callN_ap, callF_ap, fldE_ap, aNil_ap, aCons_ap, tupD_ap, lstD_ap, nilD_ap, walkOf_ap, walkR1_ap, walkR2_ap, walkZ_ap, walkE_ap, walkV_ap, tupRevV_ap, andT_ap, orT_ap, notT_ap, boolOf_ap, boolR_bl, andV_ap, orV_ap, notE_ap, ifV_ap, chn_ap, noB_ap, intB_ap, sl3_ap, forS_ap, lcV_ap, yesT_ap, stD_val, stD_new0, stAll_nil, stAll_cons, stR_val, stR_new, argR_val, argR_new, argR_bor, argR_lend, addV_int, subV_int, negV_int, ltV_int, leV_int, gtV_int, geV_int, eqV_int, neV_int, eqV_str, neV_str, intV_int, absV_int, max2_int, min2_int, lenV_tup, lenV_lst, lenV_scr, lenV_lend, R.ok_bind, slotOf, List.map_cons, List.map_nil, List.length_cons, List.length_nil, List.cons_append, List.nil_append, List.append_nil, List.replicate, List.getElem?_cons_succ, List.getElem?_cons_zero, Res.items, List.set_cons_succ, List.set_cons_zero, Nat.reduceAdd, Nat.reduceSub, Res.pv, ixV_lend0, i1, decide_eq_false hx, Bool.false_eq_true, if_false]⟩
  obtain ⟨rs, l1, r1, e1⟩ := hR1
  have g1 := gfolds_pos rs o (by omega)
  have g2 := gfolds_le rs o (by omega)
  have hgame := v_Game_init ss rs o hS l1 r1 (by omega)
  have hov : (o : Int).fdiv (gfolds o rs : Int) = ((o / gfolds o rs : Nat) : Int) := fdiv_nat _ _
  have ho2 : 1 ≤ o / gfolds o rs ∧ o / gfolds o rs ≤ 1000 := ⟨(Nat.one_le_div_iff g1).mpr g2, Nat.le_trans (Nat.div_le_self _ _) (by omega)⟩
  have G : GOk ss (rs.map (quo (gfolds o rs))) := ⟨hS, by rw [List.length_map]; exact l1, fun r hr => by
    obtain ⟨x, hx, e⟩ := List.mem_map.mp hr
    rw [← e]; unfold quo; rw [List.length_map]; exact r1 x hx⟩
  obtain ⟨t9, t10, hcm⟩ := cm_outer (ns := ns) (a1 := .val (.lst (zn ss))) (a2 := .val (.int (Mz.pr ss : Int))) (a3 := .val (.lst (tps (allP ss)))) (a4 := .own 0 (zs nums)) (a5 := .val (.int (o : Int))) (a6 := .val (.lst (rlst rs))) (a7 := .val (gameV ss (rs.map (quo (gfolds o rs))) ((o / gfolds o rs : Nat) : Int))) (a11 := .unset) (a13 := .unset) (a14 := .unset) (a15 := .unset) (a16 := .unset) (a17 := .unset) (a18 := .unset) (a19 := .unset) .unset rs o .unset .unset (by omega)
  have h21000 : (2 : Int) ^ 1000 > 1000 := by decide
  refine runFn_ret (show b_law (LE ns .unset .unset .unset .unset .unset .unset .unset .unset .unset .unset .unset .unset .unset .unset .unset .unset .unset .unset .unset) = _ from ?_)
  unfold b_law
  rw [seqS_next (ρ' := LE ns (.own 0 (zn ss)) .unset .unset .unset .unset .unset .unset .unset .unset .unset .unset .unset .unset .unset .unset .unset .unset .unset .unset) (by simp only [LE, seqS_ap, nilS_ap, brkS_ap, contS_ap, badS_ap, raiseS_ap, frS_ap, setS_ap, dropS_ap, retS_ap, ifS_ap, asg_val, asg_new, asg_bor, retR_val, retR_new, rd_ap, retOwn_ap, cst_ap, bin2_ap, un1_ap, callN_ap, callF_ap, fldE_ap, aNil_ap, aCons_ap, tupD_ap, lstD_ap, nilD_ap, walkOf_ap, walkR1_ap, walkR2_ap, walkZ_ap, walkE_ap, walkV_ap, tupRevV_ap, andT_ap, orT_ap, notT_ap, boolOf_ap, boolR_bl, andV_ap, orV_ap, notE_ap, ifV_ap, chn_ap, noB_ap, intB_ap, sl3_ap, forS_ap, lcV_ap, yesT_ap, stD_val, stD_new0, stAll_nil, stAll_cons, stR_val, stR_new, argR_val, argR_new, argR_bor, argR_lend, addV_int, subV_int, negV_int, ltV_int, leV_int, gtV_int, geV_int, eqV_int, neV_int, eqV_str, neV_str, intV_int, absV_int, max2_int, min2_int, lenV_tup, lenV_lst, lenV_scr, lenV_lend, R.ok_bind, slotOf, List.map_cons, List.map_nil, List.length_cons, List.length_nil, List.cons_append, List.nil_append, List.append_nil, List.replicate, List.getElem?_cons_succ, List.getElem?_cons_zero, Res.items, List.set_cons_succ, List.set_cons_zero, Nat.reduceAdd, Nat.reduceSub, Res.pv, hc0', hss]),
    seqS_next (f := frS 1 _) (ρ' := LE ns (.val (.lst (zn ss))) (.val (.int (Mz.pr ss : Int))) .unset .unset .unset .unset .unset .unset .unset .unset .unset .unset .unset .unset .unset .unset .unset .unset .unset) (by
      rw [frS_ap, frE_own (n := 0) (xs := zn ss) (by rfl)]
      simp only [LE, seqS_ap, nilS_ap, brkS_ap, contS_ap, badS_ap, raiseS_ap, frS_ap, setS_ap, dropS_ap, retS_ap, ifS_ap, asg_val, asg_new, asg_bor, retR_val, retR_new, rd_ap, retOwn_ap, cst_ap, bin2_ap, un1_ap, callN_ap, callF_ap, fldE_ap, aNil_ap, aCons_ap, tupD_ap, lstD_ap, nilD_ap, walkOf_ap, walkR1_ap, walkR2_ap, walkZ_ap, walkE_ap, walkV_ap, tupRevV_ap, andT_ap, orT_ap, notT_ap, boolOf_ap, boolR_bl, andV_ap, orV_ap, notE_ap, ifV_ap, chn_ap, noB_ap, intB_ap, sl3_ap, forS_ap, lcV_ap, yesT_ap, stD_val, stD_new0, stAll_nil, stAll_cons, stR_val, stR_new, argR_val, argR_new, argR_bor, argR_lend, addV_int, subV_int, negV_int, ltV_int, leV_int, gtV_int, geV_int, eqV_int, neV_int, eqV_str, neV_str, intV_int, absV_int, max2_int, min2_int, lenV_tup, lenV_lst, lenV_scr, lenV_lend, R.ok_bind, slotOf, List.map_cons, List.map_nil, List.length_cons, List.length_nil, List.cons_append, List.nil_append, List.append_nil, List.replicate, List.getElem?_cons_succ, List.getElem?_cons_zero, Res.items, List.set_cons_succ, List.set_cons_zero, Nat.reduceAdd, Nat.reduceSub, Res.pv, hcnt]),
    seqS_next (f := frS 1 _) (ρ' := LE ns (.val (.lst (zn ss))) (.val (.int (Mz.pr ss : Int))) (.val (.lst (tps (allP ss)))) .unset .unset .unset .unset .unset .unset .unset .unset .unset .unset .unset .unset .unset .unset .unset .unset) (by
      rw [frS_ap, frE_val (p := .lst (zn ss)) (by rfl)]
      simp only [LE, seqS_ap, nilS_ap, brkS_ap, contS_ap, badS_ap, raiseS_ap, frS_ap, setS_ap, dropS_ap, retS_ap, ifS_ap, asg_val, asg_new, asg_bor, retR_val, retR_new, rd_ap, retOwn_ap, cst_ap, bin2_ap, un1_ap, callN_ap, callF_ap, fldE_ap, aNil_ap, aCons_ap, tupD_ap, lstD_ap, nilD_ap, walkOf_ap, walkR1_ap, walkR2_ap, walkZ_ap, walkE_ap, walkV_ap, tupRevV_ap, andT_ap, orT_ap, notT_ap, boolOf_ap, boolR_bl, andV_ap, orV_ap, notE_ap, ifV_ap, chn_ap, noB_ap, intB_ap, sl3_ap, forS_ap, lcV_ap, yesT_ap, stD_val, stD_new0, stAll_nil, stAll_cons, stR_val, stR_new, argR_val, argR_new, argR_bor, argR_lend, addV_int, subV_int, negV_int, ltV_int, leV_int, gtV_int, geV_int, eqV_int, neV_int, eqV_str, neV_str, intV_int, absV_int, max2_int, min2_int, lenV_tup, lenV_lst, lenV_scr, lenV_lend, R.ok_bind, slotOf, List.map_cons, List.map_nil, List.length_cons, List.length_nil, List.cons_append, List.nil_append, List.append_nil, List.replicate, List.getElem?_cons_succ, List.getElem?_cons_zero, Res.items, List.set_cons_succ, List.set_cons_zero, Nat.reduceAdd, Nat.reduceSub, Res.pv, hplays]),
    seqS_next (ρ' := LE ns (.val (.lst (zn ss))) (.val (.int (Mz.pr ss : Int))) (.val (.lst (tps (allP ss)))) (.own 0 (zs nums)) .unset .unset .unset .unset .unset .unset .unset .unset .unset .unset .unset .unset .unset .unset .unset) (by simp only [LE, seqS_ap, nilS_ap, brkS_ap, contS_ap, badS_ap, raiseS_ap, frS_ap, setS_ap, dropS_ap, retS_ap, ifS_ap, asg_val, asg_new, asg_bor, retR_val, retR_new, rd_ap, retOwn_ap, cst_ap, bin2_ap, un1_ap, callN_ap, callF_ap, fldE_ap, aNil_ap, aCons_ap, tupD_ap, lstD_ap, nilD_ap, walkOf_ap, walkR1_ap, walkR2_ap, walkZ_ap, walkE_ap, walkV_ap, tupRevV_ap, andT_ap, orT_ap, notT_ap, boolOf_ap, boolR_bl, andV_ap, orV_ap, notE_ap, ifV_ap, chn_ap, noB_ap, intB_ap, sl3_ap, forS_ap, lcV_ap, yesT_ap, stD_val, stD_new0, stAll_nil, stAll_cons, stR_val, stR_new, argR_val, argR_new, argR_bor, argR_lend, addV_int, subV_int, negV_int, ltV_int, leV_int, gtV_int, geV_int, eqV_int, neV_int, eqV_str, neV_str, intV_int, absV_int, max2_int, min2_int, lenV_tup, lenV_lst, lenV_scr, lenV_lend, R.ok_bind, slotOf, List.map_cons, List.map_nil, List.length_cons, List.length_nil, List.cons_append, List.nil_append, List.append_nil, List.replicate, List.getElem?_cons_succ, List.getElem?_cons_zero, Res.items, List.set_cons_succ, List.set_cons_zero, Nat.reduceAdd, Nat.reduceSub, Res.pv, hc1', hnums']),
    seqS_next (ρ' := LE ns (.val (.lst (zn ss))) (.val (.int (Mz.pr ss : Int))) (.val (.lst (tps (allP ss)))) (.own 0 (zs nums)) (.val (.int (o : Int))) .unset .unset .unset .unset .unset .unset .unset .unset .unset .unset .unset .unset .unset .unset) (by simp only [LE, seqS_ap, nilS_ap, brkS_ap, contS_ap, badS_ap, raiseS_ap, frS_ap, setS_ap, dropS_ap, retS_ap, ifS_ap, asg_val, asg_new, asg_bor, retR_val, retR_new, rd_ap, retOwn_ap, cst_ap, bin2_ap, un1_ap, callN_ap, callF_ap, fldE_ap, aNil_ap, aCons_ap, tupD_ap, lstD_ap, nilD_ap, walkOf_ap, walkR1_ap, walkR2_ap, walkZ_ap, walkE_ap, walkV_ap, tupRevV_ap, andT_ap, orT_ap, notT_ap, boolOf_ap, boolR_bl, andV_ap, orV_ap, notE_ap, ifV_ap, chn_ap, noB_ap, intB_ap, sl3_ap, forS_ap, lcV_ap, yesT_ap, stD_val, stD_new0, stAll_nil, stAll_cons, stR_val, stR_new, argR_val, argR_new, argR_bor, argR_lend, addV_int, subV_int, negV_int, ltV_int, leV_int, gtV_int, geV_int, eqV_int, neV_int, eqV_str, neV_str, intV_int, absV_int, max2_int, min2_int, lenV_tup, lenV_lst, lenV_scr, lenV_lend, R.ok_bind, slotOf, List.map_cons, List.map_nil, List.length_cons, List.length_nil, List.cons_append, List.nil_append, List.append_nil, List.replicate, List.getElem?_cons_succ, List.getElem?_cons_zero, Res.items, List.set_cons_succ, List.set_cons_zero, Nat.reduceAdd, Nat.reduceSub, Res.pv, ixV_lend0, i0, modV_int (x := (x0 : Int)) (y := 9) (by decide), ho])]
  have hrows : lcV 0 (walkR1 (callN lenV (aCons (rd 1) aNil))) (asg 19) yesT (callF f_law_pays [] (aCons (bin2 addV (callF f_law_cell [] (aCons (rd 0) (aCons (bin2 addV (cst (.int 2)) (rd 19)) aNil))) (bin2 mulV (cst (.int 17)) (rd 19))) (aCons (rd 2) aNil))) [19] (LE ns (.val (.lst (zn ss))) (.val (.int (Mz.pr ss : Int))) (.val (.lst (tps (allP ss)))) (.own 0 (zs nums)) (.val (.int (o : Int))) .unset .unset .unset .unset .unset .unset .unset .unset .unset .unset .unset .unset .unset .unset) = .ok (.new 0 (rlst rs0)) := by
    rw [← e0]
    refine lc_rangeG (s := ss.length) (fun k => PV.lst (zs (rw0 k))) (by simp only [LE, seqS_ap, nilS_ap, brkS_ap, contS_ap, badS_ap, raiseS_ap, frS_ap, setS_ap, dropS_ap, retS_ap, ifS_ap, asg_val, asg_new, asg_bor, retR_val, retR_new, rd_ap, retOwn_ap, cst_ap, bin2_ap, un1_ap, callN_ap, callF_ap, fldE_ap, aNil_ap, aCons_ap, tupD_ap, lstD_ap, nilD_ap, walkOf_ap, walkR1_ap, walkR2_ap, walkZ_ap, walkE_ap, walkV_ap, tupRevV_ap, andT_ap, orT_ap, notT_ap, boolOf_ap, boolR_bl, andV_ap, orV_ap, notE_ap, ifV_ap, chn_ap, noB_ap, intB_ap, sl3_ap, forS_ap, lcV_ap, yesT_ap, stD_val, stD_new0, stAll_nil, stAll_cons, stR_val, stR_new, argR_val, argR_new, argR_bor, argR_lend, addV_int, subV_int, negV_int, ltV_int, leV_int, gtV_int, geV_int, eqV_int, neV_int, eqV_str, neV_str, intV_int, absV_int, max2_int, min2_int, lenV_tup, lenV_lst, lenV_scr, lenV_lend, R.ok_bind, slotOf, List.map_cons, List.map_nil, List.length_cons, List.length_nil, List.cons_append, List.nil_append, List.append_nil, List.replicate, List.getElem?_cons_succ, List.getElem?_cons_zero, Res.items, List.set_cons_succ, List.set_cons_zero, Nat.reduceAdd, Nat.reduceSub, Res.pv, zn_length]) (by omega) fun k hk => ?_
    obtain ⟨_, c, q1, q2⟩ := hrw0 k
    refine ⟨.new 0 (zs (rw0 k)), ?_, rfl⟩
    show callF f_law_pays [] (aCons (bin2 addV (callF f_law_cell [] (aCons (rd 0) (aCons (bin2 addV (cst (.int 2)) (rd 19)) aNil))) (bin2 mulV (cst (.int 17)) (rd 19))) (aCons (rd 2) aNil)) (LE ns (.val (.lst (zn ss))) (.val (.int (Mz.pr ss : Int))) (.val (.lst (tps (allP ss)))) (.own 0 (zs nums)) (.val (.int (o : Int))) .unset .unset .unset .unset .unset .unset .unset .unset .unset .unset .unset .unset .unset (.val (.int (k : Int)))) = _
    simp only [LE, seqS_ap, nilS_ap, brkS_ap, contS_ap, badS_ap, raiseS_ap, frS_ap, setS_ap, dropS_ap, retS_ap, ifS_ap, asg_val, asg_new, asg_bor, retR_val, retR_new, rd_ap, retOwn_ap, cst_ap, bin2_ap, un1_ap, callN_ap, callF_ap, fldE_ap, aNil_ap, aCons_ap, tupD_ap, lstD_ap, nilD_ap, walkOf_ap, walkR1_ap, walkR2_ap, walkZ_ap, walkE_ap, walkV_ap, tupRevV_ap, andT_ap, orT_ap, notT_ap, boolOf_ap, boolR_bl, andV_ap, orV_ap, notE_ap, ifV_ap, chn_ap, noB_ap, intB_ap, sl3_ap, forS_ap, lcV_ap, yesT_ap, stD_val, stD_new0, stAll_nil, stAll_cons, stR_val, stR_new, argR_val, argR_new, argR_bor, argR_lend, addV_int, subV_int, negV_int, ltV_int, leV_int, gtV_int, geV_int, eqV_int, neV_int, eqV_str, neV_str, intV_int, absV_int, max2_int, min2_int, lenV_tup, lenV_lst, lenV_scr, lenV_lend, R.ok_bind, slotOf, List.map_cons, List.map_nil, List.length_cons, List.length_nil, List.cons_append, List.nil_append, List.append_nil, List.replicate, List.getElem?_cons_succ, List.getElem?_cons_zero, Res.items, List.set_cons_succ, List.set_cons_zero, Nat.reduceAdd, Nat.reduceSub, Res.pv, q1, mulV_big (x := 17) (y := (k : Int)) (by omega), q2]
  rw [seqS_next (f := frS 2 _) (ρ' := LE ns (.val (.lst (zn ss))) (.val (.int (Mz.pr ss : Int))) (.val (.lst (tps (allP ss)))) (.own 0 (zs nums)) (.val (.int (o : Int))) (.own 0 (rlst rs0)) .unset .unset .unset .unset .unset .unset .unset .unset .unset .unset .unset .unset .unset) (by
      rw [frS_ap, frE_val (p := .int (Mz.pr ss : Int)) (by rfl), setS_ap, hrows]; rfl),
    seqS_next e1]
  have hcopy : lcV 0 (walkOf (rd 6)) (asg 9) yesT (callN listV (aCons (rd 9) aNil)) [9] (LE ns (.val (.lst (zn ss))) (.val (.int (Mz.pr ss : Int))) (.val (.lst (tps (allP ss)))) (.own 0 (zs nums)) (.val (.int (o : Int))) (.val (.lst (rlst rs))) .unset .unset .unset .unset .unset .unset .unset .unset .unset .unset .unset .unset .unset) = .ok (.new 0 (rlst rs)) :=
    lc_rows (rs := rs) (fun r => PV.lst (zs r)) (by rfl) (by omega) fun r _ => ⟨.new 0 (zs r), rfl, rfl⟩
  rw [seqS_next (f := frS 6 _) (ρ' := LE ns (.val (.lst (zn ss))) (.val (.int (Mz.pr ss : Int))) (.val (.lst (tps (allP ss)))) (.own 0 (zs nums)) (.val (.int (o : Int))) (.val (.lst (rlst rs))) (.val (gameV ss (rs.map (quo (gfolds o rs))) ((o / gfolds o rs : Nat) : Int))) .unset .unset .unset .unset .unset .unset .unset .unset .unset .unset .unset .unset) (by
      rw [frS_ap, frE_own (n := 0) (xs := rlst rs) (by rfl), frS_ap, frE_val (p := .lst (zn ss)) (by rfl), setS_ap, makeF_ap, aCons_ap, aCons_ap]
      rw [show (LE ns (.val (.lst (zn ss))) (.val (.int (Mz.pr ss : Int))) (.val (.lst (tps (allP ss)))) (.own 0 (zs nums)) (.val (.int (o : Int))) (.own 0 (rlst rs)) .unset .unset .unset .unset .unset .unset .unset .unset .unset .unset .unset .unset .unset).set 6 (.val (.lst (rlst rs))) = LE ns (.val (.lst (zn ss))) (.val (.int (Mz.pr ss : Int))) (.val (.lst (tps (allP ss)))) (.own 0 (zs nums)) (.val (.int (o : Int))) (.val (.lst (rlst rs))) .unset .unset .unset .unset .unset .unset .unset .unset .unset .unset .unset .unset .unset from rfl, hcopy]
      simp only [LE, seqS_ap, nilS_ap, brkS_ap, contS_ap, badS_ap, raiseS_ap, frS_ap, setS_ap, dropS_ap, retS_ap, ifS_ap, asg_val, asg_new, asg_bor, retR_val, retR_new, rd_ap, retOwn_ap, cst_ap, bin2_ap, un1_ap, callN_ap, callF_ap, fldE_ap, aNil_ap, aCons_ap, tupD_ap, lstD_ap, nilD_ap, walkOf_ap, walkR1_ap, walkR2_ap, walkZ_ap, walkE_ap, walkV_ap, tupRevV_ap, andT_ap, orT_ap, notT_ap, boolOf_ap, boolR_bl, andV_ap, orV_ap, notE_ap, ifV_ap, chn_ap, noB_ap, intB_ap, sl3_ap, forS_ap, lcV_ap, yesT_ap, stD_val, stD_new0, stAll_nil, stAll_cons, stR_val, stR_new, argR_val, argR_new, argR_bor, argR_lend, addV_int, subV_int, negV_int, ltV_int, leV_int, gtV_int, geV_int, eqV_int, neV_int, eqV_str, neV_str, intV_int, absV_int, max2_int, min2_int, lenV_tup, lenV_lst, lenV_scr, lenV_lend, R.ok_bind, slotOf, List.map_cons, List.map_nil, List.length_cons, List.length_nil, List.cons_append, List.nil_append, List.append_nil, List.replicate, List.getElem?_cons_succ, List.getElem?_cons_zero, Res.items, List.set_cons_succ, List.set_cons_zero, Nat.reduceAdd, Nat.reduceSub, Res.pv, hgame, hov]),
    seqS_next (ρ' := LE ns (.val (.lst (zn ss))) (.val (.int (Mz.pr ss : Int))) (.val (.lst (tps (allP ss)))) (.own 0 (zs nums)) (.val (.int (o : Int))) (.val (.lst (rlst rs))) (.val (gameV ss (rs.map (quo (gfolds o rs))) ((o / gfolds o rs : Nat) : Int))) (.val (.int (o : Int))) .unset .unset .unset .unset .unset .unset .unset .unset .unset .unset .unset) (by rfl),
    seqS_next (f := frS 6 _) (by
      rw [frS_ap, frE_val (p := .lst (rlst rs)) (by rfl)]
      exact (forS_ok (walkOf_lst (xs := rlst rs) (by rfl))).trans hcm)]
  have hdivs : lcV 0 (walkOf (rd 6)) (asg 9) yesT (lcV 0 (walkOf (rd 9)) (asg 10) yesT (bin2 fdivV (rd 10) (rd 8)) [10]) [9] (LE ns (.val (.lst (zn ss))) (.val (.int (Mz.pr ss : Int))) (.val (.lst (tps (allP ss)))) (.own 0 (zs nums)) (.val (.int (o : Int))) (.val (.lst (rlst rs))) (.val (gameV ss (rs.map (quo (gfolds o rs))) ((o / gfolds o rs : Nat) : Int))) (.val (.int (gfolds o rs : Int))) t9 t10 .unset .unset .unset .unset .unset .unset .unset .unset .unset) = .ok (.new 0 (rlst (rs.map (quo (gfolds o rs))))) := by
    have e : rlst (rs.map (quo (gfolds o rs))) = rs.map fun r => PV.lst (zs (quo (gfolds o rs) r)) := by unfold rlst; rw [List.map_map]; rfl
    rw [e]
    refine lc_rows (rs := rs) (fun r => PV.lst (zs (quo (gfolds o rs) r))) (by rfl) (by omega) fun r hr => ⟨.new 0 (zs (quo (gfolds o rs) r)), ?_, rfl⟩
    have := r1 r hr
    refine lc_zs (row := r) (fun x => x.fdiv (gfolds o rs : Int)) (by rfl) (by omega) fun x _ => ?_
    show bin2 fdivV (rd 10) (rd 8) (LE ns (.val (.lst (zn ss))) (.val (.int (Mz.pr ss : Int))) (.val (.lst (tps (allP ss)))) (.own 0 (zs nums)) (.val (.int (o : Int))) (.val (.lst (rlst rs))) (.val (gameV ss (rs.map (quo (gfolds o rs))) ((o / gfolds o rs : Nat) : Int))) (.val (.int (gfolds o rs : Int))) (.val (.lst (zs r))) (.val (.int x)) .unset .unset .unset .unset .unset .unset .unset .unset .unset) = _
    simp only [LE, seqS_ap, nilS_ap, brkS_ap, contS_ap, badS_ap, raiseS_ap, frS_ap, setS_ap, dropS_ap, retS_ap, ifS_ap, asg_val, asg_new, asg_bor, retR_val, retR_new, rd_ap, retOwn_ap, cst_ap, bin2_ap, un1_ap, callN_ap, callF_ap, fldE_ap, aNil_ap, aCons_ap, tupD_ap, lstD_ap, nilD_ap, walkOf_ap, walkR1_ap, walkR2_ap, walkZ_ap, walkE_ap, walkV_ap, tupRevV_ap, andT_ap, orT_ap, notT_ap, boolOf_ap, boolR_bl, andV_ap, orV_ap, notE_ap, ifV_ap, chn_ap, noB_ap, intB_ap, sl3_ap, forS_ap, lcV_ap, yesT_ap, stD_val, stD_new0, stAll_nil, stAll_cons, stR_val, stR_new, argR_val, argR_new, argR_bor, argR_lend, addV_int, subV_int, negV_int, ltV_int, leV_int, gtV_int, geV_int, eqV_int, neV_int, eqV_str, neV_str, intV_int, absV_int, max2_int, min2_int, lenV_tup, lenV_lst, lenV_scr, lenV_lend, R.ok_bind, slotOf, List.map_cons, List.map_nil, List.length_cons, List.length_nil, List.cons_append, List.nil_append, List.append_nil, List.replicate, List.getElem?_cons_succ, List.getElem?_cons_zero, Res.items, List.set_cons_succ, List.set_cons_zero, Nat.reduceAdd, Nat.reduceSub, Res.pv, fdivV_pos (x := x) (y := (gfolds o rs : Int)) (by omega)]
  rw [seqS_next (f := frS 8 _) (ρ' := LE ns (.val (.lst (zn ss))) (.val (.int (Mz.pr ss : Int))) (.val (.lst (tps (allP ss)))) (.own 0 (zs nums)) (.val (.int (o : Int))) (.own 0 (rlst (rs.map (quo (gfolds o rs))))) (.val (gameV ss (rs.map (quo (gfolds o rs))) ((o / gfolds o rs : Nat) : Int))) (.val (.int (gfolds o rs : Int))) t9 t10 .unset .unset .unset .unset .unset .unset .unset .unset .unset) (by
      rw [frS_ap, frE_val (p := .int (gfolds o rs : Int)) (by rfl), frS_ap, frE_val (p := .lst (rlst rs)) (by rfl), setS_ap, hdivs]; rfl),
    seqS_next (f := frS 3 _) (ρ' := LE ns (.val (.lst (zn ss))) (.val (.int (Mz.pr ss : Int))) (.val (.lst (tps (allP ss)))) (.own 0 (zs nums)) (.val (.int (o : Int))) (.own 0 (rlst (rs.map (quo (gfolds o rs))))) (.val (gameV ss (rs.map (quo (gfolds o rs))) ((o / gfolds o rs : Nat) : Int))) (.val (.int (gfolds o rs : Int))) t9 t10 (.val (.lst (tps (allP ss)))) .unset .unset .unset .unset .unset .unset .unset .unset) (by
      rw [frS_ap, frE_val (p := .lst (tps (allP ss))) (by rfl)]; rfl)]
  by_cases hx : (Mz.pr ss : Int) > 12
  · -- twelve drawn plays
    have hidx : ∀ k : Nat, ∃ q : List Nat, k < 12 → Ok ss q ∧ (bin2 ixV (rd 3) (bin2 modV (callN intV (aCons (bin2 addV (bin2 mulV (bin2 ixV (rd 4) (bin2 addV (cst (.int 2)) (rd 19))) (cst (.int 3600))) (bin2 ixV (rd 4) (bin2 addV (cst (.int 3)) (rd 19)))) aNil)) (rd 2))) (LE ns (.val (.lst (zn ss))) (.val (.int (Mz.pr ss : Int))) (.val (.lst (tps (allP ss)))) (.own 0 (zs nums)) (.val (.int (o : Int))) (.own 0 (rlst (rs.map (quo (gfolds o rs))))) (.val (gameV ss (rs.map (quo (gfolds o rs))) ((o / gfolds o rs : Nat) : Int))) (.val (.int (gfolds o rs : Int))) t9 t10 (.val (.lst (tps (allP ss)))) .unset .unset .unset .unset .unset .unset .unset (.val (.int (k : Int)))) = .ok (.val (.tup (zn q))) := fun k => by
      by_cases hk : k < 12
      · obtain ⟨y2, m2⟩ := hnum (2 + k) (by omega)
        obtain ⟨y3, m3⟩ := hnum (3 + k) (by omega)
        have j2 : atI (zs nums) (2 + (k : Int)) = some (.int (y2 : Int)) := at_zs (i := 2 + k) m2
        have j3 : atI (zs nums) (3 + (k : Int)) = some (.int (y3 : Int)) := at_zs (i := 3 + k) m3
        have hm : (y2 * 3600 + y3) % Mz.pr ss < (allP ss).length := by rw [allP_length]; exact Nat.mod_lt _ hprp
        have hq : Int.fmod ((y2 : Int) * 3600 + (y3 : Int)) (Mz.pr ss : Int) = (((y2 * 3600 + y3) % Mz.pr ss : Nat) : Int) := fmod_nat (y2 * 3600 + y3) (Mz.pr ss)
        have hp : atI (tps (allP ss)) (((y2 * 3600 + y3) % Mz.pr ss : Nat) : Int) = some (.tup (zn (allP ss)[(y2 * 3600 + y3) % Mz.pr ss])) := by
          rw [Pv.atI_nat]; unfold tps; rw [List.getElem?_map, List.getElem?_eq_getElem hm]; rfl
        have hne : (Mz.pr ss : Int) ≠ 0 := by omega
        refine ⟨_, fun _ => ⟨allP_ok hS.pos _ (List.getElem_mem hm), ?_⟩⟩
        simp only [LE, seqS_ap, nilS_ap, brkS_ap, contS_ap, badS_ap, raiseS_ap, frS_ap, setS_ap, dropS_ap, retS_ap, ifS_ap, asg_val, asg_new, asg_bor, retR_val, retR_new, rd_ap, retOwn_ap, cst_ap, bin2_ap, un1_ap, callN_ap, callF_ap, fldE_ap, aNil_ap, aCons_ap, tupD_ap, lstD_ap, nilD_ap, walkOf_ap, walkR1_ap, walkR2_ap, walkZ_ap, walkE_ap, walkV_ap, tupRevV_ap, andT_ap, orT_ap, notT_ap, boolOf_ap, boolR_bl, andV_ap, orV_ap, notE_ap, ifV_ap, chn_ap, noB_ap, intB_ap, sl3_ap, forS_ap, lcV_ap, yesT_ap, stD_val, stD_new0, stAll_nil, stAll_cons, stR_val, stR_new, argR_val, argR_new, argR_bor, argR_lend, addV_int, subV_int, negV_int, ltV_int, leV_int, gtV_int, geV_int, eqV_int, neV_int, eqV_str, neV_str, intV_int, absV_int, max2_int, min2_int, lenV_tup, lenV_lst, lenV_scr, lenV_lend, R.ok_bind, slotOf, List.map_cons, List.map_nil, List.length_cons, List.length_nil, List.cons_append, List.nil_append, List.append_nil, List.replicate, List.getElem?_cons_succ, List.getElem?_cons_zero, Res.items, List.set_cons_succ, List.set_cons_zero, Nat.reduceAdd, Nat.reduceSub, Res.pv, ixV_lend0, j2, j3, mulV_big (x := (y2 : Int)) (y := 3600) (by omega), modV_int (x := (y2 : Int) * 3600 + (y3 : Int)) hne, hq, ixV_lst, hp]
      · exact ⟨[], fun h => absurd h hk⟩
    obtain ⟨qf, hqf⟩ := Classical.skolem.mp hidx
    have hasked : lcV 0 (walkR1 (cst (.int 12))) (asg 19) yesT (bin2 ixV (rd 3) (bin2 modV (callN intV (aCons (bin2 addV (bin2 mulV (bin2 ixV (rd 4) (bin2 addV (cst (.int 2)) (rd 19))) (cst (.int 3600))) (bin2 ixV (rd 4) (bin2 addV (cst (.int 3)) (rd 19)))) aNil)) (rd 2))) [19] (LE ns (.val (.lst (zn ss))) (.val (.int (Mz.pr ss : Int))) (.val (.lst (tps (allP ss)))) (.own 0 (zs nums)) (.val (.int (o : Int))) (.own 0 (rlst (rs.map (quo (gfolds o rs))))) (.val (gameV ss (rs.map (quo (gfolds o rs))) ((o / gfolds o rs : Nat) : Int))) (.val (.int (gfolds o rs : Int))) t9 t10 (.val (.lst (tps (allP ss)))) .unset .unset .unset .unset .unset .unset .unset .unset) = .ok (.new 0 (tps ((List.range' 0 12).map qf))) := by
      unfold tps
      rw [List.map_map]
      exact lc_rangeG (s := 12) (fun k => PV.tup (zn (qf k))) (by rfl) (by omega) fun k hk => ⟨_, (hqf k hk).2, rfl⟩
    rw [seqS_next (f := frS 2 _) (ρ' := LE ns (.val (.lst (zn ss))) (.val (.int (Mz.pr ss : Int))) (.val (.lst (tps (allP ss)))) (.own 0 (zs nums)) (.val (.int (o : Int))) (.own 0 (rlst (rs.map (quo (gfolds o rs))))) (.val (gameV ss (rs.map (quo (gfolds o rs))) ((o / gfolds o rs : Nat) : Int))) (.val (.int (gfolds o rs : Int))) t9 t10 (.own 0 (tps ((List.range' 0 12).map qf))) .unset .unset .unset .unset .unset .unset .unset .unset) (by
      rw [frS_ap, frE_val (p := .int (Mz.pr ss : Int)) (by rfl), ifS_ap, show boolOf (bin2 gtV (rd 2) (cst (.int 12))) (LE ns (.val (.lst (zn ss))) (.val (.int (Mz.pr ss : Int))) (.val (.lst (tps (allP ss)))) (.own 0 (zs nums)) (.val (.int (o : Int))) (.own 0 (rlst (rs.map (quo (gfolds o rs))))) (.val (gameV ss (rs.map (quo (gfolds o rs))) ((o / gfolds o rs : Nat) : Int))) (.val (.int (gfolds o rs : Int))) t9 t10 (.val (.lst (tps (allP ss)))) .unset .unset .unset .unset .unset .unset .unset .unset) = .ok true by simp only [LE, seqS_ap, nilS_ap, brkS_ap, contS_ap, badS_ap, raiseS_ap, frS_ap, setS_ap, dropS_ap, retS_ap, ifS_ap, asg_val, asg_new, asg_bor, retR_val, retR_new, rd_ap, retOwn_ap, cst_ap, bin2_ap, un1_ap, callN_ap, callF_ap, fldE_ap, aNil_ap, aCons_ap, tupD_ap, lstD_ap, nilD_ap, walkOf_ap, walkR1_ap, walkR2_ap, walkZ_ap, walkE_ap, walkV_ap, tupRevV_ap, andT_ap, orT_ap, notT_ap, boolOf_ap, boolR_bl, andV_ap, orV_ap, notE_ap, ifV_ap, chn_ap, noB_ap, intB_ap, sl3_ap, forS_ap, lcV_ap, yesT_ap, stD_val, stD_new0, stAll_nil, stAll_cons, stR_val, stR_new, argR_val, argR_new, argR_bor, argR_lend, addV_int, subV_int, negV_int, ltV_int, leV_int, gtV_int, geV_int, eqV_int, neV_int, eqV_str, neV_str, intV_int, absV_int, max2_int, min2_int, lenV_tup, lenV_lst, lenV_scr, lenV_lend, R.ok_bind, slotOf, List.map_cons, List.map_nil, List.length_cons, List.length_nil, List.cons_append, List.nil_append, List.append_nil, List.replicate, List.getElem?_cons_succ, List.getElem?_cons_zero, Res.items, List.set_cons_succ, List.set_cons_zero, Nat.reduceAdd, Nat.reduceSub, Res.pv, decide_eq_true hx]]
      simp only [if_true]
      rw [frS_ap, frE_val (p := .int (Mz.pr ss : Int)) (by rfl), setS_ap, hasked]; rfl)]
    exact v_tail G ho2 hn hr ((List.range' 0 12).map qf) (fun q hq => by
      obtain ⟨k, hk, e⟩ := List.mem_map.mp hq
      rw [← e]; exact (hqf k (by have := List.mem_range'_1.mp hk; omega)).1) (by intro e; have := congrArg List.length e; rw [List.length_map, List.length_range'] at this; simp at this) (by rw [List.length_map, List.length_range']; omega) _ _ _ _ _ _ _ _ (.inl rfl) (.inl rfl)
  · rw [seqS_next (f := frS 2 _) (ρ' := LE ns (.val (.lst (zn ss))) (.val (.int (Mz.pr ss : Int))) (.val (.lst (tps (allP ss)))) (.own 0 (zs nums)) (.val (.int (o : Int))) (.own 0 (rlst (rs.map (quo (gfolds o rs))))) (.val (gameV ss (rs.map (quo (gfolds o rs))) ((o / gfolds o rs : Nat) : Int))) (.val (.int (gfolds o rs : Int))) t9 t10 (.val (.lst (tps (allP ss)))) .unset .unset .unset .unset .unset .unset .unset .unset) (by
      rw [frS_ap, frE_val (p := .int (Mz.pr ss : Int)) (by rfl)]
      simp only [LE, seqS_ap, nilS_ap, brkS_ap, contS_ap, badS_ap, raiseS_ap, frS_ap, setS_ap, dropS_ap, retS_ap, ifS_ap, asg_val, asg_new, asg_bor, retR_val, retR_new, rd_ap, retOwn_ap, cst_ap, bin2_ap, un1_ap, callN_ap, callF_ap, fldE_ap, aNil_ap, aCons_ap, tupD_ap, lstD_ap, nilD_ap, walkOf_ap, walkR1_ap, walkR2_ap, walkZ_ap, walkE_ap, walkV_ap, tupRevV_ap, andT_ap, orT_ap, notT_ap, boolOf_ap, boolR_bl, andV_ap, orV_ap, notE_ap, ifV_ap, chn_ap, noB_ap, intB_ap, sl3_ap, forS_ap, lcV_ap, yesT_ap, stD_val, stD_new0, stAll_nil, stAll_cons, stR_val, stR_new, argR_val, argR_new, argR_bor, argR_lend, addV_int, subV_int, negV_int, ltV_int, leV_int, gtV_int, geV_int, eqV_int, neV_int, eqV_str, neV_str, intV_int, absV_int, max2_int, min2_int, lenV_tup, lenV_lst, lenV_scr, lenV_lend, R.ok_bind, slotOf, List.map_cons, List.map_nil, List.length_cons, List.length_nil, List.cons_append, List.nil_append, List.append_nil, List.replicate, List.getElem?_cons_succ, List.getElem?_cons_zero, Res.items, List.set_cons_succ, List.set_cons_zero, Nat.reduceAdd, Nat.reduceSub, Res.pv, decide_eq_false hx, Bool.false_eq_true, if_false])]
    exact v_tail G ho2 hn hr (allP ss) (allP_ok hS.pos) (by
      intro e
      have := congrArg List.length e
      rw [allP_length] at this
      simp at this; omega) (by rw [allP_length]; omega) _ _ _ _ _ _ _ _ (.inr rfl) (.inl rfl)
end
end K88
namespace Pv
open PySem PySem.Spec L2
noncomputable section
theorem walk_ofV {l : PySem.W.OpenLaw} {n k : Nat} {q : Program} {loose : List Str} {XP : (Str → Option Value) → Heap → Prop} {YP : World → Heap → Prop} {d : DefRec} {x : Str}
    (hn : l.most = some n) (hn2 : n ≤ sizeLine) (hdf : d.params.defaults = []) (hr : Room k callerA)
    (F : ∀ (w : World) (mg : MG) (fa : Addr) (h : Heap), YP w h → h.Ns mainGlobals mg → mg d.name = some (.ref fa) →
      ∃ (K : PySem.W.Frag) (fd : FuncData) (sp : Sp), K.In h ∧ (∀ (s : Shared) (u : Value), BindsTo s fd ⟨[u], []⟩ [(x, u)]) ∧
        (∀ (H : Hp) (a : Addr) (ns : List Int), ns.length ≤ n → (∀ z ∈ ns, Builtin.Int.intBits z ≤ 1048576) → SqL K H a (ns.map V.int) → sp [.ref a] H (fun v _ => v = .bl true) fun _ _ _ => False) ∧
        ∀ base : Heap, FnOk l.prog w K mg base (L2.CX l.prog w) k fa fd [x] sp) :
    PySem.W.WalkO q loose XP YP l.row.toRowW d [] (fun f vs => PySem.call f vs) := by
  refine Att.attach_callB hn hdf fun w s₀ s₁ mg mb fa o pm cd doc a vs ns G Y ho hd hcd hmg hobj hints hlen hbits hg => ?_
  obtain ⟨K, fd, sp, KX, hb, hsp, hF⟩ := F w mg fa _ Y G.T.g hmg
  refine law_call KX G.T.g G.T.b G.T.builtins G.T.nolimit hg hobj hints (Nat.le_trans hlen hn2) hr (fun base _ _ => hF base) hb (fun H hO hS => hsp H a ns hlen hbits hS) fun H e s' hc => ?_
  obtain ⟨_, _, _, _, _, _, _, _, _, _, _, _, hf⟩ := hc
  exact hf
theorem spV_law {K : PySem.W.Frag} {mg : MG} {fn : Fn} {ns : List Int} {H : Hp} {a : Addr} (e : fn [.val (.scr ns)] = .ok (.val (.bl true))) (hS : SqL K H a (ns.map V.int)) : spV K mg 1 fn [.ref a] H (fun v _ => v = .bl true) fun _ _ _ => False := by
  refine ⟨H, [.val (.scr ns)], rfl, .refl _, ⟨.ref a, [], rfl, ?_, rfl⟩, ?_⟩
  · simp only [RepArg, Rep]; exact ⟨a, rfl, hS⟩
  · rw [e]
    intro v F' H' _ r
    simp only [RepRet, Rep] at r
    exact r
end
end Pv
namespace K88
open PySem PySem.Spec L2 Pv
def dd_law_mix : He.DefD := ⟨("_law_mix", none), "_law_mix", "_law_mix", defArgs s_law_mix, defBody s_law_mix, defScope s_law_mix, [], []⟩
def dd_law_row : He.DefD := ⟨("_law_row", none), "_law_row", "_law_row", defArgs s_law_row, defBody s_law_row, defScope s_law_row, [], []⟩
def dd_law_sizes : He.DefD := ⟨("_law_sizes", none), "_law_sizes", "_law_sizes", defArgs s_law_sizes, defBody s_law_sizes, defScope s_law_sizes, [], []⟩
def dd_law_cell : He.DefD := ⟨("_law_cell", none), "_law_cell", "_law_cell", defArgs s_law_cell, defBody s_law_cell, defScope s_law_cell, [], []⟩
def dd_law_count : He.DefD := ⟨("_law_count", none), "_law_count", "_law_count", defArgs s_law_count, defBody s_law_count, defScope s_law_count, [], []⟩
def dd_law_plays : He.DefD := ⟨("_law_plays", none), "_law_plays", "_law_plays", defArgs s_law_plays, defBody s_law_plays, defScope s_law_plays, [], []⟩
def dd_law_pays : He.DefD := ⟨("_law_pays", none), "_law_pays", "_law_pays", defArgs s_law_pays, defBody s_law_pays, defScope s_law_pays, [], []⟩
def dd_count_plays : He.DefD := ⟨("count_plays", none), "count_plays", "count_plays", defArgs s_count_plays, defBody s_count_plays, defScope s_count_plays, [], []⟩
def dd_check_sizes : He.DefD := ⟨("check_sizes", none), "check_sizes", "check_sizes", defArgs s_check_sizes, defBody s_check_sizes, defScope s_check_sizes, [], []⟩
def dd_divisor : He.DefD := ⟨("divisor", none), "divisor", "divisor", defArgs s_divisor, defBody s_divisor, defScope s_divisor, [], []⟩
def dd_Game_init : He.DefD := ⟨("Game", some "__init__"), "__init__", "Game.__init__", defArgs s_Game_init, defBody s_Game_init, defScope s_Game_init, [.int 1], []⟩
def dd_law_gcd : He.DefD := ⟨("_law_gcd", none), "_law_gcd", "_law_gcd", defArgs s_law_gcd, defBody s_law_gcd, defScope s_law_gcd, [], []⟩
def dd_law_place : He.DefD := ⟨("_law_place", none), "_law_place", "_law_place", defArgs s_law_place, defBody s_law_place, defScope s_law_place, [], []⟩
def dd_law_gain : He.DefD := ⟨("_law_gain", none), "_law_gain", "_law_gain", defArgs s_law_gain, defBody s_law_gain, defScope s_law_gain, [], []⟩
def dd_is_play : He.DefD := ⟨("is_play", none), "is_play", "is_play", defArgs s_is_play, defBody s_is_play, defScope s_is_play, [], []⟩
def dd_place : He.DefD := ⟨("place", none), "place", "place", defArgs s_place, defBody s_place, defScope s_place, [], []⟩
def dd_is_change : He.DefD := ⟨("is_change", none), "is_change", "is_change", defArgs s_is_change, defBody s_is_change, defScope s_is_change, [], []⟩
def dd_strides : He.DefD := ⟨("strides", none), "strides", "strides", defArgs s_strides, defBody s_strides, defScope s_strides, [], []⟩
def dd_gain : He.DefD := ⟨("gain", none), "gain", "gain", defArgs s_gain, defBody s_gain, defScope s_gain, [], []⟩
def dd_law_is_whole : He.DefD := ⟨("_law_is_whole", none), "_law_is_whole", "_law_is_whole", defArgs s_law_is_whole, defBody s_law_is_whole, defScope s_law_is_whole, [], []⟩
def dd_arcs : He.DefD := ⟨("arcs", none), "arcs", "arcs", defArgs s_arcs, defBody s_arcs, defScope s_arcs, [], []⟩
def dd_moves : He.DefD := ⟨("moves", none), "moves", "moves", defArgs s_moves, defBody s_moves, defScope s_moves, [], []⟩
def dd_law_is_list : He.DefD := ⟨("_law_is_list", none), "_law_is_list", "_law_is_list", defArgs s_law_is_list, defBody s_law_is_list, defScope s_law_is_list, [], []⟩
def dd_law_moves : He.DefD := ⟨("_law_moves", none), "_law_moves", "_law_moves", defArgs s_law_moves, defBody s_law_moves, defScope s_law_moves, [], []⟩
def dd_slack : He.DefD := ⟨("slack", none), "slack", "slack", defArgs s_slack, defBody s_slack, defScope s_slack, [], []⟩
def dd_law_at_play : He.DefD := ⟨("_law_at_play", none), "_law_at_play", "_law_at_play", defArgs s_law_at_play, defBody s_law_at_play, defScope s_law_at_play, [], []⟩
def dd_play_at : He.DefD := ⟨("play_at", none), "play_at", "play_at", defArgs s_play_at, defBody s_play_at, defScope s_play_at, [], []⟩
def dd_rests : He.DefD := ⟨("rests", none), "rests", "rests", defArgs s_rests, defBody s_rests, defScope s_rests, [], []⟩
def dd_law_bad_play : He.DefD := ⟨("_law_bad_play", none), "_law_bad_play", "_law_bad_play", defArgs s_law_bad_play, defBody s_law_bad_play, defScope s_law_bad_play, [], []⟩
def dd_Game_pay : He.DefD := ⟨("Game", some "pay"), "pay", "Game.pay", defArgs s_Game_pay, defBody s_Game_pay, defScope s_Game_pay, [], []⟩
def dd_Table_init : He.DefD := ⟨("Table", some "__init__"), "__init__", "Table.__init__", defArgs s_Table_init, defBody s_Table_init, defScope s_Table_init, [.int 1], []⟩
def dd_Game_row : He.DefD := ⟨("Game", some "row"), "row", "Game.row", defArgs s_Game_row, defBody s_Game_row, defScope s_Game_row, [], []⟩
def dd_Table_at : He.DefD := ⟨("Table", some "at"), "at", "Table.at", defArgs s_Table_at, defBody s_Table_at, defScope s_Table_at, [], []⟩
def dd_Game_with_pay : He.DefD := ⟨("Game", some "with_pay"), "with_pay", "Game.with_pay", defArgs s_Game_with_pay, defBody s_Game_with_pay, defScope s_Game_with_pay, [.int 1], []⟩
def dd_law_refuses : He.DefD := ⟨("_law_refuses", none), "_law_refuses", "_law_refuses", defArgs s_law_refuses, defBody s_law_refuses, defScope s_law_refuses, [], []⟩
def dd_law : He.DefD := ⟨("law", none), "law", "law", defArgs s_law, defBody s_law, defScope s_law, [], []⟩
def fn0 : List He.DefD := [dd_law_mix, dd_law_row, dd_law_sizes, dd_law_cell, dd_law_count, dd_law_plays, dd_law_pays, dd_count_plays, dd_check_sizes, dd_divisor, dd_Game_init, dd_law_gcd, dd_law_place, dd_law_gain, dd_is_play, dd_place, dd_is_change, dd_strides, dd_gain, dd_law_is_whole, dd_arcs, dd_moves, dd_law_is_list, dd_law_moves, dd_slack, dd_law_at_play, dd_play_at, dd_rests, dd_law_bad_play, dd_Game_pay]
def fn1 : List He.DefD := [dd_Table_init, dd_Game_row, dd_Table_at, dd_Game_with_pay, dd_law_refuses, dd_law]
def fn : List He.DefD := fn0 ++ fn1
def fa0 : List He.Fa := [.free "abs", .free "range", .free "int", .glo "_law_mix", .glo "_law_row", .free "max", .glo "_law_sizes", .free "len", .glo "_law_cell", .glo "_law_count", .free "list", .glo "_law_plays", .glo "_law_pays", .glo "Game", .cls "Game", .noat "Game" "sizes", .noat "Game" "pays", .noat "Game" "over", .free "min", .int "MOST_PEOPLE" 4, .int "MOST_CHOICES" 5, .glo "count_plays", .int "MOST_PLAYS" 120, .free "tuple", .glo "check_sizes", .glo "divisor", .mkr "Game", .glo "_law_gcd", .glo "_law_place", .glo "_law_gain"]
def fa1 : List He.Fa := [.free "zip", .glo "is_play", .glo "BadPlay", .exc "BadPlay", .glo "place", .glo "is_change", .free "reversed", .glo "strides", .glo "gain", .free "isinstance", .free "bool", .glo "_law_is_whole", .free "enumerate", .glo "arcs", .glo "moves", .glo "_law_is_list", .glo "_law_moves", .glo "slack", .glo "_law_at_play", .glo "play_at", .glo "rests", .glo "_law_bad_play", .meth "Game" "pay", .glo "Table", .cls "Table", .noat "Table" "sizes", .noat "Table" "numbers", .noat "Table" "over", .mkr "Table", .meth "Game" "row"]
def fa2 : List He.Fa := [.meth "Table" "at", .meth "Game" "with_pay", .glo "BadGame", .glo "TooMany", .glo "Fault", .exm "BadPlay" "Fault" true, .glo "_law_refuses", .glo "law"]
def fa : List He.Fa := fa0 ++ fa1 ++ fa2
def exL (K : PySem.W.Frag) : List Bool := [He.eqO (PySem.W.nsIn K mainGlobals "gcd") (some (some (.builtin "math.gcd"))), He.eqO (PySem.W.findIn K (.ref (He.ga K "BadPlay")) "__getattribute__") (some (some (.builtin "BaseException.__getattribute__"))), He.eqO (PySem.W.findIn K (.ref (He.ga K "BadPlay")) "__getattr__") (some none), decide (PySem.W.subIn K (.ref (He.ga K "BadPlay")) (.type "BaseException") = some true), PySem.W.hasDictIn K (He.ga K "BadPlay"), He.eqO (PySem.W.findIn K (.ref (He.ga K "BadPlay")) "__class__") (some (some (.builtin "object.__class__"))), He.eqO (PySem.W.specialIn K (.builtin "object.__class__") "__get__") (some (some (.builtin "getset_descriptor.__get__"))), decide (PySem.W.takesIn K (.builtin "object.__class__") = some true), decide (PySem.W.mroIn K (He.ga K "BadPlay") (.type "object") = some true), decide (PySem.W.kitOne K (.ref (He.ga K "BadPlay")) (.ref (He.ga K "BadGame")) = some false), decide (PySem.W.kitOne K (.ref (He.ga K "BadPlay")) (.ref (He.ga K "BadPlay")) = some true), decide (PySem.W.kitOne K (.ref (He.ga K "BadPlay")) (.ref (He.ga K "TooMany")) = some false)]
def exB (K : PySem.W.Frag) : Bool := (exL K).all id
theorem all_get {l : List Bool} (h : l.all id = true) (i : Nat) {b : Bool} (e : l[i]? = some b) : b = true := List.all_eq_true.mp h b (List.mem_of_getElem? e)
theorem fx_of {P : Program} {w : World} {K : PySem.W.Frag} {h : Heap} {mg : MG} (X : K.In h) (G : h.Ns mainGlobals mg) (c : He.SaysD fa fn K) (hx : exB K = true) (base : Heap) : Fx P w K mg base where
  f_abs := He.free_ok X G (He.SaysD.fact c 0 (f := .free "abs") rfl)
  f_range := He.free_ok X G (He.SaysD.fact c 1 (f := .free "range") rfl)
  f_int := He.free_ok X G (He.SaysD.fact c 2 (f := .free "int") rfl)
  d_law_mix := He.SaysD.def_ c 0 (d := dd_law_mix) rfl
  g__law_mix := He.glo_ok X G (He.SaysD.fact c 3 (f := .glo "_law_mix") rfl)
  d_law_row := He.SaysD.def_ c 1 (d := dd_law_row) rfl
  g__law_row := He.glo_ok X G (He.SaysD.fact c 4 (f := .glo "_law_row") rfl)
  f_max := He.free_ok X G (He.SaysD.fact c 5 (f := .free "max") rfl)
  d_law_sizes := He.SaysD.def_ c 2 (d := dd_law_sizes) rfl
  g__law_sizes := He.glo_ok X G (He.SaysD.fact c 6 (f := .glo "_law_sizes") rfl)
  f_len := He.free_ok X G (He.SaysD.fact c 7 (f := .free "len") rfl)
  d_law_cell := He.SaysD.def_ c 3 (d := dd_law_cell) rfl
  g__law_cell := He.glo_ok X G (He.SaysD.fact c 8 (f := .glo "_law_cell") rfl)
  d_law_count := He.SaysD.def_ c 4 (d := dd_law_count) rfl
  g__law_count := He.glo_ok X G (He.SaysD.fact c 9 (f := .glo "_law_count") rfl)
  f_list := He.free_ok X G (He.SaysD.fact c 10 (f := .free "list") rfl)
  d_law_plays := He.SaysD.def_ c 5 (d := dd_law_plays) rfl
  g__law_plays := He.glo_ok X G (He.SaysD.fact c 11 (f := .glo "_law_plays") rfl)
  d_law_pays := He.SaysD.def_ c 6 (d := dd_law_pays) rfl
  g__law_pays := He.glo_ok X G (He.SaysD.fact c 12 (f := .glo "_law_pays") rfl)
  g_Game := He.glo_ok X G (He.SaysD.fact c 13 (f := .glo "Game") rfl)
  c_Game := He.cls_ok (He.SaysD.fact c 14 (f := .cls "Game") rfl)
  n_Game_sizes := He.noat_ok (He.SaysD.fact c 15 (f := .noat "Game" "sizes") rfl)
  n_Game_pays := He.noat_ok (He.SaysD.fact c 16 (f := .noat "Game" "pays") rfl)
  n_Game_over := He.noat_ok (He.SaysD.fact c 17 (f := .noat "Game" "over") rfl)
  f_min := He.free_ok X G (He.SaysD.fact c 18 (f := .free "min") rfl)
  i_MOST_PEOPLE := He.int_ok X G (He.SaysD.fact c 19 (f := .int "MOST_PEOPLE" 4) rfl)
  i_MOST_CHOICES := He.int_ok X G (He.SaysD.fact c 20 (f := .int "MOST_CHOICES" 5) rfl)
  d_count_plays := He.SaysD.def_ c 7 (d := dd_count_plays) rfl
  g_count_plays := He.glo_ok X G (He.SaysD.fact c 21 (f := .glo "count_plays") rfl)
  i_MOST_PLAYS := He.int_ok X G (He.SaysD.fact c 22 (f := .int "MOST_PLAYS" 120) rfl)
  f_tuple := He.free_ok X G (He.SaysD.fact c 23 (f := .free "tuple") rfl)
  d_check_sizes := He.SaysD.def_ c 8 (d := dd_check_sizes) rfl
  g_check_sizes := He.glo_ok X G (He.SaysD.fact c 24 (f := .glo "check_sizes") rfl)
  gcd := PySem.W.mg_of X G (He.eqO_ok (all_get hx 0 rfl))
  d_divisor := He.SaysD.def_ c 9 (d := dd_divisor) rfl
  g_divisor := He.glo_ok X G (He.SaysD.fact c 25 (f := .glo "divisor") rfl)
  d_Game_init := He.SaysD.def_ c 10 (d := dd_Game_init) rfl
  mk_Game := He.mkr_ok (He.SaysD.fact c 26 (f := .mkr "Game") rfl)
  d_law_gcd := He.SaysD.def_ c 11 (d := dd_law_gcd) rfl
  g__law_gcd := He.glo_ok X G (He.SaysD.fact c 27 (f := .glo "_law_gcd") rfl)
  d_law_place := He.SaysD.def_ c 12 (d := dd_law_place) rfl
  g__law_place := He.glo_ok X G (He.SaysD.fact c 28 (f := .glo "_law_place") rfl)
  d_law_gain := He.SaysD.def_ c 13 (d := dd_law_gain) rfl
  g__law_gain := He.glo_ok X G (He.SaysD.fact c 29 (f := .glo "_law_gain") rfl)
  f_zip := He.free_ok X G (He.SaysD.fact c 30 (f := .free "zip") rfl)
  d_is_play := He.SaysD.def_ c 14 (d := dd_is_play) rfl
  g_is_play := He.glo_ok X G (He.SaysD.fact c 31 (f := .glo "is_play") rfl)
  g_BadPlay := He.glo_ok X G (He.SaysD.fact c 32 (f := .glo "BadPlay") rfl)
  x_BadPlay := He.exc_ok (He.SaysD.fact c 33 (f := .exc "BadPlay") rfl)
  d_place := He.SaysD.def_ c 15 (d := dd_place) rfl
  g_place := He.glo_ok X G (He.SaysD.fact c 34 (f := .glo "place") rfl)
  d_is_change := He.SaysD.def_ c 16 (d := dd_is_change) rfl
  g_is_change := He.glo_ok X G (He.SaysD.fact c 35 (f := .glo "is_change") rfl)
  f_reversed := He.free_ok X G (He.SaysD.fact c 36 (f := .free "reversed") rfl)
  d_strides := He.SaysD.def_ c 17 (d := dd_strides) rfl
  g_strides := He.glo_ok X G (He.SaysD.fact c 37 (f := .glo "strides") rfl)
  d_gain := He.SaysD.def_ c 18 (d := dd_gain) rfl
  g_gain := He.glo_ok X G (He.SaysD.fact c 38 (f := .glo "gain") rfl)
  f_isinstance := He.free_ok X G (He.SaysD.fact c 39 (f := .free "isinstance") rfl)
  f_bool := He.free_ok X G (He.SaysD.fact c 40 (f := .free "bool") rfl)
  d_law_is_whole := He.SaysD.def_ c 19 (d := dd_law_is_whole) rfl
  g__law_is_whole := He.glo_ok X G (He.SaysD.fact c 41 (f := .glo "_law_is_whole") rfl)
  f_enumerate := He.free_ok X G (He.SaysD.fact c 42 (f := .free "enumerate") rfl)
  d_arcs := He.SaysD.def_ c 20 (d := dd_arcs) rfl
  g_arcs := He.glo_ok X G (He.SaysD.fact c 43 (f := .glo "arcs") rfl)
  d_moves := He.SaysD.def_ c 21 (d := dd_moves) rfl
  g_moves := He.glo_ok X G (He.SaysD.fact c 44 (f := .glo "moves") rfl)
  d_law_is_list := He.SaysD.def_ c 22 (d := dd_law_is_list) rfl
  g__law_is_list := He.glo_ok X G (He.SaysD.fact c 45 (f := .glo "_law_is_list") rfl)
  d_law_moves := He.SaysD.def_ c 23 (d := dd_law_moves) rfl
  g__law_moves := He.glo_ok X G (He.SaysD.fact c 46 (f := .glo "_law_moves") rfl)
  d_slack := He.SaysD.def_ c 24 (d := dd_slack) rfl
  g_slack := He.glo_ok X G (He.SaysD.fact c 47 (f := .glo "slack") rfl)
  d_law_at_play := He.SaysD.def_ c 25 (d := dd_law_at_play) rfl
  g__law_at_play := He.glo_ok X G (He.SaysD.fact c 48 (f := .glo "_law_at_play") rfl)
  d_play_at := He.SaysD.def_ c 26 (d := dd_play_at) rfl
  g_play_at := He.glo_ok X G (He.SaysD.fact c 49 (f := .glo "play_at") rfl)
  d_rests := He.SaysD.def_ c 27 (d := dd_rests) rfl
  g_rests := He.glo_ok X G (He.SaysD.fact c 50 (f := .glo "rests") rfl)
  d_law_bad_play := He.SaysD.def_ c 28 (d := dd_law_bad_play) rfl
  g__law_bad_play := He.glo_ok X G (He.SaysD.fact c 51 (f := .glo "_law_bad_play") rfl)
  d_Game_pay := He.SaysD.def_ c 29 (d := dd_Game_pay) rfl
  m_Game_pay := He.meth_ok (He.SaysD.fact c 52 (f := .meth "Game" "pay") rfl)
  g_Table := He.glo_ok X G (He.SaysD.fact c 53 (f := .glo "Table") rfl)
  c_Table := He.cls_ok (He.SaysD.fact c 54 (f := .cls "Table") rfl)
  n_Table_sizes := He.noat_ok (He.SaysD.fact c 55 (f := .noat "Table" "sizes") rfl)
  n_Table_numbers := He.noat_ok (He.SaysD.fact c 56 (f := .noat "Table" "numbers") rfl)
  n_Table_over := He.noat_ok (He.SaysD.fact c 57 (f := .noat "Table" "over") rfl)
  d_Table_init := He.SaysD.def_ c 30 (d := dd_Table_init) rfl
  mk_Table := He.mkr_ok (He.SaysD.fact c 58 (f := .mkr "Table") rfl)
  d_Game_row := He.SaysD.def_ c 31 (d := dd_Game_row) rfl
  m_Game_row := He.meth_ok (He.SaysD.fact c 59 (f := .meth "Game" "row") rfl)
  d_Table_at := He.SaysD.def_ c 32 (d := dd_Table_at) rfl
  m_Table_at := He.meth_ok (He.SaysD.fact c 60 (f := .meth "Table" "at") rfl)
  d_Game_with_pay := He.SaysD.def_ c 33 (d := dd_Game_with_pay) rfl
  m_Game_with_pay := He.meth_ok (He.SaysD.fact c 61 (f := .meth "Game" "with_pay") rfl)
  g_BadGame := He.glo_ok X G (He.SaysD.fact c 62 (f := .glo "BadGame") rfl)
  g_TooMany := He.glo_ok X G (He.SaysD.fact c 63 (f := .glo "TooMany") rfl)
  g_Fault := He.glo_ok X G (He.SaysD.fact c 64 (f := .glo "Fault") rfl)
  e_BadPlay_Fault := He.exm_ok (He.SaysD.fact c 65 (f := .exm "BadPlay" "Fault" true) rfl)
  d_law_refuses := He.SaysD.def_ c 34 (d := dd_law_refuses) rfl
  g__law_refuses := He.glo_ok X G (He.SaysD.fact c 66 (f := .glo "_law_refuses") rfl)
  d_law := He.SaysD.def_ c 35 (d := dd_law) rfl
  g_law := He.glo_ok X G (He.SaysD.fact c 67 (f := .glo "law") rfl)
  ec_BadPlay := ⟨He.eqO_ok (all_get hx 1 rfl), He.eqO_ok (all_get hx 2 rfl), of_decide_eq_true (all_get hx 3 rfl), (all_get hx 4 rfl), He.eqO_ok (all_get hx 5 rfl), He.eqO_ok (all_get hx 6 rfl), of_decide_eq_true (all_get hx 7 rfl), of_decide_eq_true (all_get hx 8 rfl)⟩
  ki_BadPlay_BadGame := of_decide_eq_true (all_get hx 9 rfl)
  ki_BadPlay_BadPlay := of_decide_eq_true (all_get hx 10 rfl)
  ki_BadPlay_TooMany := of_decide_eq_true (all_get hx 11 rfl)
abbrev R : PySem.W.OpenRow := PySem.W.OpenLaw.row PySem.Challenge.rw_downhillgames_k88_rules_gains_and_rests
def dep : Nat := 5
abbrev hk : PySem.W.Hook := He.hookX dep fa fn [] [] exB
def ob (s : PySem.W.SharedT) : He.AlX := He.obsX dep fa fn [] [] exB (HandSHeadRun.getT s)
theorem ob_eq (s : PySem.W.SharedT) : ob s = hk.obs s.abs := He.obsX_eq (HandSHeadRun.getT_eq s)
def loose0 : List PySem.Str := ["_wall", "__name__", "Fault", "BadGame", "BadPlay", "TooMany", "MOST_PEOPLE", "MOST_CHOICES", "MOST_PLAYS", "count_plays", "check_sizes", "strides", "is_play", "is_change", "place", "play_at", "gain", "arcs", "moves", "slack", "rests", "divisor", "Table", "Game", "_law_is_whole", "_law_cell", "_law_mix", "_law_row", "_law_sizes", "_law_count"]
def loose1 : List PySem.Str := ["_law_plays", "_law_pays", "_law_gcd", "_law_place", "_law_gain", "_law_moves", "_law_is_list", "_law_at_play", "_law_refuses", "_law_bad_play"]
def loose : List PySem.Str := loose0 ++ loose1
abbrev lawAt : Nat := 47
theorem run (w : World) : HandSHeadRun.RunEqI R (PySem.W.view R.prog [0, 47]) hk ob 20000 loose w := by
  delta HandSHeadRun.RunEqI
  kernel_rfl
end K88
open PySem PySem.W PySem.Calls PyProof.Rows
theorem K88.holds_of (main : ∀ ns : List Int, ns.length ≤ 63 → (∀ z ∈ ns, Builtin.Int.intBits z ≤ 1048576) → K88.f_law [.val (.scr ns)] = .ok (.val (.bl true))) : PySem.Challenge.rw_downhillgames_k88_rules_gains_and_rests.Holds := by
  w_on; o_law
  refine HandSHeadRun.head_imp (r := OpenLaw.row PySem.Challenge.rw_downhillgames_k88_rules_gains_and_rests) (q := view (OpenLaw.row PySem.Challenge.rw_downhillgames_k88_rules_gains_and_rests).prog [0, 47]) (H := K88.hk) (ob := K88.ob) (M := 20000) (loose := K88.loose) (d := HandSHeadRun.topDef (OpenLaw.row PySem.Challenge.rw_downhillgames_k88_rules_gains_and_rests).prog 47) (kwd := []) K88.ob_eq
    K88.run (by kernel_rfl) (by kernel_rfl) (by kernel_rfl) (by rfl) (by first | assumption | decide +kernel) (by decide +kernel) ⟨rfl, rfl, rfl, rfl, rfl, by decide +kernel⟩ ?hw ?hc
  case hw => w_witness2
  case hc =>
    refine Pv.walk_ofV (l := PySem.Challenge.rw_downhillgames_k88_rules_gains_and_rests) (n := 63) (k := 7) (x := "script") rfl (by decide) (by kernel_rfl) ⟨rfl, by decide, by decide⟩ ?F
    intro w mg fa h Y G hmg0
    obtain ⟨K, KX, c⟩ := Y
    have hmg : mg ("law" : PySem.Str) = some (.ref fa) := by
      have e : (HandSHeadRun.topDef (OpenLaw.row PySem.Challenge.rw_downhillgames_k88_rules_gains_and_rests).prog 47).name = ("law" : PySem.Str) := by kernel_rfl
      rw [← e]
      exact hmg0
    have cD : He.SaysD K88.fa K88.fn K := congrArg Prod.fst c.t
    have fx := K88.fx_of (P := (PySem.Challenge.rw_downhillgames_k88_rules_gains_and_rests).prog) (w := w) KX G cD c.more
    obtain ⟨fd, F⟩ := (fx h).d_law
    have e := hmg.symm.trans ((fx h).g_law)
    cases e
    have b := L2.FunD.bindsA (ps := ["script"]) F fun _ _ _ _ _ _ us hl => match us, hl with | [_], _ => rfl
    exact ⟨K, fd, _, KX, fun s v => b s [v] rfl, fun H a ns hl hb hS => Pv.spV_law (main ns hl hb) hS, fun base => K88.ok_law (fx base) F⟩
theorem PySem.Challenge.cw_downhillgames_k88_rules_gains_and_rests_holds : PySem.Challenge.rw_downhillgames_k88_rules_gains_and_rests.Holds :=
  K88.holds_of fun ns _ _ => K88.v_law ns
