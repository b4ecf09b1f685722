import PyProof.Rows.All
import Wide.All
import OpenK.AllK
import Wide.FinOn
import HandS.ForMost
import HandS.ForExc
import HandS.DeepEq
import HandS.Deep
import HandS.IsInst
import HandS.Conv
import HandS.ExcOwn
import HandS.TryOnly
import HandS.Defaults
import HandS.Words
import HandS.WordsExc
import HandS.Wide
import HandS.WordsDict
import HandS.SetFor
import HandS.HeadHook2
import HandS.Head0
import HandS.Head1
import HandS.Head2
import HandS.HeadEnd
import HandS.HeadHook1
import PySem.Challenge.RW_ownroom_k07_nothing_to_recover
set_option Elab.async false
set_option linter.all false
set_option maxRecDepth 100000
set_option maxHeartbeats 1000000
namespace S
open PySem PySem.Spec PyProof.Rows L2

/-! ### owned parts of the abstract heap -/
abbrev FP := Addr → Prop
def fixed : HO → Bool
  | .tup _ => true
  | .frz _ _ => true
  | .own _ => true
  | _ => false
structure HP where
  on : FP → Hp → Prop
  keep : ∀ {F : FP} {H H' : Hp}, on F H → (∀ a o, (F a ∨ fixed o = true) → H a = some o → H' a = some o) → on F H'
def Own (F : FP) (H : Hp) : Prop := ∀ a, F a → ∃ o, H a = some o ∧ fixed o = false
def sep : List HP → FP → Hp → Prop
  | [], _, _ => True
  | P :: L, F, H => ∃ F1 F2 : FP, (∀ a, F1 a → F a) ∧ (∀ a, F2 a → F a) ∧ (∀ a, F1 a → F2 a → False) ∧ P.on F1 H ∧ sep L F2 H
theorem sep.sub : ∀ {L : List HP} {F F' : FP} {H : Hp}, sep L F H → (∀ a, F a → F' a) → sep L F' H
  | [], _, _, _, _, _ => trivial
  | _ :: _, _, _, _, ⟨F1, F2, h1, h2, h3, h4, h5⟩, k => ⟨F1, F2, fun a q => k a (h1 a q), fun a q => k a (h2 a q), h3, h4, h5⟩
theorem sep.keep : ∀ {L : List HP} {F : FP} {H H' : Hp}, sep L F H → (∀ a o, (F a ∨ fixed o = true) → H a = some o → H' a = some o) → sep L F H'
  | [], _, _, _, _, _ => trivial
  | P :: _, _, _, _, ⟨F1, F2, h1, h2, h3, h4, h5⟩, k =>
    ⟨F1, F2, h1, h2, h3, P.keep h4 fun a o q => k a o (q.imp (h1 a) id), h5.keep fun a o q => k a o (q.imp (h2 a) id)⟩
theorem sep.split : ∀ {L M : List HP} {F : FP} {H : Hp}, sep (L ++ M) F H → ∃ F1 F2 : FP, (∀ a, F1 a → F a) ∧ (∀ a, F2 a → F a) ∧ (∀ a, F1 a → F2 a → False) ∧ sep L F1 H ∧ sep M F2 H
  | [], _, F, _, h => ⟨fun _ => False, F, fun _ q => q.elim, fun _ q => q, fun _ q _ => q, trivial, h⟩
  | P :: L, M, F, H, ⟨F1, F2, h1, h2, h3, h4, h5⟩ => by
    obtain ⟨G1, G2, g1, g2, g3, g4, g5⟩ := sep.split (L := L) (M := M) h5
    exact ⟨fun a => F1 a ∨ G1 a, G2, fun a q => q.elim (h1 a) fun q => h2 a (g1 a q), fun a q => h2 a (g2 a q), fun a q r => q.elim (fun q => h3 a q (g2 a r)) fun q => g3 a q r,
      ⟨F1, G1, fun _ => .inl, fun _ => .inr, fun a q r => h3 a q (g1 a r), h4, g4⟩, g5⟩
theorem sep.join : ∀ {L M : List HP} {F1 F2 : FP} {H : Hp}, (∀ a, F1 a → F2 a → False) → sep L F1 H → sep M F2 H → sep (L ++ M) (fun a => F1 a ∨ F2 a) H
  | [], _, _, _, _, _, _, h => h.sub fun _ => .inr
  | P :: L, M, F1, F2, H, d, ⟨G1, G2, h1, h2, h3, h4, h5⟩, k =>
    ⟨G1, fun a => G2 a ∨ F2 a, fun a q => .inl (h1 a q), fun a q => q.imp (h2 a) id, fun a q r => r.elim (h3 a q) fun r => d a (h1 a q) r, h4, sep.join (fun a q r => d a (h2 a q) r) h5 k⟩

/-- P is one of L; L1 the others -/
inductive Sel : HP → List HP → List HP → Prop where
  | here {P : HP} {L : List HP} : Sel P (P :: L) L
  | there {P R : HP} {L L1 : List HP} : Sel P L L1 → Sel P (R :: L) (R :: L1)
/-- Pre are some of L, L1 the others -/
inductive Arr : List HP → List HP → List HP → Prop where
  | nil {L : List HP} : Arr [] L L
  | cons {P : HP} {Pre L L1 L2 : List HP} : Sel P L L1 → Arr Pre L1 L2 → Arr (P :: Pre) L L2
theorem Sel.sep {P : HP} {L L1 : List HP} (s : Sel P L L1) : ∀ {F : FP} {H : Hp}, sep L F H → sep (P :: L1) F H := by
  induction s with
  | here => exact fun h => h
  | there s ih =>
    intro F H h
    obtain ⟨F1, F2, h1, h2, h3, h4, h5⟩ := h
    obtain ⟨G1, G2, g1, g2, g3, g4, g5⟩ := ih h5
    exact ⟨G1, fun a => F1 a ∨ G2 a, fun a q => h2 a (g1 a q), fun a q => q.elim (h1 a) fun q => h2 a (g2 a q), fun a q r => r.elim (fun r => h3 a r (g1 a q)) (g3 a q), g4,
      F1, G2, fun _ => .inl, fun _ => .inr, fun a q r => h3 a q (g2 a r), h4, g5⟩
theorem Arr.sep {Pre L L1 : List HP} (s : Arr Pre L L1) : ∀ {F : FP} {H : Hp}, sep L F H → sep (Pre ++ L1) F H := by
  induction s with
  | nil => exact fun h => h
  | cons s _ ih =>
    intro F H h
    obtain ⟨F1, F2, h1, h2, h3, h4, h5⟩ := s.sep h
    exact ⟨F1, F2, h1, h2, h3, h4, ih h5⟩

/-- from the entry (F0 owned of H0) on: L is owned of H, what was not owned is as it was -/
structure At (F0 : FP) (H0 : Hp) (L : List HP) (H : Hp) : Prop where
  ex : ∃ F : FP, sep L F H ∧ Own F H ∧ (∀ a o, H0 a = some o → ¬ F0 a → H a = some o) ∧ (∀ a, F a → F0 a ∨ H0 a = none)

def pt (a : Addr) (o : HO) : HP := ⟨fun F H => F a ∧ H a = some o, fun h k => ⟨h.1, k _ _ (.inl h.1) h.2⟩⟩
/-- a fixed object: a tuple, the script -/
def fx (a : Addr) (o : HO) : HP := ⟨fun _ H => H a = some o ∧ fixed o = true, fun h k => ⟨k _ _ (.inr h.2) h.1, h.2⟩⟩
abbrev tp (a : Addr) (xs : List V) : HP := fx a (.tup xs)
def HP.exi {α : Type} (P : α → HP) : HP := ⟨fun F H => ∃ x, (P x).on F H, fun ⟨x, h⟩ k => ⟨x, (P x).keep h k⟩⟩
def HP.pur (p : Prop) (P : HP) : HP := ⟨fun F H => p ∧ P.on F H, fun ⟨x, h⟩ k => ⟨x, P.keep h k⟩⟩
def HP.all (L : List HP) : HP := ⟨fun F H => sep L F H, fun h k => h.keep k⟩

section
variable {F0 : FP} {H0 H : Hp} {L L1 M : List HP} {a p : Addr} {o o' : HO} {xs : List V}
theorem At.start {F : FP} (h : sep L F H) (w : Own F H) : At F H L H := ⟨F, h, w, fun _ _ e _ => e, fun _ => .inl⟩
theorem At.arr (h : At F0 H0 L H) (s : Arr M L L1) : At F0 H0 (M ++ L1) H := by
  obtain ⟨F, h1, h2, h3, h4⟩ := h.ex
  exact ⟨F, s.sep h1, h2, h3, h4⟩
theorem At.sel {P : HP} (h : At F0 H0 L H) (s : Sel P L L1) : At F0 H0 (P :: L1) H := by
  obtain ⟨F, h1, h2, h3, h4⟩ := h.ex
  exact ⟨F, s.sep h1, h2, h3, h4⟩
theorem At.drop {P : HP} (h : At F0 H0 (P :: L) H) : At F0 H0 L H := by
  obtain ⟨F, ⟨F1, F2, a1, a2, a3, a4, a5⟩, h2, h3, h4⟩ := h.ex
  exact ⟨F, a5.sub a2, h2, h3, h4⟩
theorem At.nil (h : At F0 H0 L H) : At F0 H0 [] H := by
  obtain ⟨F, h1, h2, h3, h4⟩ := h.ex
  exact ⟨F, trivial, h2, h3, h4⟩
theorem At.exE {α : Type} {P : α → HP} (h : At F0 H0 (HP.exi P :: L) H) : ∃ x, At F0 H0 (P x :: L) H := by
  obtain ⟨F, ⟨F1, F2, a1, a2, a3, ⟨x, a4⟩, a5⟩, h2, h3, h4⟩ := h.ex
  exact ⟨x, F, ⟨F1, F2, a1, a2, a3, a4, a5⟩, h2, h3, h4⟩
theorem At.exI {α : Type} {P : α → HP} (x : α) (h : At F0 H0 (P x :: L) H) : At F0 H0 (HP.exi P :: L) H := by
  obtain ⟨F, ⟨F1, F2, a1, a2, a3, a4, a5⟩, h2, h3, h4⟩ := h.ex
  exact ⟨F, ⟨F1, F2, a1, a2, a3, ⟨x, a4⟩, a5⟩, h2, h3, h4⟩
theorem At.purE {q : Prop} {P : HP} (h : At F0 H0 (HP.pur q P :: L) H) : q ∧ At F0 H0 (P :: L) H := by
  obtain ⟨F, ⟨F1, F2, a1, a2, a3, ⟨x, a4⟩, a5⟩, h2, h3, h4⟩ := h.ex
  exact ⟨x, F, ⟨F1, F2, a1, a2, a3, a4, a5⟩, h2, h3, h4⟩
theorem At.purI {q : Prop} {P : HP} (x : q) (h : At F0 H0 (P :: L) H) : At F0 H0 (HP.pur q P :: L) H := by
  obtain ⟨F, ⟨F1, F2, a1, a2, a3, a4, a5⟩, h2, h3, h4⟩ := h.ex
  exact ⟨F, ⟨F1, F2, a1, a2, a3, ⟨x, a4⟩, a5⟩, h2, h3, h4⟩
theorem At.allE (h : At F0 H0 (HP.all M :: L) H) : At F0 H0 (M ++ L) H := by
  obtain ⟨F, ⟨F1, F2, a1, a2, a3, a4, a5⟩, h2, h3, h4⟩ := h.ex
  exact ⟨F, (sep.join a3 a4 a5).sub fun a q => q.elim (a1 a) (a2 a), h2, h3, h4⟩
theorem At.allI (h : At F0 H0 (M ++ L) H) : At F0 H0 (HP.all M :: L) H := by
  obtain ⟨F, h1, h2, h3, h4⟩ := h.ex
  obtain ⟨F1, F2, a1, a2, a3, a4, a5⟩ := h1.split
  exact ⟨F, ⟨F1, F2, a1, a2, a3, a4, a5⟩, h2, h3, h4⟩
theorem At.conv {P R : HP} (h : At F0 H0 (P :: L) H) (k : ∀ F, P.on F H → R.on F H) : At F0 H0 (R :: L) H := by
  obtain ⟨F, ⟨F1, F2, a1, a2, a3, a4, a5⟩, h2, h3, h4⟩ := h.ex
  exact ⟨F, ⟨F1, F2, a1, a2, a3, k _ a4, a5⟩, h2, h3, h4⟩
/-- what holds of one part -/
theorem At.know {P : HP} (h : At F0 H0 L H) (s : Sel P L L1) {q : Prop} (k : ∀ F, P.on F H → q) : q := by
  obtain ⟨F, ⟨F1, F2, a1, a2, a3, a4, a5⟩, h2, h3, h4⟩ := (h.sel s).ex
  exact k _ a4
theorem At.get (h : At F0 H0 L H) (s : Sel (pt a o) L L1) : H a = some o := h.know s fun _ k => k.2
theorem At.getX (h : At F0 H0 L H) (s : Sel (fx a o) L L1) : H a = some o := h.know s fun _ k => k.1
theorem At.set' (h : At F0 H0 (pt a o :: L) H) (d : fixed o' = false) : At F0 H0 (pt a o' :: L) (upd H a o') := by
  obtain ⟨F, ⟨F1, F2, a1, a2, a3, ⟨a4, a6⟩, a5⟩, h2, h3, h4⟩ := h.ex
  obtain ⟨u, e1, e2⟩ := h2 a (a1 a a4)
  have kk : ∀ b w, (F2 b ∨ fixed w = true) → H b = some w → upd H a o' b = some w := fun b w q e => by
    rw [upd_ne]; exact e
    rintro rfl
    rcases q with q | q
    · exact a3 _ a4 q
    · rw [e1] at e; cases e; rw [q] at e2; cases e2
  refine ⟨F, ⟨F1, F2, a1, a2, a3, ⟨a4, upd_same⟩, a5.keep kk⟩, fun b q => ?_, fun b w e n => ?_, h4⟩
  · by_cases z : b = a
    · subst z; exact ⟨o', upd_same, d⟩
    · rw [upd_ne z]; exact h2 b q
  · have e' := h3 b w e n
    rw [upd_ne]; exact e'
    rintro rfl
    rcases h4 _ (a1 _ a4) with z | z
    · exact n z
    · rw [e] at z; cases z
theorem At.set (h : At F0 H0 L H) (s : Sel (pt a o) L L1) (d : fixed o' = false := by rfl) : At F0 H0 (pt a o' :: L1) (upd H a o') := (h.sel s).set' d
theorem ext_new {h3 : ∀ a o, H0 a = some o → ¬ F0 a → H a = some o} (hp : H p = none) : F0 p ∨ H0 p = none := by
  cases e : H0 p with
  | none => exact .inr rfl
  | some u =>
    by_cases q : F0 p
    · exact .inl q
    · have := h3 p u e q
      rw [hp] at this; cases this
theorem At.new (h : At F0 H0 L H) (hp : H p = none) (d : fixed o = false := by rfl) : At F0 H0 (pt p o :: L) (upd H p o) := by
  obtain ⟨F, h1, h2, h3, h4⟩ := h.ex
  have np : ∀ b w, H b = some w → b ≠ p := fun b w e z => by subst z; rw [hp] at e; cases e
  have kk : ∀ b w, H b = some w → upd H p o b = some w := fun b w e => by rw [upd_ne (np b w e)]; exact e
  have nF : ¬ F p := fun q => by obtain ⟨u, e, _⟩ := h2 p q; rw [hp] at e; cases e
  refine ⟨fun b => b = p ∨ F b, ⟨fun b => b = p, F, fun _ => .inl, fun _ => .inr, fun b q r => nF (q ▸ r), ⟨rfl, upd_same⟩, h1.keep fun b w _ e => kk b w e⟩, fun b q => ?_, fun b w e n => kk b w (h3 b w e n), fun b q => ?_⟩
  · rcases q with rfl | q
    · exact ⟨o, upd_same, d⟩
    · obtain ⟨u, e, z⟩ := h2 b q
      exact ⟨u, kk b u e, z⟩
  · rcases q with rfl | q
    · exact ext_new (h3 := h3) hp
    · exact h4 b q
theorem At.newX (h : At F0 H0 L H) (hp : H p = none) (d : fixed o = true := by rfl) : At F0 H0 (fx p o :: L) (upd H p o) := by
  obtain ⟨F, h1, h2, h3, h4⟩ := h.ex
  have np : ∀ b w, H b = some w → b ≠ p := fun b w e z => by subst z; rw [hp] at e; cases e
  have kk : ∀ b w, H b = some w → upd H p o b = some w := fun b w e => by rw [upd_ne (np b w e)]; exact e
  refine ⟨F, ⟨fun _ => False, F, fun _ q => q.elim, fun _ q => q, fun _ q _ => q, ⟨upd_same, d⟩, h1.keep fun b w _ e => kk b w e⟩, fun b q => ?_, fun b w e n => kk b w (h3 b w e n), h4⟩
  obtain ⟨u, e, z⟩ := h2 b q
  exact ⟨u, kk b u e, z⟩
/-- an object that is not looked at any more -/
theorem At.other (h : At F0 H0 L H) (hp : H p = none) (d : fixed o = true) : At F0 H0 L (upd H p o) := (h.newX hp d).drop
/-- a fixed object may be told more than once -/
theorem At.dup (h : At F0 H0 L H) (e : H a = some o) (d : fixed o = true) : At F0 H0 (fx a o :: L) H := by
  obtain ⟨F, h1, h2, h3, h4⟩ := h.ex
  exact ⟨F, ⟨fun _ => False, F, fun _ q => q.elim, fun _ q => q, fun _ q _ => q, ⟨e, d⟩, h1⟩, h2, h3, h4⟩
theorem At.swapN {a' : Addr} {Q : Prop} (h : At F0 H0 (pt a o :: pt a' o' :: L) H) : a ≠ a' := by
  obtain ⟨F, ⟨F1, F2, a1, a2, a3, ⟨a4, _⟩, G1, G2, b1, b2, b3, ⟨b4, _⟩, b5⟩, h2, h3, h4⟩ := h.ex
  rintro rfl
  exact a3 _ a4 (b1 _ b4)
end

/-! ### what a def promises, by owned parts -/
/-- Pre is owned; R: the answer and what is owned behind; RE: an exception's class, its own dict and what is owned -/
def Tri (Pre : List HP) (R : V → List HP → Prop) (RE : Value → Option Addr → List HP → Prop) (H : Hp) (Q : VK) (E : XK) : Prop :=
  ∃ F : FP, sep Pre F H ∧ Own F H ∧ (∀ v L' H', R v L' → At F H L' H' → Q v H') ∧ (∀ c d L' H', RE c d L' → At F H L' H' → E c d H')
section
variable {F0 : FP} {H0 H : Hp} {Pre L L1 : List HP} {R : V → List HP → Prop} {RE : Value → Option Addr → List HP → Prop} {Q : VK} {E : XK}
theorem At.frame {F : FP} {F1 F2 : FP} {L' : List HP} {H' : Hp} (hd : ∀ a, F1 a → F2 a → False) (hL : sep L F2 H) (w : Own F H) (f1 : ∀ a, F1 a → F a) (f2 : ∀ a, F2 a → F a) (h3 : ∀ a o, H0 a = some o → ¬ F0 a → H a = some o) (h4 : ∀ a, F a → F0 a ∨ H0 a = none)
    (q : At F1 H L' H') : At F0 H0 (L' ++ L) H' := by
  obtain ⟨G, g1, g2, g3, g4⟩ := q.ex
  have k : ∀ a o, (F2 a ∨ fixed o = true) → H a = some o → H' a = some o := fun a o z e => g3 a o e fun n => by
    rcases z with z | z
    · exact hd a n z
    · obtain ⟨u, e1, e2⟩ := w a (f1 a n)
      rw [e] at e1; cases e1; rw [z] at e2; cases e2
  have dd : ∀ a, G a → F2 a → False := fun a z1 z2 => by
    rcases g4 a z1 with z | z
    · exact hd a z z2
    · obtain ⟨u, e1, _⟩ := w a (f2 a z2)
      rw [z] at e1; cases e1
  refine ⟨fun a => G a ∨ F2 a, sep.join dd g1 (hL.keep k), fun a z => ?_, fun a o e n => g3 a o (h3 a o e n) fun z => ?_, fun a z => ?_⟩
  · rcases z with z | z
    · exact g2 a z
    · obtain ⟨u, e1, e2⟩ := w a (f2 a z)
      exact ⟨u, k a u (.inl z) e1, e2⟩
  · rcases h4 a (f1 a z) with z | z
    · exact n z
    · rw [e] at z; cases z
  · rcases z with z | z
    · rcases g4 a z with z | z
      · exact h4 a (f1 a z)
      · exact ext_new (h3 := h3) z
    · exact h4 a (f2 a z)
/-- a call whose promise is a Tri -/
theorem At.call (h : At F0 H0 L H) (s : Arr Pre L L1) (q : ∀ v L' H', R v L' → At F0 H0 (L' ++ L1) H' → Q v H') (e : ∀ c d L' H', RE c d L' → At F0 H0 (L' ++ L1) H' → E c d H') : Tri Pre R RE H Q E := by
  obtain ⟨F, h1, h2, h3, h4⟩ := (h.arr s).ex
  obtain ⟨F1, F2, a1, a2, a3, a4, a5⟩ := h1.split
  exact ⟨F1, a4, fun a z => h2 a (a1 a z), fun v L' H' r x => q v L' H' r (At.frame a3 a5 h2 a1 a2 h3 h4 x), fun c d L' H' r x => e c d L' H' r (At.frame a3 a5 h2 a1 a2 h3 h4 x)⟩
end
end S
set_option Elab.async false
set_option linter.all false
set_option maxRecDepth 100000
set_option maxHeartbeats 1000000
namespace S
open PySem PySem.Spec L2

/-! ### readings of my own -/
/-- a field of an instance of the class at C -/
def kF (C : Addr) (f : Str) : V → Hp → VK → Prop := fun x H Q => ∃ a dx fs v, x = .ref a ∧ H a = some (.ins C dx fs) ∧ fs.lookup f = some v ∧ Q v H
def tF (C : Addr) (f : Str) (ta : TE) : TE := fun σ H Q => ta σ H fun x H1 => kF C f x H1 Q
def kS (C : Addr) (f : Str) (y : V) : V → Hp → (Hp → Prop) → Prop := fun x H Q => ∃ a dx fs, x = .ref a ∧ H a = some (.ins C dx fs) ∧ fs.length < 1000 ∧ Q (upd H a (.ins C dx (putF f y fs)))
/-- o.f = e -/
def tS (C : Addr) (f : Str) (ta tv : TE) : TS := fun D σ H => tv σ H fun y H1 => ta σ H1 fun x H2 => kS C f y x H2 fun H3 => D.nx σ H3
/-- o.f op= e -/
def tSA (C : Addr) (f : Str) (rd : R2) (ta tv : TE) : TS := fun D σ H => ta σ H fun x H1 => kF C f x H1 fun v H2 => tv σ H2 fun y H3 => rd v y H3 fun z H4 => kS C f z x H4 fun H5 => D.nx σ H5
/-- a call by a promise -/
def tK (sp : Sp) (E : St → XK) (t : TA) : TE := fun σ H Q => t σ H fun vs H1 => sp vs H1 Q (E σ)
def kIns (C : Addr) (m : Str) : V → Hp → Prop := fun x H => ∃ a dx fs, x = .ref a ∧ H a = some (.ins C dx fs) ∧ fs.lookup m = none
/-- a method's -/
def tM (C : Addr) (m : Str) (sp : Sp) (E : St → XK) (ta : TE) (t : TA) : TE := fun σ H Q => ta σ H fun x H1 => kIns C m x H1 ∧ t σ H1 fun vs H2 => sp (x :: vs) H2 Q (E σ)
/-- a class's call -/
def tN (C : Addr) (sp : Sp) (E : St → XK) (t : TA) : TE := fun σ H Q => t σ H fun vs H1 => ∀ x dx, H1 x = none → H1 dx = none → dx ≠ x →
  sp (.ref x :: vs) (upd (upd H1 dx (.own x)) x (.ins C dx [])) (fun v H2 => v = .non ∧ Q (.ref x) H2) (E σ)
def tRaise (C : Addr) (W : WX) : TS := fun _ σ H => W (.ref C) none σ H

/-! ### what stands behind the top -/
structure FnAt (P : Program) (w : World) (K : PySem.W.Frag) (mg : Str → Option Value) (base : Heap) (CX : CXT) (k : Nat) (x : Str) (sp : Sp) : Prop where
  ex : ∃ (f : Addr) (fd : FuncData) (ps : List Str), mg x = some (.ref f) ∧ PySem.W.keepIn K (.ref f) = true ∧ Binds K fd ps [] ∧ FnOk P w K mg base CX k f fd ps sp
structure MtAt (P : Program) (w : World) (K : PySem.W.Frag) (mg : Str → Option Value) (base : Heap) (CX : CXT) (k : Nat) (C : Addr) (m : Str) (sp : Sp) : Prop where
  ex : ∃ (f : Addr) (fd : FuncData) (ps : List Str), Cls K C ∧ Meth K C m f ∧ Binds K fd ps [] ∧ FnOk P w K mg base CX k f fd ps sp
structure MkAt (P : Program) (w : World) (K : PySem.W.Frag) (mg : Str → Option Value) (base : Heap) (CX : CXT) (k : Nat) (x : Str) (C : Addr) (sp : Sp) : Prop where
  ex : ∃ (f : Addr) (fd : FuncData) (ps : List Str), mg x = some (.ref C) ∧ Mk K C f ∧ Binds K fd ps [] ∧ FnOk P w K mg base CX k f fd ps sp

section
variable {P : Program} {w : World} {K : PySem.W.Frag} {mg : Str → Option Value} {base : Heap} {k : Nat} {f : Addr} {fd : FuncData} {ps : List Str} {sp : Sp} {x m : Str} {C : Addr}
theorem FnOk.to0 (F : FnOk P w K mg base (L2.CX P w) k f fd ps sp) (h : ∀ vs H Q E, sp vs H Q E → sp vs H Q (fun _ _ _ => False)) : FnOk P w K mg base CX0 k f fd ps sp := by
  refine ⟨F.len, fun A outer s H args us vs Q E hr he hb hv hs => codeAny_mono (F.run A outer s H args us vs Q (fun _ _ _ => False) hr he hb hv (h _ _ _ _ hs)) fun r s' hq => ?_⟩
  cases r with
  | error e =>
    obtain ⟨a, B, H', cls, d, _, _, _, _, _, _, _, z⟩ := (show L2.CX P w outer H s (fun _ _ _ => False) e s' from hq)
    exact z.elim
  | ok fl =>
    cases fl with
    | ret u => exact hq
    | next => exact hq
    | brk => exact hq
    | cont => exact hq
theorem FnAt.to0 {sp' : Sp} (D : FnAt P w K mg base (L2.CX P w) k x sp) (h : ∀ vs H Q E, sp' vs H Q E → sp vs H Q (fun _ _ _ => False)) : FnAt P w K mg base CX0 k x sp' := by
  obtain ⟨f, fd, ps, h1, h2, h3, F⟩ := D.ex
  refine ⟨f, fd, ps, h1, h2, h3, FnOk.to0 (sp := fun vs H Q _ => sp vs H Q (fun _ _ _ => False)) ⟨fun vs H Q E q => F.len vs H Q _ q, fun A outer s H args us vs Q E hr he hb hv hs => codeAny_mono (F.run A outer s H args us vs Q _ hr he hb hv hs) fun r s' hq => ?_⟩ (fun _ _ _ _ q => q) |>.imp h⟩
  cases r with
  | error e =>
    obtain ⟨a, B, H', cls, d, _, _, _, _, _, _, _, z⟩ := (show L2.CX P w outer H s (fun _ _ _ => False) e s' from hq)
    exact z.elim
  | ok fl => cases fl <;> exact hq
theorem MtAt.to0 {sp' : Sp} (D : MtAt P w K mg base (L2.CX P w) k C m sp) (h : ∀ vs H Q E, sp' vs H Q E → sp vs H Q (fun _ _ _ => False)) : MtAt P w K mg base CX0 k C m sp' := by
  obtain ⟨f, fd, ps, h1, h2, h3, F⟩ := D.ex
  refine ⟨f, fd, ps, h1, h2, h3, FnOk.to0 (sp := fun vs H Q _ => sp vs H Q (fun _ _ _ => False)) ⟨fun vs H Q E q => F.len vs H Q _ q, fun A outer s H args us vs Q E hr he hb hv hs => codeAny_mono (F.run A outer s H args us vs Q _ hr he hb hv hs) fun r s' hq => ?_⟩ (fun _ _ _ _ q => q) |>.imp h⟩
  cases r with
  | error e =>
    obtain ⟨a, B, H', cls, d, _, _, _, _, _, _, _, z⟩ := (show L2.CX P w outer H s (fun _ _ _ => False) e s' from hq)
    exact z.elim
  | ok fl => cases fl <;> exact hq
end

/-! ### how exceptions go -/
/-- a callee of either sort may be called where W is taken -/
structure Pass (CX : CXT) (P : Program) (w : World) : Prop where
  at_ : CX = L2.CX P w ∨ CX = CX0
theorem Pass.takes {CX : CXT} {X : Cx} {W : WX} (p : Pass CX X.prog X.w) (tk : Takes X W) (σ : St) : PassesAt CX X σ (WE W σ) := by
  rcases p.at_ with e | e
  · subst e; exact passAt tk σ
  · subst e; exact fun _ _ _ _ _ _ z => z.elim

section
variable {X : Cx} {CX : CXT} {k : Nat} {sp : Sp} {W : WX} {x m f : Str} {C : Addr} {p pos apos pos' tpos : Pos} {e o a b value : Expr} {es : List Expr} {ta tb te tv : TE} {t : TA}
theorem pe_or2 {t u : TE} (h : PE X e t) (h' : PE X e u) : PE X e (fun σ H Q => t σ H Q ∨ u σ H Q) :=
  ⟨fun pins s σ H Q I q => q.elim (h.run pins s σ H Q I) (h'.run pins s σ H Q I)⟩
theorem pe_fn (D : FnAt X.prog X.w X.K X.mg X.base CX k x sp) (tk : Takes X W) (hr : Room k X.A) (hg : Gl X x) (ha : PA X (e :: es) t) (hdb : (x == ("__debug__" : Str)) = false := by decide)
    (he : starEach (e :: es) X.env = (false, eval e X.env) :: starEach es X.env := by rfl) (hpl : (backTo pos (starEach es X.env)).any (·.1) = false := by rfl) (pp : Pass CX X.prog X.w := by first | exact ⟨.inr rfl⟩ | exact ⟨.inl rfl⟩) :
    PE X (.Call (.Name x p) (e :: es) [] pos) (tK sp (WE W) t) := by
  obtain ⟨f, fd, ps, h1, h2, h3, F⟩ := D.ex
  refine ⟨fun pins s σ H Q I h => ?_⟩
  refine wpAny_Call_Name_kw (ld_glob I hg h1 ?_ hdb)
  refine PySem.W.callWith_K (h₀ := X.base) I.ok.mod.kin h2 (thn (ha.run pos pins s σ H _ I h) fun us s1 ⟨vs, H1, I1, r, q⟩ => ⟨I1.kIn, ?_⟩) he hpl
  exact run_fnS F hr h3 (pp.takes tk σ) I1 r q
theorem pe_fn0 (D : FnAt X.prog X.w X.K X.mg X.base CX k x sp) (tk : Takes X W) (hr : Room k X.A) (hg : Gl X x) (hdb : (x == ("__debug__" : Str)) = false := by decide) (pp : Pass CX X.prog X.w := by first | exact ⟨.inr rfl⟩ | exact ⟨.inl rfl⟩) :
    PE X (.Call (.Name x p) [] [] pos) (tK sp (WE W) tNil) := by
  obtain ⟨f, fd, ps, h1, h2, h3, F⟩ := D.ex
  refine ⟨fun pins s σ H Q I h => ?_⟩
  refine wpAny_Call_Name_kw (ld_glob I hg h1 ?_ hdb)
  exact PySem.W.callWith_K0 I.kIn h2 (run_fnS (us := []) F hr h3 (pp.takes tk σ) I .nil h)
theorem pe_mt {pl : Sem Bool} (D : MtAt X.prog X.w X.K X.mg X.base CX k C m sp) (tk : Takes X W) (hr : Room k X.A) (he : PE X o ta) (ha : PA X (e :: es) t)
    (hst : starEach (e :: es) X.env = (false, eval e X.env) :: starEach es X.env := by rfl) (hpl : (backTo pos (starEach es X.env)).any (·.1) = false := by rfl)
    (ht : eval (.Call (.Attribute o m apos) (e :: es) [] pos) X.env = (do
      let ov ← eval o X.env
      standAt apos.atName
      let (f, first) ← holding [ov] (getMethod ov m pl)
      callWith pos f first (backTo pos (starEach (e :: es) X.env)) (backToKw pos (keywordEach [] X.env))) := by rfl) (pp : Pass CX X.prog X.w := by first | exact ⟨.inr rfl⟩ | exact ⟨.inl rfl⟩) :
    PE X (.Call (.Attribute o m apos) (e :: es) [] pos) (tM C m sp (WE W) ta t) := by
  obtain ⟨f, fd, ps, c, hm, h3, F⟩ := D.ex
  refine ⟨fun pins s σ H Q I h => ?_⟩
  refine PySem.W.methodCall_KW (pl := pl) (thn (he.run pins s σ H _ I h) fun u s1 ⟨x, H1, I1, rx, ⟨a, dx, fs, ex, ea, l⟩, q⟩ => ?_) ht
  subst ex
  obtain rfl : u = Value.ref a := rx
  refine getmeth_ok I1 ea c hm l ?_
  refine PySem.W.callWith_K (first := [.ref a]) (h₀ := X.base) I.ok.mod.kin hm.kp (thn (ha.run pos pins s1 σ H1 _ I1 q) fun us s2 ⟨vs, H2, I2, r, q2⟩ => ⟨I2.kIn, ?_⟩) hst hpl
  exact run_fnS (us := .ref a :: us) (vs := .ref a :: vs) F hr h3 (pp.takes tk σ) I2 (.cons rfl r) q2
theorem pe_mt0 {pl : Sem Bool} (D : MtAt X.prog X.w X.K X.mg X.base CX k C m sp) (tk : Takes X W) (hr : Room k X.A) (he : PE X o ta)
    (ht : eval (.Call (.Attribute o m apos) [] [] pos) X.env = (do
      let ov ← eval o X.env
      standAt apos.atName
      let (f, first) ← holding [ov] (getMethod ov m pl)
      callWith pos f first (backTo pos (starEach [] X.env)) (backToKw pos (keywordEach [] X.env))) := by rfl) (pp : Pass CX X.prog X.w := by first | exact ⟨.inr rfl⟩ | exact ⟨.inl rfl⟩) :
    PE X (.Call (.Attribute o m apos) [] [] pos) (tM C m sp (WE W) ta tNil) := by
  obtain ⟨f, fd, ps, c, hm, h3, F⟩ := D.ex
  refine ⟨fun pins s σ H Q I h => ?_⟩
  refine PySem.W.methodCall_KW (pl := pl) (thn (he.run pins s σ H _ I h) fun u s1 ⟨x, H1, I1, rx, ⟨a, dx, fs, ex, ea, l⟩, q⟩ => ?_) ht
  subst ex
  obtain rfl : u = Value.ref a := rx
  refine getmeth_ok I1 ea c hm l ?_
  exact PySem.W.callWith_K0 (first := [.ref a]) I1.kIn hm.kp (run_fnS (us := [.ref a]) (vs := [.ref a]) F hr h3 (pp.takes tk σ) I1 (.cons rfl .nil) q)
theorem run_mk {fi : Addr} {fd : FuncData} {ps : List Str} {pins : List (Addr × Obj)} {σ : St} {H : Hp} {s : Shared} {Q : VK} {us : List Value} {vs : List V} (M : Mk X.K C fi) (F : FnOk X.prog X.w X.K X.mg X.base CX k fi fd ps sp) (hr : Room (k + 1) X.A) (hb : Binds X.K fd ps [])
    (tk : Takes X W) (I : Inv X pins σ H s) (r : Vals vs us)
    (h : ∀ x dx, H x = none → H dx = none → dx ≠ x → sp (.ref x :: vs) (upd (upd H dx (.own x)) x (.ins C dx [])) (fun v H2 => v = .non ∧ Q (.ref x) H2) (WE W σ)) (pp : Pass CX X.prog X.w) :
    wpAny (model X.prog X.w) X.A (call (.ref C) us) (EP X pins σ Q) X.xe s := by
  have hq := h (s.heap.objs.size + 1) s.heap.objs.size (I.hok.fresh (Nat.le_succ _)) (I.hok.fresh (Nat.le_refl _)) (Nat.ne_of_lt (Nat.lt_succ_self _))
  have I2 := Inv.made (C := C) I
  have r2 : Vals (V.ref (s.heap.objs.size + 1) :: vs) (Value.ref (s.heap.objs.size + 1) :: us) := .cons rfl r
  have hl : (Value.ref (s.heap.objs.size + 1) :: us).length = ps.length := by
    have e := r2.length
    rw [F.len _ _ _ _ hq] at e
    exact e.symm
  have b := hb _ (Value.ref (s.heap.objs.size + 1) :: us) I2.kIn (by rw [List.append_nil]; exact hl)
  rw [List.append_nil] at b
  refine wpAny_call (make_map (f := fi) I.kIn M.makes M.init (beq_iff_eq.mp M.fn) (codeAny_mono (F.run _ X.stack _ _ ⟨Value.ref (s.heap.objs.size + 1) :: us, []⟩ (Value.ref (s.heap.objs.size + 1) :: us) _ _ (WE W σ) (hr.make C us [])
    (I2.env0.make C us []) b r2 hq) fun r s' hq' => ?_))
  cases r with
  | error e => exact pp.takes tk σ pins _ _ e s' I2 hq'
  | ok fl =>
    cases fl with
    | ret u =>
      obtain ⟨v, H', I3, rv, ev, q3⟩ := I2.after hq'
      subst ev
      exact ⟨rv, ⟨V.ref (s.heap.objs.size + 1), H', I3, rfl, q3⟩⟩
    | next => exact False.elim hq'
    | brk => exact False.elim hq'
    | cont => exact False.elim hq'
theorem pe_mk (D : MkAt X.prog X.w X.K X.mg X.base CX k x C sp) (tk : Takes X W) (hr : Room (k + 1) X.A) (hg : Gl X x) (ha : PA X (e :: es) t) (hdb : (x == ("__debug__" : Str)) = false := by decide)
    (he : starEach (e :: es) X.env = (false, eval e X.env) :: starEach es X.env := by rfl) (hpl : (backTo pos (starEach es X.env)).any (·.1) = false := by rfl) (pp : Pass CX X.prog X.w := by first | exact ⟨.inr rfl⟩ | exact ⟨.inl rfl⟩) :
    PE X (.Call (.Name x p) (e :: es) [] pos) (tN C sp (WE W) t) := by
  obtain ⟨f, fd, ps, h1, M, h3, F⟩ := D.ex
  refine ⟨fun pins s σ H Q I h => ?_⟩
  refine wpAny_Call_Name_kw (ld_glob I hg h1 ?_ hdb)
  refine PySem.W.callWith_K (h₀ := X.base) I.ok.mod.kin M.kp (thn (ha.run pos pins s σ H _ I h) fun us s1 ⟨vs, H1, I1, r, q⟩ => ⟨I1.kIn, ?_⟩) he hpl
  exact run_mk M F hr h3 tk I1 r q pp
theorem pe_mk0 (D : MkAt X.prog X.w X.K X.mg X.base CX k x C sp) (tk : Takes X W) (hr : Room (k + 1) X.A) (hg : Gl X x) (hdb : (x == ("__debug__" : Str)) = false := by decide) (pp : Pass CX X.prog X.w := by first | exact ⟨.inr rfl⟩ | exact ⟨.inl rfl⟩) :
    PE X (.Call (.Name x p) [] [] pos) (tN C sp (WE W) tNil) := by
  obtain ⟨f, fd, ps, h1, M, h3, F⟩ := D.ex
  refine ⟨fun pins s σ H Q I h => ?_⟩
  refine wpAny_Call_Name_kw (ld_glob I hg h1 ?_ hdb)
  exact PySem.W.callWith_K0 I.kIn M.kp (run_mk (us := []) M F hr h3 tk I .nil h pp)
theorem pe_f (c : Cls X.K C) (n : NoAttr X.K C f) (he : PE X e ta) (hb : attributeBase e f X.env (eval e X.env) = eval e X.env := by rfl) : PE X (.Attribute e f pos) (tF C f ta) := by
  refine ⟨fun pins s σ H Q I h => ?_⟩
  refine attr_of hb (thn (he.run pins s σ H _ I h) fun u s1 ⟨x, H1, I1, rx, a, dx, fs, v, ex, ea, l, q⟩ => ?_)
  subst ex
  obtain rfl : u = Value.ref a := rx
  exact getattr_ok I1 ea c n l fun u' s2 I2 ru => ⟨v, H1, I2, ru, q⟩
theorem ps_f (c : Cls X.K C) (n : NoAttr X.K C f) (ho : PE X o ta) (hv : PE X value tv) (hs : swapsWith value (some (.Attribute o f pos')) pos.line X.env = pure false := by rfl) : PS X (.Assign [.Attribute o f pos'] value pos) (tS C f ta tv) := by
  refine ⟨fun pins s σ H D I h => ?_⟩
  refine plainObj_wpAny_Assign_Attribute (thn (hv.run pins s σ H _ I h) fun u s1 ⟨y, H1, I1, ry, q⟩ => thn (ho.run pins s1 σ H1 _ I1 q) fun ov s2 ⟨x, H2, I2, rx, a, dx, fs, ex, ea, l, q2⟩ => ?_) hs
  subst ex
  obtain rfl : ov = Value.ref a := rx
  exact setattr_ok I2 ea c n l ry fun s3 I3 => ⟨σ, _, I3, q2⟩
theorem ps_fa {op : Operator} {rd : R2} (c : Cls X.K C) (n : NoAttr X.K C f) (ho : PE X o ta) (hv : PE X value tv) (hop : InOp X op rd) : PS X (.AugAssign (.Attribute o f tpos) op value pos) (tSA C f rd ta tv) := by
  refine ⟨fun pins s σ H D I h => ?_⟩
  refine wpAny_AugAssign_AttributeAny (thn (ho.run pins s σ H _ I h) fun ov s1 ⟨x, H1, I1, rx, a, dx, fs, v, ex, ea, l, q⟩ => ?_)
  subst ex
  obtain rfl : ov = Value.ref a := rx
  refine getattr_ok I1 ea c n l fun u s2 I2 ru => thn (hv.run pins s2 σ H1 _ I2 q) fun w3 s3 ⟨y, H2, I3, ry, q3⟩ => thn (hop pins s3 σ H2 v y u w3 _ I3 ru ry q3) fun w4 s4 ⟨z, H3, I4, rz, a', dx', fs', ex', ea', l', q4⟩ => ?_
  cases ex'
  exact setattr_ok I4 ea' c n l' rz fun s5 I5 => ⟨σ, _, I5, q4⟩
theorem pe_gint {i : Int} (hg : Gl X x) (hm : ∃ t, X.mg x = some (.int i t)) (hd : (x == ("__debug__" : Str)) = false := by decide) : PE X (.Name x pos) (tC (.int i)) := by
  obtain ⟨t, e⟩ := hm
  exact pe_glob hg e ⟨t, rfl⟩ hd
theorem pe_gstr {z : Str} (hg : Gl X x) (hm : ∃ t, X.mg x = some (.str z t)) (hd : (x == ("__debug__" : Str)) = false := by decide) : PE X (.Name x pos) (tC (.str z)) := by
  obtain ⟨t, e⟩ := hm
  exact pe_glob hg e ⟨t, rfl⟩ hd
theorem pe_gref {a : Addr} (hg : Gl X x) (hm : X.mg x = some (.ref a)) (hd : (x == ("__debug__" : Str)) = false := by decide) : PE X (.Name x pos) (tC (.ref a)) := pe_glob hg hm rfl hd
/-- what is asked of an exception class to be raised, caught -/
structure ExC (K : PySem.W.Frag) (mg : Str → Option Value) (x : Str) (C : Addr) (bs : List Value) : Prop where
  g : mg x = some (.ref C)
  ex : PySem.W.excIn K C bs "ValueError.__new__" = true
  kp : PySem.W.keepIn K (.ref C) = true
  sb : PySem.W.subIn K (.ref C) (.type "BaseException") = some true
  ty : PySem.W.typeIn K (.ref C) = some (.type "type")
theorem ps_rz {msg : Str} {j : Nat} {p2 : Pos} {bs : List Value} (ec : ExC X.K X.mg x C bs) (hb : bs = [.type "ValueError", .type "Exception", .type "BaseException", .type "object"]) (hc : X.calm = true) (tk : Takes X W) (hg : Gl X x) (hdb : (x == ("__debug__" : Str)) = false := by decide) :
    PS X (.Raise (some (.Call (.Name x p) [.Constant (.str msg) j p2] [] pos')) none pos) (tRaise C W) := by
  subst hb
  exact ps_raise hc tk (pmk_own PySem.F.excBase_ValueError ec.ex ec.g ec.kp (raises_own ec.sb ec.ty) hg hdb)
end
end S
set_option Elab.async false
set_option linter.all false
set_option maxRecDepth 100000
set_option maxHeartbeats 1000000
namespace S
open PySem PySem.Spec L2

/-! ### readings by values, named -/
def rPlus : R2 := rI0 fun i j => .int (i + j)
def rMinus : R2 := rI0 fun i j => .int (i - j)
def rMul : R2 := rI CMul fun i j => .int (i * j)
def rFdiv : R2 := rI CDivW fun i j => .int (i / j)
def rMod : R2 := rI (fun _ j => 0 < j) fun i j => .int (i % j)
def rPow : R2 := rI CPow fun i j => .int (i ^ j.toNat)
def rShr : R2 := rI (fun _ j => 0 ≤ j) fun i j => .int (i / 2 ^ j.toNat)
def rShl : R2 := rI CPow fun i j => .int (i * 2 ^ j.toNat)
def rBand : R2 := rI0 fun i j => .int (Builtin.bitAnd i j)
def rBxor : R2 := rI0 fun i j => .int (Builtin.bitXor i j)
def rLt : R2 := rI0 fun i j => .bl (decide (i < j))
def rLe : R2 := rI0 fun i j => .bl (decide (i ≤ j))
def rGt : R2 := rI0 fun i j => .bl (decide (j < i))
def rGe : R2 := rI0 fun i j => .bl (decide (j ≤ i))
def rIsN : R2 := fun x y H Q => y = .non ∧ Q (.bl (decide (x = .non))) H
def rNotN : R2 := fun x y H Q => y = .non ∧ Q (.bl (!decide (x = .non))) H
def rNeg : V → Hp → VK → Prop := rU fun i => .int (-i)
def rAddS : R2 := fun x y H Q => ∃ i j, x = .str i ∧ y = .str j ∧ i.length + j.length ≤ sizeLine ∧ Q (.str (i ++ j)) H
def rAbs : List V → Hp → VK → Prop := fun xs H Q => ∃ i, xs = [.int i] ∧ Q (.int (if i < 0 then -i else i)) H
def rMin2 : List V → Hp → VK → Prop := fun xs H Q => ∃ i j, xs = [.int i, .int j] ∧ Q (.int (if j < i then j else i)) H
def rMax2 : List V → Hp → VK → Prop := fun xs H Q => ∃ i j, xs = [.int i, .int j] ∧ Q (.int (if j > i then j else i)) H
def rInt1 : List V → Hp → VK → Prop := fun xs H Q => (∃ i, xs = [.int i] ∧ Q (.int i) H) ∨ ∃ k, xs = [.bl k] ∧ Q (.int (if k then 1 else 0)) H
def rListOf (K : PySem.W.Frag) : List V → Hp → VK → Prop := fun xs H Q => ∃ p ys, xs = [.ref p] ∧ (SqL K H p ys ∨ SqT K H p ys) ∧ ∀ l, H l = none → Q (.ref l) (upd H l (.lst ys))
def rDictP (K : PySem.W.Frag) : List V → Hp → VK → Prop := fun xs H Q => ∃ (a : Addr) (ps : List Addr) (kvs : List (Key × V)), xs = [.ref a] ∧ SqL K H a (ps.map V.ref) ∧ PySem.Paired (fun p kv => SqT K H p [kV kv.1, kv.2]) ps kvs ∧
    ∀ p, H p = none → Q (.ref p) (upd H p (.dK (mergeK [] kvs)))
def rLenD : List V → Hp → VK → Prop := fun xs H Q => ∃ a kvs, xs = [V.ref a] ∧ H a = some (.dK kvs) ∧ Q (.int kvs.length) H
def rSortedDI : List V → Hp → VK → Prop := fun xs H Q => ∃ (a : Addr) (kvs : List (Key × V)) (ks : List Int), xs = [.ref a] ∧ Rd H a (.dK kvs) ∧ kvs.map (·.1) = ks.map Sum.inl ∧ ks.length < 64 ∧
    ∀ (ys : List Int) (p : Addr), ys.Perm ks → ys.Pairwise (· ≤ ·) → H p = none → Q (.ref p) (upd H p (.lst (ys.map V.int)))
def tE2 (t u : TE) : TE := fun σ H Q => t σ H Q ∨ u σ H Q
def tTry (K : PySem.W.Frag) (c : Value) (ts : Addr → Value → Option Addr → TS) (tb : WX → TS) (W : WX) : TS := fun D σ H => tb (wOnly K c ts W D) D σ H
def WF : WX := fun _ _ _ _ => False
def WD (E : XK) : WX := fun c d _ H => E c d H
theorem hu64 {A : Around} {k : Nat} (hr : Room k A) : A.units + 64 < cLine := hr.units
abbrev FnP (K : PySem.W.Frag) (nm qn : Str) (st : Stmt) (f : Addr) (fd : FuncData) : Prop := FunD K nm qn (defArgs st) (defBody st) (defScope st) [] [] f fd

/-! ### steps -/
section
variable {K : PySem.W.Frag} {F0 : FP} {H0 H : Hp} {L L1 : List HP} {D : Ends} {σ : L2.St} {Q : VK} {W : WX} {A B : Prop}
-- statements
theorem s_seq {t u : TS} (q : t ⟨u D, D.rt, D.bk, D.ct⟩ σ H) : tSeq t u D σ H := q
theorem s_asg {te : TE} {g : TG} (q : te σ H fun x H1 => g x σ H1 D.nx) : tAsg te g D σ H := q
theorem s_drop {te : TE} (q : te σ H fun _ H1 => D.nx σ H1) : tDrop te D σ H := q
theorem s_ret {te : TE} (q : te σ H D.rt) : tRet te D σ H := q
theorem s_retN (q : D.rt .non H) : tRetN D σ H := q
theorem s_ifS {c : TT} {t u : TS} (q : c σ H fun b H1 => if b = true then t D σ H1 else u D σ H1) : tIfS c t u D σ H := q
theorem s_next (q : D.nx σ H) : tNext D σ H := q
theorem s_break (q : D.bk σ H) : tBreak D σ H := q
theorem s_cont (q : D.ct σ H) : tCont D σ H := q
theorem s_raise {C : Addr} (q : W (.ref C) none σ H) : tRaise C W D σ H := q
theorem s_wd {E : XK} {c : Value} {d : Option Addr} (q : E c d H) : WD E c d σ H := q
theorem s_we {c : Value} {d : Option Addr} (q : W c d σ H) : WE W σ c d H := q
theorem s_par {i j : Nat} {ta : TA} (q : ta σ H fun vs H1 => ∃ v w, vs = [v, w] ∧ D.nx ((σ.set i (some v)).set j (some w)) H1) : tPar i j ta D σ H := q
theorem s_par2 {i j : Nat} {v w : V} {P : L2.St → Prop} (q : P ((σ.set i (some v)).set j (some w))) : ∃ v' w', [v, w] = [v', w'] ∧ P ((σ.set i (some v')).set j (some w')) := ⟨v, w, rfl, q⟩
-- ends
theorem s_nx {n b c : L2.St → Hp → Prop} {r : VK} (q : n σ H) : Ends.nx ⟨n, r, b, c⟩ σ H := q
theorem s_rt {n b c : L2.St → Hp → Prop} {r : VK} {v : V} (q : r v H) : Ends.rt ⟨n, r, b, c⟩ v H := q
theorem s_bk {n b c : L2.St → Hp → Prop} {r : VK} (q : b σ H) : Ends.bk ⟨n, r, b, c⟩ σ H := q
theorem s_ct {n b c : L2.St → Hp → Prop} {r : VK} (q : c σ H) : Ends.ct ⟨n, r, b, c⟩ σ H := q
-- targets
theorem s_gname {i : Nat} {v : V} {P : L2.St → Hp → Prop} (q : P (σ.set i (some v)) H) : gName i v σ H P := q
theorem s_gnil {P : L2.St → Hp → Prop} (q : P σ H) : gNil [] σ H P := ⟨rfl, q⟩
theorem s_gcons {g : TG} {gs : TGs} {v : V} {r : List V} {P : L2.St → Hp → Prop} (q : g v σ H fun σ' H' => gs r σ' H' P) : gCons g gs (v :: r) σ H P := ⟨v, r, rfl, q⟩
theorem s_gtup {n : Nat} {gs : TGs} {a : Addr} {xs : List V} {P : L2.St → Hp → Prop} (e : SqT K H a xs) (l : xs.length = n) (q : gs xs σ H P) : gTup K n gs (.ref a) σ H P := ⟨a, xs, rfl, e, l, q⟩
theorem s_gsub {to ti : TE} {t : TSet} {v : V} {P : L2.St → Hp → Prop} (q : to σ H fun o H1 => ti σ H1 fun i H2 => t o i v H2 fun H3 => P σ H3) : gSub to ti t v σ H P := q
-- expressions
theorem s_var {i : Nat} {v : V} (q : Q v H) (e : σ[i]? = some (some v) := by rfl) : tVar i σ H Q := ⟨v, e, q⟩
theorem s_c {v : V} (q : Q v H) : tC v σ H Q := q
theorem s_op {r : R2} {ta tb : TE} (q : ta σ H fun x H1 => tb σ H1 fun y H2 => r x y H2 Q) : tOp r ta tb σ H Q := q
theorem s_un {r : V → Hp → VK → Prop} {ta : TE} (q : ta σ H fun x H1 => r x H1 Q) : tUn r ta σ H Q := q
theorem s_nil {P : List V → Hp → Prop} (q : P [] H) : tNil σ H P := q
theorem s_cons {te : TE} {t : TA} {P : List V → Hp → Prop} (q : te σ H fun x H1 => t σ H1 fun xs H2 => P (x :: xs) H2) : tCons te t σ H P := q
theorem s_cb {r : List V → Hp → VK → Prop} {t : TA} (q : t σ H fun vs H1 => r vs H1 Q) : tCB r t σ H Q := q
theorem s_chain {r r' : R2} {ta tb tc : TE} (q : ta σ H fun x H1 => tb σ H1 fun y H2 => r x y H2 fun z H3 => ∃ k, z = .bl k ∧ (if k = true then tc σ H3 fun w' H4 => r' y w' H4 Q else Q (.bl false) H3)) : tChain r r' ta tb tc σ H Q := q
theorem s_k {spp : Sp} {E : L2.St → XK} {t : TA} (q : t σ H fun vs H1 => spp vs H1 Q (E σ)) : tK spp E t σ H Q := q
theorem s_m {C : Addr} {m : Str} {spp : Sp} {E : L2.St → XK} {ta : TE} {t : TA} (q : ta σ H fun x H1 => kIns C m x H1 ∧ t σ H1 fun vs H2 => spp (x :: vs) H2 Q (E σ)) : tM C m spp E ta t σ H Q := q
theorem s_n {C : Addr} {spp : Sp} {E : L2.St → XK} {t : TA} (q : t σ H fun vs H1 => ∀ x dx, H1 x = none → H1 dx = none → dx ≠ x →
  spp (.ref x :: vs) (upd (upd H1 dx (.own x)) x (.ins C dx [])) (fun v H2 => v = .non ∧ Q (.ref x) H2) (E σ)) : tN C spp E t σ H Q := q
theorem s_f {C : Addr} {f : Str} {ta : TE} (q : ta σ H fun x H1 => kF C f x H1 Q) : tF C f ta σ H Q := q
theorem s_s {C : Addr} {f : Str} {ta tv : TE} (q : tv σ H fun y H1 => ta σ H1 fun x H2 => kS C f y x H2 fun H3 => D.nx σ H3) : tS C f ta tv D σ H := q
theorem s_sa {C : Addr} {f : Str} {rd : R2} {ta tv : TE} (q : ta σ H fun x H1 => kF C f x H1 fun v H2 => tv σ H2 fun y H3 => rd v y H3 fun z H4 => kS C f z x H4 fun H5 => D.nx σ H5) : tSA C f rd ta tv D σ H := q
theorem s_try {c : Value} {ts : Addr → Value → Option Addr → TS} {tb : WX → TS} (q : tb (wOnly K c ts W D) D σ H) : tTry K c ts tb W D σ H := q
theorem s_tup {t : TA} (q : t σ H fun xs H1 => xs.length ≤ sizeLine ∧ ∀ p, H1 p = none → Q (.ref p) (upd H1 p (.tup xs))) : tTup t σ H Q := q
theorem s_lst {t : TA} (q : t σ H fun xs H1 => xs.length ≤ sizeLine ∧ ∀ p, H1 p = none → Q (.ref p) (upd H1 p (.lst xs))) : tLst t σ H Q := q
theorem s_sl {r : V → Option Int → Option Int → Hp → VK → Prop} {te : TE} {tl th : TO} (q : te σ H fun x H1 => tl σ H1 fun l H2 => th σ H2 fun u H3 => r x l u H3 Q) : tSl r te tl th σ H Q := q
theorem s_nopart {P : Option Int → Hp → Prop} (q : P none H) : tNoPart σ H P := q
theorem s_part {t : TE} {P : Option Int → Hp → Prop} (q : t σ H fun x H1 => ∃ i, x = .int i ∧ P (some i) H1) : tPart t σ H P := q
theorem s_exint {i : Int} {P : Int → Prop} (q : P i) : ∃ j, V.int i = .int j ∧ P j := ⟨i, rfl, q⟩
theorem s_exbl {b : Bool} {P : Bool → Prop} (q : P b) : ∃ c, V.bl b = .bl c ∧ P c := ⟨b, rfl, q⟩
theorem s_tif {c : TT} {ta tb : TE} (q : c σ H fun b H1 => if b = true then ta σ H1 Q else tb σ H1 Q) : tIf c ta tb σ H Q := q
-- tests
theorem s_test {t : TE} {P : Bool → Hp → Prop} (q : t σ H fun x H' => ∃ k, x = .bl k ∧ P k H') : tTest t σ H P := q
theorem s_B {t : TE} {P : Bool → Hp → Prop} (q : t σ H fun x H' => ∃ k, x = .bl k ∧ P k H') : tB t σ H P := q
theorem s_and {t u : TT} {P : Bool → Hp → Prop} (q : t σ H fun c H1 => if c = true then u σ H1 P else P false H1) : tAnd t u σ H P := q
theorem s_or {t u : TT} {P : Bool → Hp → Prop} (q : t σ H fun c H1 => if c = true then P true H1 else u σ H1 P) : tOr t u σ H P := q
theorem s_not {t : TT} {P : Bool → Hp → Prop} (q : t σ H fun c H1 => P (!c) H1) : tNot t σ H P := q
theorem s_andV {ta tb : TE} (q : ta σ H fun x H1 => ∃ c, x = .bl c ∧ if c = true then tb σ H1 Q else Q (.bl false) H1) : tAndV ta tb σ H Q := q
theorem s_orV {ta tb : TE} (q : ta σ H fun x H1 => ∃ c, x = .bl c ∧ if c = true then Q (.bl true) H1 else tb σ H1 Q) : tOrV ta tb σ H Q := q
theorem s_notV {ta : TE} (q : ta σ H fun x H1 => ∃ c, x = .bl c ∧ Q (.bl (!c)) H1) : tNotV ta σ H Q := q
theorem s_yes {P : Bool → Hp → Prop} (q : P true H) : tYes σ H P := q
-- branches
theorem s_iftt (q : A) : if true = true then A else B := by simpa using q
theorem s_ifff (q : B) : if false = true then A else B := by simpa using q
theorem s_ifd {p : Prop} [Decidable p] (h1 : p → A) (h2 : ¬ p → B) : if decide p = true then A else B := by
  by_cases h : p
  · simpa [h] using h1 h
  · simpa [h] using h2 h
theorem s_ifnd {p : Prop} [Decidable p] (h1 : ¬ p → A) (h2 : p → B) : if (!decide p) = true then A else B := by
  by_cases h : p
  · simpa [h] using h2 h
  · simpa [h] using h1 h
theorem s_ifb {b : Bool} (h1 : b = true → A) (h2 : b = false → B) : if b = true then A else B := by
  cases b
  · simpa using h2 rfl
  · simpa using h1 rfl
theorem s_ifnb {b : Bool} (h1 : b = false → A) (h2 : b = true → B) : if (!b) = true then A else B := by
  cases b
  · simpa using h1 rfl
  · simpa using h2 rfl
theorem s_ifeqI {i j : Int} (h1 : i = j → A) (h2 : i ≠ j → B) : if decide (V.int i = V.int j) = true then A else B := s_ifd (fun e => h1 (V.int.inj e)) fun n => h2 fun e => n (by rw [e])
theorem s_ifneI {i j : Int} (h1 : i ≠ j → A) (h2 : i = j → B) : if (!decide (V.int i = V.int j)) = true then A else B := s_ifnd (fun n => h1 fun e => n (by rw [e])) fun e => h2 (V.int.inj e)
theorem s_ifeqS {i j : Str} (h1 : i = j → A) (h2 : i ≠ j → B) : if decide (V.str i = V.str j) = true then A else B := s_ifd (fun e => h1 (V.str.inj e)) fun n => h2 fun e => n (by rw [e])
theorem s_ifno {p : Prop} [Decidable p] (h : ¬ p) (q : B) : if decide p = true then A else B := s_ifd (fun e => (h e).elim) fun _ => q
theorem s_ifyes {p : Prop} [Decidable p] (h : p) (q : A) : if decide p = true then A else B := s_ifd (fun _ => q) fun n => (n h).elim
-- ints
theorem s_plus {i j : Int} (q : Q (.int (i + j)) H) : rPlus (.int i) (.int j) H Q := ⟨i, j, rfl, rfl, q⟩
theorem s_radd {i j : Int} (q : Q (.int (i + j)) H) : rAdd (.int i) (.int j) H Q := ⟨i, j, rfl, rfl, q⟩
theorem s_rsub {i j : Int} (q : Q (.int (i - j)) H) : rSub (.int i) (.int j) H Q := ⟨i, j, rfl, rfl, q⟩
theorem s_ipI {f : Int → Int → Int} {i j : Int} (q : Q (.int (f i j)) H) : ipI f (.int i) (.int j) H Q := ⟨i, j, rfl, rfl, q⟩
theorem s_minus {i j : Int} (q : Q (.int (i - j)) H) : rMinus (.int i) (.int j) H Q := ⟨i, j, rfl, rfl, q⟩
theorem s_mul {i j : Int} (c : CMul i j) (q : Q (.int (i * j)) H) : rMul (.int i) (.int j) H Q := ⟨i, j, rfl, rfl, c, q⟩
theorem s_fdiv {i j : Int} (c : CDivW i j) (q : Q (.int (i / j)) H) : rFdiv (.int i) (.int j) H Q := ⟨i, j, rfl, rfl, c, q⟩
theorem s_mod {i j : Int} (c : 0 < j) (q : Q (.int (i % j)) H) : rMod (.int i) (.int j) H Q := ⟨i, j, rfl, rfl, c, q⟩
theorem s_pow {i j : Int} (c : CPow i j) (q : Q (.int (i ^ j.toNat)) H) : rPow (.int i) (.int j) H Q := ⟨i, j, rfl, rfl, c, q⟩
theorem s_lt {i j : Int} (q : Q (.bl (decide (i < j))) H) : rLt (.int i) (.int j) H Q := ⟨i, j, rfl, rfl, q⟩
theorem s_le {i j : Int} (q : Q (.bl (decide (i ≤ j))) H) : rLe (.int i) (.int j) H Q := ⟨i, j, rfl, rfl, q⟩
theorem s_gt {i j : Int} (q : Q (.bl (decide (j < i))) H) : rGt (.int i) (.int j) H Q := ⟨i, j, rfl, rfl, q⟩
theorem s_ge {i j : Int} (q : Q (.bl (decide (j ≤ i))) H) : rGe (.int i) (.int j) H Q := ⟨i, j, rfl, rfl, q⟩
theorem s_eq {x y : V} (c : scal x y = true) (q : Q (.bl (decide (x = y))) H) : rEq x y H Q := ⟨c, q⟩
theorem s_ne {x y : V} (c : scal x y = true) (q : Q (.bl (!decide (x = y))) H) : rNe x y H Q := ⟨c, q⟩
theorem s_isn {x : V} (q : Q (.bl (decide (x = .non))) H) : rIsN x .non H Q := ⟨rfl, q⟩
theorem s_notn {x : V} (q : Q (.bl (!decide (x = .non))) H) : rNotN x .non H Q := ⟨rfl, q⟩
theorem s_neg {i : Int} (q : Q (.int (-i)) H) : rNeg (.int i) H Q := ⟨i, rfl, q⟩
theorem s_abs {i : Int} (q : Q (.int (if i < 0 then -i else i)) H) : rAbs [.int i] H Q := ⟨i, rfl, q⟩
theorem s_min2 {i j : Int} (q : Q (.int (if j < i then j else i)) H) : rMin2 [.int i, .int j] H Q := ⟨i, j, rfl, q⟩
theorem s_max2 {i j : Int} (q : Q (.int (if j > i then j else i)) H) : rMax2 [.int i, .int j] H Q := ⟨i, j, rfl, q⟩
theorem s_int1b {b : Bool} (q : Q (.int (if b then 1 else 0)) H) : rInt1 [.bl b] H Q := .inr ⟨b, rfl, q⟩
theorem s_int1i {i : Int} (q : Q (.int i) H) : rInt1 [.int i] H Q := .inl ⟨i, rfl, q⟩
-- objects
def obj (C a : Addr) (fs : List (Str × V)) : HP := HP.exi fun dx => pt a (.ins C dx fs)
theorem At.ob {C a : Addr} {fs : List (Str × V)} (h : At F0 H0 L H) (s : Sel (obj C a fs) L L1) : ∃ dx, H a = some (.ins C dx fs) := h.know s fun _ ⟨dx, k⟩ => ⟨dx, k.2⟩
theorem s_kF {C a : Addr} {fs : List (Str × V)} {f : Str} {v : V} (h : At F0 H0 L H) (s : Sel (obj C a fs) L L1) (l : fs.lookup f = some v) (q : Q v H) : kF C f (.ref a) H Q := by
  obtain ⟨dx, e⟩ := h.ob s
  exact ⟨a, dx, fs, v, rfl, e, l, q⟩
theorem s_kS {C a : Addr} {fs fs' : List (Str × V)} {f : Str} {v : V} {P : Hp → Prop} (h : At F0 H0 L H) (s : Sel (obj C a fs) L L1) (l : putF f v fs = fs') (z : fs.length < 1000) (q : ∀ H', At F0 H0 (obj C a fs' :: L1) H' → P H') : kS C f v (.ref a) H P := by
  obtain ⟨dx, h1⟩ := (h.sel s).exE
  refine ⟨a, dx, fs, rfl, h1.get .here, z, q _ ?_⟩
  subst l
  exact (h1.set' rfl).exI dx
theorem s_kIns {C a : Addr} {fs : List (Str × V)} {m : Str} (h : At F0 H0 L H) (s : Sel (obj C a fs) L L1) (l : fs.lookup m = none) : kIns C m (.ref a) H := by
  obtain ⟨dx, e⟩ := h.ob s
  exact ⟨a, dx, fs, rfl, e, l⟩
-- new objects
theorem s_new {o : HO} (h : At F0 H0 L H) (q : ∀ p H', At F0 H0 (pt p o :: L) H' → Q (.ref p) H') (d : fixed o = false := by rfl) : ∀ p, H p = none → Q (.ref p) (upd H p o) := fun p hp => q p _ (h.new hp d)
theorem s_newZ {o : HO} {n : Nat} (h : At F0 H0 L H) (z : n ≤ sizeLine) (q : ∀ p H', At F0 H0 (pt p o :: L) H' → Q (.ref p) H') (d : fixed o = false := by rfl) : n ≤ sizeLine ∧ ∀ p, H p = none → Q (.ref p) (upd H p o) := ⟨z, s_new h q d⟩
theorem s_newT {xs : List V} {n : Nat} (h : At F0 H0 L H) (z : n ≤ sizeLine) (q : ∀ p H', At F0 H0 (tp p xs :: L) H' → Q (.ref p) H') : n ≤ sizeLine ∧ ∀ p, H p = none → Q (.ref p) (upd H p (.tup xs)) := ⟨z, fun p hp => q p _ (h.newX hp rfl)⟩
theorem s_newI {C : Addr} {P : Addr → Hp → Prop} (h : At F0 H0 L H) (q : ∀ x H', At F0 H0 (obj C x [] :: L) H' → P x H') : ∀ x dx, H x = none → H dx = none → dx ≠ x → P x (upd (upd H dx (.own x)) x (.ins C dx [])) := fun x dx hx hdx ne => by
  have h1 := h.other hdx (o := .own x) rfl
  have h2 : upd H dx (.own x) x = none := by rw [upd_ne (Ne.symm ne)]; exact hx
  exact q x _ ((h1.new h2 (o := .ins C dx []) rfl).exI dx)
theorem sqL_at {a : Addr} {xs : List V} (h : At F0 H0 L H) (s : Sel (pt a (.lst xs)) L L1) : SqL K H a xs := .of (h.get s)
theorem sqL_fz {a : Addr} {xs : List V} {o : Obj} (h : At F0 H0 L H) (s : Sel (fx a (.frz o (.lst xs))) L L1) : SqL K H a xs := .inl (.inr ⟨o, h.getX s⟩)
theorem sqT_at {a : Addr} {xs : List V} (h : At F0 H0 L H) (s : Sel (tp a xs) L L1) : SqT K H a xs := .of (h.getX s)
theorem s_ixL {a : Addr} {xs : List V} {i : Int} {v : V} (h : SqL K H a xs) (l : atI xs i = some v) (q : Q v H) : rIxL K (.ref a) (.int i) H Q := ⟨a, xs, i, v, rfl, rfl, h, l, q⟩
theorem s_ixT {a : Addr} {xs : List V} {i : Int} {v : V} (h : SqT K H a xs) (l : atI xs i = some v) (q : Q v H) : rIxT K (.ref a) (.int i) H Q := ⟨a, xs, i, v, rfl, rfl, h, l, q⟩
theorem s_setL {a : Addr} {xs : List V} {i : Int} {j : Nat} {v : V} {P : Hp → Prop} (h : At F0 H0 L H) (s : Sel (pt a (.lst xs)) L L1) (l : ixN xs.length i = some j) (q : ∀ H', At F0 H0 (pt a (.lst (xs.set j v)) :: L1) H' → P H') : rSetL (.ref a) (.int i) v H P :=
  ⟨a, xs, i, j, rfl, rfl, h.get s, l, q _ (h.set s)⟩
theorem s_append {a : Addr} {xs : List V} {y : V} (h : At F0 H0 L H) (s : Sel (pt a (.lst xs)) L L1) (z : xs.length < sizeLine) (q : ∀ H', At F0 H0 (pt a (.lst (xs ++ [y])) :: L1) H' → Q .non H') : rAppend (.ref a) [y] H Q :=
  ⟨a, xs, y, rfl, rfl, h.get s, z, q _ (h.set s)⟩
theorem s_reverse {a : Addr} {xs : List V} (h : At F0 H0 L H) (s : Sel (pt a (.lst xs)) L L1) (q : ∀ H', At F0 H0 (pt a (.lst xs.reverse) :: L1) H' → Q .non H') : rReverse (.ref a) [] H Q :=
  ⟨a, xs, rfl, rfl, h.get s, q _ (h.set s)⟩
theorem s_extend {a b : Addr} {xs zs : List V} {L2 : List HP} (h : At F0 H0 L H) (s : Sel (pt a (.lst xs)) L L1) (s2 : Sel (pt b (.lst zs)) L1 L2) (z : xs.length + zs.length ≤ sizeLine) (q : ∀ H', At F0 H0 (pt a (.lst (xs ++ zs)) :: L1) H' → Q .non H') : rExtend (.ref a) [.ref b] H Q :=
  ⟨a, b, xs, zs, rfl, rfl, h.get s, (h.sel s).get (.there s2), z, q _ (h.set s)⟩
theorem s_bm {T : String} {r : V → List V → Hp → VK → Prop} {to : TE} {t : TA} (q : to σ H fun x H1 => tyV K T x H1 ∧ t σ H1 fun xs H2 => r x xs H2 Q) : tBM K T r to t σ H Q := q
theorem s_bm0 {T : String} {r : V → List V → Hp → VK → Prop} {to : TE} (q : to σ H fun x H1 => tyV K T x H1 ∧ r x [] H1 Q) : tBM0 K T r to σ H Q := q
theorem s_tyL {a : Addr} {xs : List V} (h : SqL K H a xs) (q : A) : tyV K "list" (.ref a) H ∧ A := ⟨.inl ⟨rfl, xs, h⟩, q⟩
theorem s_tyS {z : Str} (q : A) : tyV K "str" (.str z) H ∧ A := ⟨rfl, q⟩
theorem s_len {a : Addr} {xs : List V} (h : SqL K H a xs) (q : Q (.int (xs.length : Int)) H) : rLen K [.ref a] H Q := ⟨.ref a, xs.length, rfl, .inl ⟨xs, h, rfl⟩, q⟩
theorem s_lenT {a : Addr} {xs : List V} (h : SqT K H a xs) (q : Q (.int (xs.length : Int)) H) : rLen K [.ref a] H Q := ⟨.ref a, xs.length, rfl, .inr ⟨xs, h, rfl⟩, q⟩
theorem s_lenS {z : Str} (h : z.length ≤ sizeLine) (q : Q (.int (z.length : Int)) H) : rLen K [.str z] H Q := ⟨.str z, z.length, rfl, ⟨h, rfl⟩, q⟩
theorem s_cat {a b : Addr} {xs zs : List V} {L2 : List HP} (h : At F0 H0 L H) (s : Sel (pt a (.lst xs)) L L1) (s2 : Sel (pt b (.lst zs)) L L2) (z : xs.length + zs.length ≤ sizeLine) (q : ∀ p H', At F0 H0 (pt p (.lst (xs ++ zs)) :: L) H' → Q (.ref p) H') : rCat (.ref a) (.ref b) H Q :=
  ⟨a, b, xs, zs, rfl, rfl, h.get s, h.get s2, z, s_new h q⟩
theorem s_rep {a : Addr} {k : Int} {xs : List V} (h : At F0 H0 L H) (s : Sel (pt a (.lst xs)) L L1) (k1 : -(2 ^ 63) ≤ k) (k2 : k < 2 ^ 63) (z : xs.length * k.toNat ≤ sizeLine) (q : ∀ p H', At F0 H0 (pt p (.lst (List.replicate k.toNat xs).flatten) :: L) H' → Q (.ref p) H') : rRep (.ref a) (.int k) H Q :=
  ⟨a, k, xs, rfl, rfl, h.get s, k1, k2, z, s_new h q⟩
theorem s_listOf {a : Addr} {xs : List V} (h : At F0 H0 L H) (s : SqL K H a xs ∨ SqT K H a xs) (q : ∀ p H', At F0 H0 (pt p (.lst xs) :: L) H' → Q (.ref p) H') : rListOf K [.ref a] H Q := ⟨a, xs, rfl, s, s_new h q⟩
theorem s_listD {a : Addr} {kvs : List (Key × V)} (h : At F0 H0 L H) (s : Sel (pt a (.dK kvs)) L L1) (q : ∀ p H', At F0 H0 (pt p (.lst (kvs.map fun kv => kV kv.1)) :: L) H' → Q (.ref p) H') : rListD [.ref a] H Q := ⟨a, kvs, rfl, h.get s, s_new h q⟩
theorem s_slL {a : Addr} {xs : List V} {lo hi : Option Int} (h : At F0 H0 L H) (s : SqL K H a xs) (q : ∀ p H', At F0 H0 (pt p (.lst (cutV xs lo hi)) :: L) H' → Q (.ref p) H') : rSlL K (.ref a) lo hi H Q := ⟨a, xs, rfl, s, s_new h q⟩
theorem s_dnewK (h : At F0 H0 L H) (q : ∀ p H', At F0 H0 (pt p (.dK []) :: L) H' → Q (.ref p) H') : tDNewK σ H Q := s_new h q
theorem s_dnewT (h : At F0 H0 L H) (q : ∀ p H', At F0 H0 (pt p (.dT []) :: L) H' → Q (.ref p) H') : tDNewT σ H Q := s_new h q
theorem s_dput {td ty tv : TE} (q : tv σ H fun v H1 => td σ H1 fun x H2 => ty σ H2 fun y H3 => ∃ a H4, x = .ref a ∧ DPut H3 a y v H4 ∧ D.nx σ H4) : sDPut td ty tv D σ H := q
theorem s_dputK {a : Addr} {kvs : List (Key × V)} {k : Key} {y v : V} {P : Hp → Prop} (h : At F0 H0 L H) (s : Sel (pt a (.dK kvs)) L L1) (ek : kV k = y) (z : kvs.length < sizeLine) (q : ∀ H', At F0 H0 (pt a (.dK (putK kvs k v)) :: L1) H' → P H') : ∃ a' H4, V.ref a = .ref a' ∧ DPut H a' y v H4 ∧ P H4 :=
  ⟨a, _, rfl, ek ▸ DPut.k (h.get s) z, q _ (h.set s)⟩
theorem s_dget {td ty : TE} (q : td σ H fun x H1 => ty σ H1 fun y H2 => ∃ a v, x = .ref a ∧ DGet H2 a y (some v) ∧ Q v H2) : tDGet td ty σ H Q := q
theorem s_dgetK {a : Addr} {kvs : List (Key × V)} {k : Key} {y v : V} (h : At F0 H0 L H) (s : Sel (pt a (.dK kvs)) L L1) (ek : kV k = y) (e : valV kvs k = some v) (q : Q v H) : ∃ a' v', V.ref a = .ref a' ∧ DGet H a' y (some v') ∧ Q v' H :=
  ⟨a, v, rfl, ek ▸ e ▸ DGet.k (h.get s), q⟩
theorem s_dget2 {td ty tx : TE} (q : td σ H fun x H1 => ∃ a, x = .ref a ∧ IsD H1 a ∧ ty σ H1 fun y H2 => tx σ H2 fun z H3 => ∃ o, DGet H3 a y o ∧ Q (o.getD z) H3) : tDGet2 td ty tx σ H Q := q
theorem s_isd {a : Addr} {kvs : List (Key × V)} {P : Addr → Prop} (h : At F0 H0 L H) (s : Sel (pt a (.dK kvs)) L L1) (q : P a) : ∃ a', V.ref a = .ref a' ∧ IsD H a' ∧ P a' := ⟨a, rfl, .inl ⟨kvs, .inl (h.get s)⟩, q⟩
theorem s_dgetO {a : Addr} {kvs : List (Key × V)} {k : Key} {y z : V} (h : At F0 H0 L H) (s : Sel (pt a (.dK kvs)) L L1) (ek : kV k = y) (q : Q ((valV kvs k).getD z) H) : ∃ o, DGet H a y o ∧ Q (o.getD z) H := ⟨_, ek ▸ DGet.k (h.get s), q⟩
theorem s_din {ty td : TE} (q : ty σ H fun y H1 => td σ H1 fun x H2 => ∃ a o, x = .ref a ∧ DGet H2 a y o ∧ Q (.bl o.isSome) H2) : tDIn ty td σ H Q := q
theorem s_dnotin {ty td : TE} (q : ty σ H fun y H1 => td σ H1 fun x H2 => ∃ a o, x = .ref a ∧ DGet H2 a y o ∧ Q (.bl (!o.isSome)) H2) : tDNotIn ty td σ H Q := q
theorem s_dinK {a : Addr} {kvs : List (Key × V)} {k : Key} {y : V} {P : Option V → Prop} (h : At F0 H0 L H) (s : Sel (pt a (.dK kvs)) L L1) (ek : kV k = y) (q : P (valV kvs k)) : ∃ a' o, V.ref a = .ref a' ∧ DGet H a' y o ∧ P o := ⟨a, _, rfl, ek ▸ DGet.k (h.get s), q⟩
theorem s_lenD {a : Addr} {kvs : List (Key × V)} (h : At F0 H0 L H) (s : Sel (pt a (.dK kvs)) L L1) (q : Q (.int (kvs.length : Int)) H) : rLenD [.ref a] H Q := ⟨a, kvs, rfl, h.get s, q⟩
theorem s_eqD {x y : V} {d e : PyData} (h1 : Dp K H x d) (h2 : Dp K H y e) (s1 : SeqAt.shaped d = true) (s2 : SeqAt.shaped e = true) (q : Q (.bl (PyData.eqv d e)) H) : rEqD K x y H Q := ⟨d, e, h1, h2, s1, s2, q⟩
theorem s_neD {x y : V} {d e : PyData} (h1 : Dp K H x d) (h2 : Dp K H y e) (s1 : SeqAt.shaped d = true) (s2 : SeqAt.shaped e = true) (q : Q (.bl (!PyData.eqv d e)) H) : rNeD K x y H Q := ⟨d, e, h1, h2, s1, s2, q⟩
-- loops
theorem s_for {wi : TI} {g : TG} {tb : TS} (q : wi σ H fun J H1 => ∃ W : Nat → Nat → L2.St → Hp → Prop, (∃ m, W 0 m σ H1) ∧ ∀ i m σ H, W i m σ H →
  (J.stop i H ∧ D.nx σ H) ∨ (J.go i H ∧ ∃ N : L2.St → Hp → Prop, (∀ σ' H', N σ' H' → ∃ m', m' < m ∧ W (i + 1) m' σ' H') ∧ ∀ x H', J.yld i H x H' → g x σ H' fun σ2 H2 => tb { D with nx := N, ct := N, bk := D.nx } σ2 H2)) : tFor wi g tb D σ H := q
theorem s_irng1 {ta : TA} {R : It → Hp → Prop} (q : ta σ H fun vs H1 => ∃ j : Int, vs = [.int j] ∧ -(2 ^ 62) ≤ j ∧ j < 2 ^ 62 ∧ R (Itr 0 j.toNat) H1) : iRng1 ta σ H R := q
theorem s_irng1' {i : Int} {R : It → Hp → Prop} (a : -(2 ^ 62) ≤ i) (b : i < 2 ^ 62) (q : R (Itr 0 i.toNat) H) : ∃ j : Int, [V.int i] = [.int j] ∧ -(2 ^ 62) ≤ j ∧ j < 2 ^ 62 ∧ R (Itr 0 j.toNat) H := ⟨i, rfl, a, b, q⟩
theorem s_ilist {tl : TE} {R : It → Hp → Prop} (q : tl σ H fun x H1 => ∃ a, x = .ref a ∧ (∃ xs, SqL K H1 a xs) ∧ R (Itl K a) H1) : iList K tl σ H R := q
theorem s_ilist' {a : Addr} {xs : List V} {P : Addr → Prop} (h : SqL K H a xs) (q : P a) : ∃ a', V.ref a = .ref a' ∧ (∃ xs, SqL K H a' xs) ∧ P a' := ⟨a, rfl, ⟨xs, h⟩, q⟩
theorem s_ienum {ta : TA} {R : It → Hp → Prop} (q : ta σ H fun vs H1 => ∃ a xs, vs = [.ref a] ∧ SqL K H1 a xs ∧ R (Ite K a) H1) : iEnum K ta σ H R := q
theorem s_ienum' {a : Addr} {xs : List V} {P : Addr → Prop} (h : SqL K H a xs) (q : P a) : ∃ a' xs', [V.ref a] = [.ref a'] ∧ SqL K H a' xs' ∧ P a' := ⟨a, xs, rfl, h, q⟩
theorem s_while {c : TT} {tb : TS} (q : ∃ W : Nat → L2.St → Hp → Prop, (∃ m, W m σ H) ∧ ∀ m σ H, W m σ H → c σ H fun b H1 => if b = true then ∃ N : L2.St → Hp → Prop, (∀ σ' H', N σ' H' → ∃ m', m' < m ∧ W m' σ' H') ∧ tb { D with nx := N, ct := N, bk := D.nx } σ H1 else D.nx σ H1) : tWhile c tb D σ H := q
theorem s_lc {wi : TI} {g : TG} {tt : TT} {te : TE} {vs : List Nat} (q : wi σ H fun J H1 => ∀ D, H1 D = none → ∃ W : Nat → Nat → Hp → Prop, (∃ m, W 0 m (upd H1 D (.lst []))) ∧ ∀ i m H, W i m H →
      (J.stop i H ∧ Q (.ref D) H) ∨ (J.go i H ∧ ∃ Nx : Hp → Prop, (∀ H', Nx H' → ∃ m', m' < m ∧ W (i + 1) m' H') ∧ ∀ x H', J.yld i H x H' → g x (wipe σ vs) H' fun σ2 H2 => wipe σ2 vs = wipe σ vs ∧ tt σ2 H2 fun b H3 =>
        if b = true then te σ2 H3 fun y H4 => ∃ acc, H4 D = some (.lst acc) ∧ acc.length < sizeLine ∧ Nx (upd H4 D (.lst (acc ++ [y]))) else Nx H3)) : tLc wi g tt te vs σ H Q := q
end
end S
set_option Elab.async false
set_option linter.all false
set_option maxRecDepth 100000
set_option maxHeartbeats 1000000
namespace S
open PySem PySem.Spec L2
/-! ### lists of ints at addresses -/
abbrev il (r : List Int) : HO := .lst (r.map V.int)
def rowsL : List Addr → List (List Int) → List HP
  | a :: as, r :: rs => pt a (il r) :: rowsL as rs
  | _, _ => []
theorem rowsL_sel : ∀ {as : List Addr} {rs : List (List Int)} {n : Nat} {a : Addr} {r : List Int}, as[n]? = some a → rs[n]? = some r → Sel (pt a (il r)) (rowsL as rs) (rowsL (as.eraseIdx n) (rs.eraseIdx n))
  | a :: as, r :: rs, 0, _, _, h1, h2 => by
    cases h1; cases h2; exact .here
  | a :: as, r :: rs, n + 1, _, _, h1, h2 => .there (rowsL_sel (as := as) (rs := rs) (n := n) h1 h2)
  | [], _, _, _, _, h, _ => by simp at h
  | _ :: _, [], _, _, _, _, h => by simp at h
theorem rowsL_put : ∀ {as : List Addr} {rs : List (List Int)} {n : Nat} {p : Addr} {r : List Int}, n < as.length → n < rs.length → Sel (pt p (il r)) (rowsL (as.set n p) (rs.set n r)) (rowsL (as.eraseIdx n) (rs.eraseIdx n))
  | a :: as, r :: rs, 0, _, _, h1, h2 => .here
  | a :: as, r :: rs, n + 1, _, _, h1, h2 => .there (rowsL_put (as := as) (rs := rs) (n := n) (Nat.lt_of_succ_lt_succ h1) (Nat.lt_of_succ_lt_succ h2))
  | [], _, _, _, _, h, _ => by simp at h
  | _ :: _, [], _, _, _, _, h => by simp at h
theorem Sel.back {P : HP} {L L1 : List HP} (s : Sel P L L1) : ∀ {F : FP} {H : Hp}, S.sep (P :: L1) F H → S.sep L F H := by
  induction s with
  | here => exact fun h => h
  | there s ih =>
    intro F H h
    obtain ⟨F1, F2, h1, h2, h3, h4, h5⟩ := h
    obtain ⟨G1, G2, g1, g2, g3, g4, g5⟩ := h5
    exact ⟨G1, fun a => F1 a ∨ G1 a ∧ False ∨ G2 a, fun a q => h2 a (g1 a q), fun a q => by
      rcases q with q | q | q
      · exact h1 a q
      · exact q.2.elim
      · exact h2 a (g2 a q), fun a q r => by
      rcases r with r | r | r
      · exact h3 a r (g1 a q)
      · exact r.2
      · exact g3 a q r, g4,
      ih ⟨F1, G2, fun _ => .inl, fun _ q => .inr (.inr q), fun a q r => h3 a q (g2 a r), h4, g5⟩⟩
theorem Sel.app {A B M : List HP} {P : HP} (s : Sel P A B) : Sel P (A ++ M) (B ++ M) := by
  induction s with
  | here => exact .here
  | there _ ih => exact .there ih
def rows (as : List Addr) (rs : List (List Int)) : HP := HP.pur (as.length = rs.length) (HP.all (rowsL as rs))
theorem Tri.open {Pre : List HP} {R : V → List HP → Prop} {RE : Value → Option Addr → List HP → Prop} {H : Hp} {Q : VK} {E : XK} (t : Tri Pre R RE H Q E) :
    ∃ F, At F H Pre H ∧ (∀ v L' H', R v L' → At F H L' H' → Q v H') ∧ (∀ c d L' H', RE c d L' → At F H L' H' → E c d H') := by
  obtain ⟨F, h1, h2, h3, h4⟩ := t
  exact ⟨F, At.start h1 h2, h3, h4⟩
section
variable {F0 : FP} {H0 H : Hp} {L L1 L2 : List HP} {as : List Addr} {rs : List (List Int)} {n : Nat} {a p : Addr} {r : List Int}
theorem At.rowsLen (h : At F0 H0 L H) (s : Sel (rows as rs) L L1) : as.length = rs.length := h.know s fun _ k => k.1
theorem At.rowsAt (h : At F0 H0 L H) (s : Sel (rows as rs) L L1) (h2 : rs[n]? = some r) : ∃ a, as[n]? = some a ∧ H a = some (il r) := by
  have e := h.rowsLen s
  have l : n < rs.length := (List.getElem?_eq_some_iff.mp h2).1
  have l2 : n < as.length := by omega
  exact ⟨as[n], by simp [l2], (h.sel s).purE.2.allE.get (rowsL_sel (by simp [l2]) h2).app⟩
theorem At.rowsPut (h : At F0 H0 (pt p (il r) :: rows as rs :: L) H) (h1 : n < rs.length) : At F0 H0 (rows (as.set n p) (rs.set n r) :: L) H := by
  obtain ⟨F, ⟨F1, F2, a1, a2, a3, a4, G1, G2, b1, b2, b3, ⟨b4, b5⟩, b6⟩, h2, h3, h4⟩ := h.ex
  have l1 : n < as.length := by rw [b4]; exact h1
  obtain ⟨a, ha⟩ : ∃ a, as[n]? = some a := ⟨as[n], by simp [l1]⟩
  obtain ⟨r0, hr⟩ : ∃ r0, rs[n]? = some r0 := ⟨rs[n], by simp [h1]⟩
  obtain ⟨g1, g2, c1, c2, c3, c4, c5⟩ := (rowsL_sel ha hr).sep b5
  have z : S.sep (rowsL (as.set n p) (rs.set n r)) (fun a => F1 a ∨ G1 a) H := (rowsL_put l1 h1).back ⟨F1, g2, fun _ => .inl, fun x q => .inr (c2 x q), fun x q q2 => a3 x q (b1 x (c2 x q2)), a4, c5⟩
  exact ⟨F, ⟨fun a => F1 a ∨ G1 a, G2, fun x q => q.elim (a1 x) fun q => a2 x (b1 x q), fun x q => a2 x (b2 x q), fun x q q2 => q.elim (fun q => a3 x q (b2 x q2)) fun q => b3 x q q2, ⟨by simpa using b4, z⟩, b6⟩, h2, h3, h4⟩
theorem At.rowsNil (h : At F0 H0 L H) : At F0 H0 (rows [] [] :: L) H := by
  obtain ⟨F, h1, h2, h3, h4⟩ := h.ex
  exact ⟨F, ⟨fun _ => False, F, fun _ q => q.elim, fun _ q => q, fun _ q _ => q, ⟨rfl, trivial⟩, h1⟩, h2, h3, h4⟩
theorem rowsL_snoc : ∀ {as : List Addr} {rs : List (List Int)}, as.length = rs.length → rowsL (as ++ [p]) (rs ++ [r]) = rowsL as rs ++ [pt p (il r)]
  | [], [], _ => rfl
  | a :: as, r :: rs, h => by
    show pt a (il r) :: rowsL (as ++ [p]) (rs ++ [_]) = _
    rw [rowsL_snoc (by simpa using h)]; rfl
  | [], _ :: _, h => by simp at h
  | _ :: _, [], h => by simp at h
theorem At.rowsSnoc (h : At F0 H0 (pt p (il r) :: rows as rs :: L) H) : At F0 H0 (rows (as ++ [p]) (rs ++ [r]) :: L) H := by
  obtain ⟨F, ⟨F1, F2, a1, a2, a3, a4, G1, G2, b1, b2, b3, ⟨b4, b5⟩, b6⟩, h2, h3, h4⟩ := h.ex
  have z : S.sep (rowsL as rs ++ [pt p (il r)]) (fun a => G1 a ∨ F1 a) H := sep.join (fun x q q2 => a3 x q2 (b1 x q)) b5 ⟨F1, fun _ => False, fun _ q => q, fun _ q => q.elim, fun _ _ q => q, a4, trivial⟩
  exact ⟨F, ⟨fun a => G1 a ∨ F1 a, G2, fun x q => q.elim (fun q => a2 x (b1 x q)) (a1 x), fun x q => a2 x (b2 x q), fun x q q2 => q.elim (fun q => b3 x q q2) fun q => a3 x q (b2 x q2), ⟨by simp [b4], by rw [rowsL_snoc b4]; exact z⟩, b6⟩, h2, h3, h4⟩
/-- rows taken out one by one, left off -/
theorem At.rowsPop (h : At F0 H0 L H) (s : Sel (rows as rs) L L1) (h1 : as[n]? = some a) (h2 : rs[n]? = some r) : At F0 H0 (pt a (il r) :: rows (as.eraseIdx n) (rs.eraseIdx n) :: L1) H := by
  obtain ⟨F, ⟨F1, F2, a1, a2, a3, ⟨b4, b5⟩, b6⟩, k2, k3, k4⟩ := (h.sel s).ex
  obtain ⟨g1, g2, c1, c2, c3, c4, c5⟩ := (rowsL_sel h1 h2).sep b5
  exact ⟨F, ⟨g1, fun x => g2 x ∨ F2 x, fun x q => a1 x (c1 x q), fun x q => q.elim (fun q => a1 x (c2 x q)) (a2 x), fun x q q2 => q2.elim (c3 x q) (a3 x (c1 x q)), c4,
    g2, F2, fun _ => .inl, fun _ => .inr, fun x q q2 => a3 x (c2 x q) q2, ⟨by
      have l1 := (List.getElem?_eq_some_iff.mp h1).1
      have l2 := (List.getElem?_eq_some_iff.mp h2).1
      rw [List.length_eraseIdx, List.length_eraseIdx, if_pos l1, if_pos l2, b4], c5⟩, b6⟩, k2, k3, k4⟩
end

/-! ### the draws' tape: three ints; n: at most so many draws were mixed -/
def tape (a : Addr) (n : Nat) : HP := HP.exi fun x : Int => HP.exi fun y : Int => HP.exi fun z : Int => HP.pur (0 ≤ x ∧ 0 ≤ y ∧ y < 2 ^ 62 ∧ 0 ≤ z ∧ z ≤ n) (pt a (.lst [.int x, .int y, .int z]))
theorem At.tapeE {F0 : FP} {H0 H : Hp} {L : List HP} {a : Addr} {n : Nat} (h : At F0 H0 (tape a n :: L) H) : ∃ x y z : Int, (0 ≤ x ∧ 0 ≤ y ∧ y < 2 ^ 62 ∧ 0 ≤ z ∧ z ≤ n) ∧ At F0 H0 (pt a (.lst [.int x, .int y, .int z]) :: L) H := by
  obtain ⟨x, h⟩ := h.exE
  obtain ⟨y, h⟩ := h.exE
  obtain ⟨z, h⟩ := h.exE
  exact ⟨x, y, z, h.purE⟩
theorem At.tapeI {F0 : FP} {H0 H : Hp} {L : List HP} {a : Addr} {n : Nat} {x y z : Int} (h : At F0 H0 (pt a (.lst [.int x, .int y, .int z]) :: L) H) (q : 0 ≤ x ∧ 0 ≤ y ∧ y < 2 ^ 62 ∧ 0 ≤ z ∧ z ≤ n) : At F0 H0 (tape a n :: L) H :=
  ((h.purI q).exI z |>.exI y).exI x
theorem At.tapeUp {F0 : FP} {H0 H : Hp} {L L1 : List HP} {a : Addr} {n m : Nat} (h : At F0 H0 L H) (s : Sel (tape a n) L L1) (l : n ≤ m) : At F0 H0 (tape a m :: L1) H := by
  obtain ⟨x, y, z, q, h⟩ := (h.sel s).tapeE
  exact h.tapeI (by omega)
/-- a draw: something below many -/
def sp_draw : Sp := fun vs H Q E => ∃ (a : Addr) (n : Nat) (m : Int), vs = [.ref a, .int m] ∧ 0 < m ∧ m ≤ 2 ^ 62 ∧ n < 2 ^ 40 ∧
  Tri [tape a n] (fun v L' => ∃ r : Int, v = .int r ∧ 0 ≤ r ∧ r < m ∧ L' = [tape a (n + 1)]) (fun _ _ _ => False) H Q E
end S
namespace S
open PySem PySem.Spec L2
/-! ### the law's script -/
def scr (K : PySem.W.Frag) (a : Addr) (ns : List Int) : HP := ⟨fun _ H => (∃ o, H a = some (.frz o (il ns))) ∨ SqL K (fun _ => none) a (ns.map V.int), fun h k => by
  rcases h with ⟨o, h⟩ | h
  · exact .inl ⟨o, k _ _ (.inr rfl) h⟩
  · exact .inr h⟩
theorem At.scr {K : PySem.W.Frag} {F0 : FP} {H0 H : Hp} {L L1 : List HP} {a : Addr} {ns : List Int} (h : At F0 H0 L H) (s : Sel (S.scr K a ns) L L1) : SqL K H a (ns.map V.int) := h.know s fun _ k => by
  rcases k with ⟨o, k⟩ | k | k
  · exact .inl (.inr ⟨o, k⟩)
  · rcases k with k | ⟨o, k⟩ <;> cases k
  · exact .inr k
theorem At.law {K : PySem.W.Frag} {H : Hp} {a : Addr} {ns : List Int} (hO : Only H) (hS : SqL K H a (ns.map V.int)) : At (fun _ => False) H [S.scr K a ns] H := by
  refine At.start ⟨fun _ => False, fun _ => False, fun _ q => q, fun _ q => q, fun _ q _ => q, ?_, trivial⟩ fun _ q => q.elim
  rcases hS with (h | ⟨o, h⟩) | h
  · rcases hO a with q | ⟨o, xs, q⟩
    · rw [q] at h; cases h
    · rw [q] at h; cases h
  · exact .inl ⟨o, h⟩
  · exact .inr (.inr h)
/-! ### a tape is made of the script -/
def sp_tape (K : PySem.W.Frag) : Sp := fun vs H Q E => ∃ (a : Addr) (ns : List Int) (k : Int), vs = [.ref a, .int k] ∧ 0 ≤ k ∧ k < 2 ^ 20 ∧
  Tri [S.scr K a ns] (fun v L' => ∃ p, v = .ref p ∧ L' = [tape p 0, S.scr K a ns]) (fun _ _ _ => False) H Q E
end S
set_option Elab.async false
set_option linter.all false
set_option maxRecDepth 100000
set_option maxHeartbeats 1000000
namespace S
open PySem PySem.Spec L2
section
variable {K : PySem.W.Frag} {F0 : FP} {H0 H : Hp} {L L1 : List HP} {D : Ends} {σ : L2.St} {Q : VK} {W : WX} {A B : Prop}
def newL (xs : List V) (H : Hp) (Q : VK) : Prop := xs.length ≤ sizeLine ∧ ∀ p, H p = none → Q (.ref p) (upd H p (.lst xs))
def newT (xs : List V) (H : Hp) (Q : VK) : Prop := xs.length ≤ sizeLine ∧ ∀ p, H p = none → Q (.ref p) (upd H p (.tup xs))
def newI (C : Addr) (H : Hp) (P : Addr → Hp → Prop) : Prop := ∀ x dx, H x = none → H dx = none → dx ≠ x → P x (upd (upd H dx (.own x)) x (.ins C dx []))
theorem s_newL {xs : List V} (h : At F0 H0 L H) (z : xs.length ≤ sizeLine) (q : ∀ p H', At F0 H0 (pt p (.lst xs) :: L) H' → Q (.ref p) H') : newL xs H Q := ⟨z, s_new h q⟩
theorem s_newTp {xs : List V} (h : At F0 H0 L H) (z : xs.length ≤ sizeLine) (q : ∀ p H', At F0 H0 (tp p xs :: L) H' → Q (.ref p) H') : newT xs H Q := ⟨z, fun p hp => q p _ (h.newX hp rfl)⟩
theorem s_newIn {C : Addr} {P : Addr → Hp → Prop} (h : At F0 H0 L H) (q : ∀ x H', At F0 H0 (obj C x [] :: L) H' → P x H') : newI C H P := s_newI h q
theorem q_asg {te : TE} {g : TG} : tAsg te g D σ H = te σ H fun x H1 => g x σ H1 D.nx := rfl
theorem q_drop {te : TE} : tDrop te D σ H = te σ H fun _ H1 => D.nx σ H1 := rfl
theorem q_ret {te : TE} : tRet te D σ H = te σ H D.rt := rfl
theorem q_retN : tRetN D σ H = D.rt .non H := rfl
theorem q_ifS {c : TT} {t u : TS} : tIfS c t u D σ H = c σ H fun b H1 => if b = true then t D σ H1 else u D σ H1 := rfl
theorem q_next : tNext D σ H = D.nx σ H := rfl
theorem q_break : tBreak D σ H = D.bk σ H := rfl
theorem q_cont : tCont D σ H = D.ct σ H := rfl
theorem q_raise {C : Addr} : tRaise C W D σ H = W (.ref C) none σ H := rfl
theorem q_wd {E : XK} {c : Value} {d : Option Addr} : WD E c d σ H = E c d H := rfl
theorem q_we {c : Value} {d : Option Addr} : WE W σ c d H = W c d σ H := rfl
theorem q_par {i j : Nat} {ta : TA} : tPar i j ta D σ H = ta σ H fun vs H1 => ∃ v w, vs = [v, w] ∧ D.nx ((σ.set i (some v)).set j (some w)) H1 := rfl
theorem q_par2 {v w : V} {P : V → V → Prop} : (∃ v' w', [v, w] = [v', w'] ∧ P v' w') = P v w := propext ⟨fun ⟨_, _, e, q⟩ => by cases e; exact q, fun q => ⟨v, w, rfl, q⟩⟩
theorem q_gname {i : Nat} {v : V} {P : L2.St → Hp → Prop} : gName i v σ H P = P (σ.set i (some v)) H := rfl
theorem q_gnil {P : L2.St → Hp → Prop} : gNil [] σ H P = P σ H := propext ⟨fun ⟨_, q⟩ => q, fun q => ⟨rfl, q⟩⟩
theorem q_gcons {g : TG} {gs : TGs} {v : V} {r : List V} {P : L2.St → Hp → Prop} : gCons g gs (v :: r) σ H P = g v σ H fun σ' H' => gs r σ' H' P :=
  propext ⟨fun ⟨_, _, e, q⟩ => by cases e; exact q, fun q => ⟨v, r, rfl, q⟩⟩
theorem q_gsub {to ti : TE} {t : TSet} {v : V} {P : L2.St → Hp → Prop} : gSub to ti t v σ H P = to σ H fun o H1 => ti σ H1 fun i H2 => t o i v H2 fun H3 => P σ H3 := rfl
theorem q_var0 {v : V} : tVar 0 (some v :: σ) H Q = Q v H := propext ⟨fun ⟨_, e, q⟩ => by cases e; exact q, fun q => ⟨v, rfl, q⟩⟩
theorem q_varS {i : Nat} {x : Option V} : tVar (i + 1) (x :: σ) H Q = tVar i σ H Q := rfl
theorem q_c {v : V} : tC v σ H Q = Q v H := rfl
theorem q_op {r : R2} {ta tb : TE} : tOp r ta tb σ H Q = ta σ H fun x H1 => tb σ H1 fun y H2 => r x y H2 Q := rfl
theorem q_un {r : V → Hp → VK → Prop} {ta : TE} : tUn r ta σ H Q = ta σ H fun x H1 => r x H1 Q := rfl
theorem q_nil {P : List V → Hp → Prop} : tNil σ H P = P [] H := rfl
theorem q_cons {te : TE} {t : TA} {P : List V → Hp → Prop} : tCons te t σ H P = te σ H fun x H1 => t σ H1 fun xs H2 => P (x :: xs) H2 := rfl
theorem q_cb {r : List V → Hp → VK → Prop} {t : TA} : tCB r t σ H Q = t σ H fun vs H1 => r vs H1 Q := rfl
theorem q_chain {r r' : R2} {ta tb tc : TE} : tChain r r' ta tb tc σ H Q = ta σ H fun x H1 => tb σ H1 fun y H2 => r x y H2 fun z H3 => ∃ k, z = .bl k ∧ (if k = true then tc σ H3 fun w' H4 => r' y w' H4 Q else Q (.bl false) H3) := rfl
theorem q_k {spp : Sp} {E : L2.St → XK} {t : TA} : tK spp E t σ H Q = t σ H fun vs H1 => spp vs H1 Q (E σ) := rfl
theorem q_m {C : Addr} {m : Str} {spp : Sp} {E : L2.St → XK} {ta : TE} {t : TA} : tM C m spp E ta t σ H Q = ta σ H fun x H1 => kIns C m x H1 ∧ t σ H1 fun vs H2 => spp (x :: vs) H2 Q (E σ) := rfl
theorem q_n {C : Addr} {spp : Sp} {E : L2.St → XK} {t : TA} : tN C spp E t σ H Q = t σ H fun vs H1 => newI C H1 fun x H2 => spp (.ref x :: vs) H2 (fun v H3 => v = .non ∧ Q (.ref x) H3) (E σ) := rfl
theorem q_f {C : Addr} {f : Str} {ta : TE} : tF C f ta σ H Q = ta σ H fun x H1 => kF C f x H1 Q := rfl
theorem q_s {C : Addr} {f : Str} {ta tv : TE} : tS C f ta tv D σ H = tv σ H fun y H1 => ta σ H1 fun x H2 => kS C f y x H2 fun H3 => D.nx σ H3 := rfl
theorem q_sa {C : Addr} {f : Str} {rd : R2} {ta tv : TE} : tSA C f rd ta tv D σ H = ta σ H fun x H1 => kF C f x H1 fun v H2 => tv σ H2 fun y H3 => rd v y H3 fun z H4 => kS C f z x H4 fun H5 => D.nx σ H5 := rfl
theorem q_tup {t : TA} : tTup t σ H Q = t σ H fun xs H1 => newT xs H1 Q := rfl
theorem q_lst {t : TA} : tLst t σ H Q = t σ H fun xs H1 => newL xs H1 Q := rfl
theorem q_sl {r : V → Option Int → Option Int → Hp → VK → Prop} {te : TE} {tl th : TO} : tSl r te tl th σ H Q = te σ H fun x H1 => tl σ H1 fun l H2 => th σ H2 fun u H3 => r x l u H3 Q := rfl
theorem q_nopart {P : Option Int → Hp → Prop} : tNoPart σ H P = P none H := rfl
theorem q_part {t : TE} {P : Option Int → Hp → Prop} : tPart t σ H P = t σ H fun x H1 => ∃ i, x = .int i ∧ P (some i) H1 := rfl
theorem q_exint {i : Int} {P : Int → Prop} : (∃ j, V.int i = .int j ∧ P j) = P i := propext ⟨fun ⟨_, e, q⟩ => by cases e; exact q, fun q => ⟨i, rfl, q⟩⟩
theorem q_exbl {b : Bool} {P : Bool → Prop} : (∃ c, V.bl b = .bl c ∧ P c) = P b := propext ⟨fun ⟨_, e, q⟩ => by cases e; exact q, fun q => ⟨b, rfl, q⟩⟩
theorem q_tif {c : TT} {ta tb : TE} : tIf c ta tb σ H Q = c σ H fun b H1 => if b = true then ta σ H1 Q else tb σ H1 Q := rfl
theorem q_test {t : TE} {P : Bool → Hp → Prop} : tTest t σ H P = t σ H fun x H' => ∃ k, x = .bl k ∧ P k H' := rfl
theorem q_B {t : TE} {P : Bool → Hp → Prop} : tB t σ H P = t σ H fun x H' => ∃ k, x = .bl k ∧ P k H' := rfl
theorem q_and {t u : TT} {P : Bool → Hp → Prop} : tAnd t u σ H P = t σ H fun c H1 => if c = true then u σ H1 P else P false H1 := rfl
theorem q_or {t u : TT} {P : Bool → Hp → Prop} : tOr t u σ H P = t σ H fun c H1 => if c = true then P true H1 else u σ H1 P := rfl
theorem q_not {t : TT} {P : Bool → Hp → Prop} : tNot t σ H P = t σ H fun c H1 => P (!c) H1 := rfl
theorem q_andV {ta tb : TE} : tAndV ta tb σ H Q = ta σ H fun x H1 => ∃ c, x = .bl c ∧ if c = true then tb σ H1 Q else Q (.bl false) H1 := rfl
theorem q_orV {ta tb : TE} : tOrV ta tb σ H Q = ta σ H fun x H1 => ∃ c, x = .bl c ∧ if c = true then Q (.bl true) H1 else tb σ H1 Q := rfl
theorem q_notV {ta : TE} : tNotV ta σ H Q = ta σ H fun x H1 => ∃ c, x = .bl c ∧ Q (.bl (!c)) H1 := rfl
theorem q_yes {P : Bool → Hp → Prop} : tYes σ H P = P true H := rfl
theorem q_iftt : (if true = true then A else B) = A := if_pos rfl
theorem q_ifff : (if false = true then A else B) = B := if_neg (by decide)
theorem q_plus {i j : Int} : rPlus (.int i) (.int j) H Q = Q (.int (i + j)) H := propext ⟨fun ⟨_, _, e, e', q⟩ => by cases e; cases e'; exact q, fun q => s_plus q⟩
theorem q_minus {i j : Int} : rMinus (.int i) (.int j) H Q = Q (.int (i - j)) H := propext ⟨fun ⟨_, _, e, e', q⟩ => by cases e; cases e'; exact q, fun q => s_minus q⟩
theorem q_radd {i j : Int} : rAdd (.int i) (.int j) H Q = Q (.int (i + j)) H := propext ⟨fun ⟨_, _, e, e', q⟩ => by cases e; cases e'; exact q, fun q => s_radd q⟩
theorem q_rsub {i j : Int} : rSub (.int i) (.int j) H Q = Q (.int (i - j)) H := propext ⟨fun ⟨_, _, e, e', q⟩ => by cases e; cases e'; exact q, fun q => s_rsub q⟩
theorem q_ipI {f : Int → Int → Int} {i j : Int} : ipI f (.int i) (.int j) H Q = Q (.int (f i j)) H := propext ⟨fun ⟨_, _, e, e', q⟩ => by cases e; cases e'; exact q, fun q => s_ipI q⟩
theorem q_lt {i j : Int} : rLt (.int i) (.int j) H Q = Q (.bl (decide (i < j))) H := propext ⟨fun ⟨_, _, e, e', q⟩ => by cases e; cases e'; exact q, fun q => s_lt q⟩
theorem q_le {i j : Int} : rLe (.int i) (.int j) H Q = Q (.bl (decide (i ≤ j))) H := propext ⟨fun ⟨_, _, e, e', q⟩ => by cases e; cases e'; exact q, fun q => s_le q⟩
theorem q_gt {i j : Int} : rGt (.int i) (.int j) H Q = Q (.bl (decide (j < i))) H := propext ⟨fun ⟨_, _, e, e', q⟩ => by cases e; cases e'; exact q, fun q => s_gt q⟩
theorem q_ge {i j : Int} : rGe (.int i) (.int j) H Q = Q (.bl (decide (j ≤ i))) H := propext ⟨fun ⟨_, _, e, e', q⟩ => by cases e; cases e'; exact q, fun q => s_ge q⟩
theorem q_eqII {i j : Int} : rEq (.int i) (.int j) H Q = Q (.bl (decide (i = j))) H := by
  have e : decide (V.int i = V.int j) = decide (i = j) := by rw [decide_eq_decide]; exact ⟨V.int.inj, fun e => by rw [e]⟩
  rw [← e]; exact propext ⟨fun q => q.2, fun q => ⟨rfl, q⟩⟩
theorem q_neII {i j : Int} : rNe (.int i) (.int j) H Q = Q (.bl (!decide (i = j))) H := by
  have e : decide (V.int i = V.int j) = decide (i = j) := by rw [decide_eq_decide]; exact ⟨V.int.inj, fun e => by rw [e]⟩
  rw [← e]; exact propext ⟨fun q => q.2, fun q => ⟨rfl, q⟩⟩
theorem q_eqSS {i j : Str} : rEq (.str i) (.str j) H Q = Q (.bl (decide (i = j))) H := by
  have e : decide (V.str i = V.str j) = decide (i = j) := by rw [decide_eq_decide]; exact ⟨V.str.inj, fun e => by rw [e]⟩
  rw [← e]; exact propext ⟨fun q => q.2, fun q => ⟨rfl, q⟩⟩
theorem q_neSS {i j : Str} : rNe (.str i) (.str j) H Q = Q (.bl (!decide (i = j))) H := by
  have e : decide (V.str i = V.str j) = decide (i = j) := by rw [decide_eq_decide]; exact ⟨V.str.inj, fun e => by rw [e]⟩
  rw [← e]; exact propext ⟨fun q => q.2, fun q => ⟨rfl, q⟩⟩
theorem q_eqNI {j : Int} : rEq .non (.int j) H Q = Q (.bl false) H := propext ⟨fun q => q.2, fun q => ⟨rfl, q⟩⟩
theorem q_isnN : rIsN .non .non H Q = Q (.bl true) H := propext ⟨fun q => q.2, fun q => ⟨rfl, q⟩⟩
theorem q_isnI {i : Int} : rIsN (.int i) .non H Q = Q (.bl false) H := propext ⟨fun q => q.2, fun q => ⟨rfl, q⟩⟩
theorem q_isnR {a : Addr} : rIsN (.ref a) .non H Q = Q (.bl false) H := propext ⟨fun q => q.2, fun q => ⟨rfl, q⟩⟩
theorem q_notnN : rNotN .non .non H Q = Q (.bl false) H := propext ⟨fun q => q.2, fun q => ⟨rfl, q⟩⟩
theorem q_notnI {i : Int} : rNotN (.int i) .non H Q = Q (.bl true) H := propext ⟨fun q => q.2, fun q => ⟨rfl, q⟩⟩
theorem q_notnR {a : Addr} : rNotN (.ref a) .non H Q = Q (.bl true) H := propext ⟨fun q => q.2, fun q => ⟨rfl, q⟩⟩
theorem q_neg {i : Int} : rNeg (.int i) H Q = Q (.int (-i)) H := propext ⟨fun ⟨_, e, q⟩ => by cases e; exact q, fun q => s_neg q⟩
theorem q_abs {i : Int} : rAbs [.int i] H Q = Q (.int (if i < 0 then -i else i)) H := propext ⟨fun ⟨_, e, q⟩ => by cases e; exact q, fun q => s_abs q⟩
theorem q_min2 {i j : Int} : rMin2 [.int i, .int j] H Q = Q (.int (if j < i then j else i)) H := propext ⟨fun ⟨_, _, e, q⟩ => by cases e; exact q, fun q => s_min2 q⟩
theorem q_max2 {i j : Int} : rMax2 [.int i, .int j] H Q = Q (.int (if j > i then j else i)) H := propext ⟨fun ⟨_, _, e, q⟩ => by cases e; exact q, fun q => s_max2 q⟩
theorem q_int1b {b : Bool} : rInt1 [.bl b] H Q = Q (.int (if b then 1 else 0)) H := propext ⟨fun q => by
  rcases q with ⟨_, e, _⟩ | ⟨_, e, q⟩
  · cases e
  · cases e; exact q, fun q => s_int1b q⟩
theorem q_mod {i j : Int} (c : 0 < j) : rMod (.int i) (.int j) H Q = Q (.int (i % j)) H := propext ⟨fun ⟨_, _, e, e', _, q⟩ => by cases e; cases e'; exact q, fun q => s_mod c q⟩
theorem q_bm {T : String} {r : V → List V → Hp → VK → Prop} {to : TE} {t : TA} : tBM K T r to t σ H Q = to σ H fun x H1 => tyV K T x H1 ∧ t σ H1 fun xs H2 => r x xs H2 Q := rfl
theorem q_bm0 {T : String} {r : V → List V → Hp → VK → Prop} {to : TE} : tBM0 K T r to σ H Q = to σ H fun x H1 => tyV K T x H1 ∧ r x [] H1 Q := rfl
def putD (x y v : V) (H : Hp) (P : Hp → Prop) : Prop := ∃ a H4, x = .ref a ∧ DPut H a y v H4 ∧ P H4
def getD (x y : V) (H : Hp) (Q : VK) : Prop := ∃ a v, x = .ref a ∧ DGet H a y (some v) ∧ Q v H
def isDv (x : V) (H : Hp) : Prop := ∃ a, x = .ref a ∧ IsD H a
def getO (x y z : V) (H : Hp) (Q : VK) : Prop := ∃ a o, x = .ref a ∧ DGet H a y o ∧ Q (o.getD z) H
def inDq (x y : V) (H : Hp) (Q : VK) : Prop := ∃ a o, x = .ref a ∧ DGet H a y o ∧ Q (.bl o.isSome) H
def notInDq (x y : V) (H : Hp) (Q : VK) : Prop := ∃ a o, x = .ref a ∧ DGet H a y o ∧ Q (.bl (!o.isSome)) H
theorem q_dput {td ty tv : TE} : sDPut td ty tv D σ H = tv σ H fun v H1 => td σ H1 fun x H2 => ty σ H2 fun y H3 => putD x y v H3 fun H4 => D.nx σ H4 := rfl
theorem q_dget {td ty : TE} : tDGet td ty σ H Q = td σ H fun x H1 => ty σ H1 fun y H2 => getD x y H2 Q := rfl
theorem q_dget2 {td ty tx : TE} : tDGet2 td ty tx σ H Q = td σ H fun x H1 => isDv x H1 ∧ ty σ H1 fun y H2 => tx σ H2 fun z H3 => getO x y z H3 Q := by
  show td σ H (fun x H1 => ∃ a, x = .ref a ∧ IsD H1 a ∧ ty σ H1 fun y H2 => tx σ H2 fun z H3 => ∃ o, DGet H3 a y o ∧ Q (o.getD z) H3) = _
  congr 1
  funext x H1
  have e : ∀ a, x = .ref a → (fun y H2 => tx σ H2 fun z H3 => ∃ o, DGet H3 a y o ∧ Q (o.getD z) H3) = (fun y H2 => tx σ H2 fun z H3 => getO x y z H3 Q) := fun a e => by
    subst e
    funext y H2
    congr 1
    funext z H3
    exact propext ⟨fun ⟨o, h⟩ => ⟨a, o, rfl, h⟩, fun ⟨b, o, e, h⟩ => by cases e; exact ⟨o, h⟩⟩
  exact propext ⟨fun ⟨a, e1, e2, e3⟩ => ⟨⟨a, e1, e2⟩, e a e1 ▸ e3⟩, fun ⟨⟨a, e1, e2⟩, e3⟩ => ⟨a, e1, e2, by rw [e a e1]; exact e3⟩⟩
theorem q_din {ty td : TE} : tDIn ty td σ H Q = ty σ H fun y H1 => td σ H1 fun x H2 => inDq x y H2 Q := rfl
theorem q_dnotin {ty td : TE} : tDNotIn ty td σ H Q = ty σ H fun y H1 => td σ H1 fun x H2 => notInDq x y H2 Q := rfl
section
variable {a : Addr} {kvs : List (Key × V)} {k : Key} {i : Int} {c : Str} {v z : V} {P : Hp → Prop}
theorem s_putI (h : At F0 H0 L H) (s : Sel (pt a (.dK kvs)) L L1) (z : kvs.length < sizeLine) (q : ∀ H', At F0 H0 (pt a (.dK (putK kvs (Sum.inl i) v)) :: L1) H' → P H') : putD (.ref a) (.int i) v H P :=
  ⟨a, _, rfl, DPut.k (k := (Sum.inl i : Key)) (h.get s) z, q _ (h.set s)⟩
theorem s_getI (h : At F0 H0 L H) (s : Sel (pt a (.dK kvs)) L L1) (e : valV kvs (Sum.inl i : Key) = some v) (q : Q v H) : getD (.ref a) (.int i) H Q := ⟨a, v, rfl, e ▸ DGet.k (k := (Sum.inl i : Key)) (h.get s), q⟩
theorem s_isDv (h : At F0 H0 L H) (s : Sel (pt a (.dK kvs)) L L1) (q : A) : isDv (.ref a) H ∧ A := ⟨⟨a, rfl, .inl ⟨kvs, .inl (h.get s)⟩⟩, q⟩
theorem s_getOI (h : At F0 H0 L H) (s : Sel (pt a (.dK kvs)) L L1) (q : Q ((valV kvs (Sum.inl i : Key)).getD z) H) : getO (.ref a) (.int i) z H Q := ⟨a, _, rfl, DGet.k (k := (Sum.inl i : Key)) (h.get s), q⟩
theorem s_inI (h : At F0 H0 L H) (s : Sel (pt a (.dK kvs)) L L1) (q : Q (.bl (valV kvs (Sum.inl i : Key)).isSome) H) : inDq (.ref a) (.int i) H Q := ⟨a, _, rfl, DGet.k (k := (Sum.inl i : Key)) (h.get s), q⟩
theorem s_notInI (h : At F0 H0 L H) (s : Sel (pt a (.dK kvs)) L L1) (q : Q (.bl (!(valV kvs (Sum.inl i : Key)).isSome)) H) : notInDq (.ref a) (.int i) H Q := ⟨a, _, rfl, DGet.k (k := (Sum.inl i : Key)) (h.get s), q⟩
theorem s_putS (h : At F0 H0 L H) (s : Sel (pt a (.dK kvs)) L L1) (z : kvs.length < sizeLine) (q : ∀ H', At F0 H0 (pt a (.dK (putK kvs (Sum.inr c) v)) :: L1) H' → P H') : putD (.ref a) (.str c) v H P :=
  ⟨a, _, rfl, DPut.k (k := (Sum.inr c : Key)) (h.get s) z, q _ (h.set s)⟩
theorem s_getS (h : At F0 H0 L H) (s : Sel (pt a (.dK kvs)) L L1) (e : valV kvs (Sum.inr c : Key) = some v) (q : Q v H) : getD (.ref a) (.str c) H Q := ⟨a, v, rfl, e ▸ DGet.k (k := (Sum.inr c : Key)) (h.get s), q⟩
theorem s_getOS (h : At F0 H0 L H) (s : Sel (pt a (.dK kvs)) L L1) (q : Q ((valV kvs (Sum.inr c : Key)).getD z) H) : getO (.ref a) (.str c) z H Q := ⟨a, _, rfl, DGet.k (k := (Sum.inr c : Key)) (h.get s), q⟩
theorem s_inS (h : At F0 H0 L H) (s : Sel (pt a (.dK kvs)) L L1) (q : Q (.bl (valV kvs (Sum.inr c : Key)).isSome) H) : inDq (.ref a) (.str c) H Q := ⟨a, _, rfl, DGet.k (k := (Sum.inr c : Key)) (h.get s), q⟩
theorem s_notInS (h : At F0 H0 L H) (s : Sel (pt a (.dK kvs)) L L1) (q : Q (.bl (!(valV kvs (Sum.inr c : Key)).isSome)) H) : notInDq (.ref a) (.str c) H Q := ⟨a, _, rfl, DGet.k (k := (Sum.inr c : Key)) (h.get s), q⟩
end
theorem q_set0 {v x : Option V} : List.set (x :: σ) 0 v = v :: σ := rfl
theorem q_setS {v x : Option V} {i : Nat} : List.set (x :: σ) (i + 1) v = x :: List.set σ i v := rfl
theorem s_start {t : TS} {n : List Str} {vs : List V} {σ' : L2.St} (e : start n vs = σ') (q : t D σ' H) : t D (start n vs) H := by rw [e]; exact q
end
theorem atI0 {α : Type} {x : α} {xs : List α} : atI (x :: xs) 0 = some x := atI_nat (j := 0) rfl
theorem atI1 {α : Type} {x y : α} {xs : List α} : atI (x :: y :: xs) 1 = some y := atI_nat (j := 1) rfl
theorem atI2 {α : Type} {x y z : α} {xs : List α} : atI (x :: y :: z :: xs) 2 = some z := atI_nat (j := 2) rfl
theorem ixN_nat {n i : Nat} (h : i < n) : ixN n (i : Int) = some i := by unfold ixN; simp; omega
section
variable {K : PySem.W.Frag} {F0 : FP} {H0 H : Hp} {L L1 : List HP} {a : Addr} {x y z v : V} {xs : List V} {P : Hp → Prop}
theorem s_setL0 (h : At F0 H0 L H) (s : Sel (pt a (.lst (x :: xs))) L L1) (q : ∀ H', At F0 H0 (pt a (.lst (v :: xs)) :: L1) H' → P H') : rSetL (.ref a) (.int 0) v H P := s_setL (j := 0) h s (ixN_nat (i := 0) (by simp)) q
theorem s_setL1 (h : At F0 H0 L H) (s : Sel (pt a (.lst (x :: y :: xs))) L L1) (q : ∀ H', At F0 H0 (pt a (.lst (x :: v :: xs)) :: L1) H' → P H') : rSetL (.ref a) (.int 1) v H P := s_setL (j := 1) h s (ixN_nat (i := 1) (by simp)) q
theorem s_setL2 (h : At F0 H0 L H) (s : Sel (pt a (.lst (x :: y :: z :: xs))) L L1) (q : ∀ H', At F0 H0 (pt a (.lst (x :: y :: v :: xs)) :: L1) H' → P H') : rSetL (.ref a) (.int 2) v H P := s_setL (j := 2) h s (ixN_nat (i := 2) (by simp)) q
end
end S
set_option Elab.async false
set_option linter.all false
set_option maxRecDepth 100000
set_option maxHeartbeats 1000000
namespace S
open PySem PySem.Spec L2
section
variable {K : PySem.W.Frag} {F0 : FP} {H0 H : Hp} {L L1 : List HP} {D : Ends} {σ : L2.St} {Q : VK} {a : Addr} {x y z v : V} {xs : List V}
theorem s_ixL0 (h : SqL K H a (x :: xs)) (q : Q x H) : rIxL K (.ref a) (.int 0) H Q := s_ixL h atI0 q
theorem s_ixL1 (h : SqL K H a (x :: y :: xs)) (q : Q y H) : rIxL K (.ref a) (.int 1) H Q := s_ixL h atI1 q
theorem s_ixL2 (h : SqL K H a (x :: y :: z :: xs)) (q : Q z H) : rIxL K (.ref a) (.int 2) H Q := s_ixL h atI2 q
theorem s_ixLn {i : Int} (h : SqL K H a xs) (i0 : 0 ≤ i) (e : xs[i.toNat]? = some v) (q : Q v H) : rIxL K (.ref a) (.int i) H Q := by
  obtain ⟨n, rfl⟩ := Int.eq_ofNat_of_zero_le i0
  exact s_ixL h (atI_nat e) q
theorem s_setLn {i : Int} {P : Hp → Prop} (h : At F0 H0 L H) (s : Sel (pt a (.lst xs)) L L1) (i0 : 0 ≤ i) (l : i < xs.length) (q : ∀ H', At F0 H0 (pt a (.lst (xs.set i.toNat v)) :: L1) H' → P H') : rSetL (.ref a) (.int i) v H P := by
  obtain ⟨n, rfl⟩ := Int.eq_ofNat_of_zero_le i0
  exact s_setL h s (ixN_nat (by omega)) q
theorem s_rep1 {k : Int} (h : At F0 H0 L H) (s : Sel (pt a (.lst [x])) L L1) (k1 : -(2 ^ 63) ≤ k) (k2 : k < 2 ^ 63) (z : k.toNat ≤ sizeLine) (q : ∀ p H', At F0 H0 (pt p (.lst (List.replicate k.toNat x)) :: L) H' → Q (.ref p) H') : rRep (.ref a) (.int k) H Q :=
  s_rep h s k1 k2 (by simpa using z) fun p H' h' => q p H' (by rw [← List.flatten_replicate_singleton]; exact h')
/-! ### loops, comprehensions, by what is owned -/
theorem s_rngGo {i : Int} {R : It → Hp → Prop} (a0 : -(2 ^ 62) ≤ i) (b : i < 2 ^ 62) (q : R (Itr 0 i.toNat) H) : iRng1 (fun _ H Q => Q [V.int i] H) σ H R := ⟨i, rfl, a0, b, q⟩
theorem q_rng1 {ta : TA} {R : It → Hp → Prop} : iRng1 ta σ H R = ta σ H fun vs H1 => ∃ j : Int, vs = [.int j] ∧ -(2 ^ 62) ≤ j ∧ j < 2 ^ 62 ∧ R (Itr 0 j.toNat) H1 := rfl
theorem s_rng1 {i : Int} {P : Int → Prop} (a0 : -(2 ^ 62) ≤ i) (b : i < 2 ^ 62) (q : P i) : ∃ j : Int, [V.int i] = [.int j] ∧ -(2 ^ 62) ≤ j ∧ j < 2 ^ 62 ∧ P j := ⟨i, rfl, a0, b, q⟩
theorem q_list {tl : TE} {R : It → Hp → Prop} : iList K tl σ H R = tl σ H fun x H1 => ∃ a, x = .ref a ∧ (∃ xs, SqL K H1 a xs) ∧ R (Itl K a) H1 := rfl
theorem s_list {P : Addr → Prop} (h : SqL K H a xs) (q : P a) : ∃ a', V.ref a = .ref a' ∧ (∃ xs, SqL K H a' xs) ∧ P a' := ⟨a, rfl, ⟨xs, h⟩, q⟩
theorem q_enum {ta : TA} {R : It → Hp → Prop} : iEnum K ta σ H R = ta σ H fun vs H1 => ∃ a xs, vs = [.ref a] ∧ SqL K H1 a xs ∧ R (Ite K a) H1 := rfl
theorem s_enum {P : Addr → Prop} (h : SqL K H a xs) (q : P a) : ∃ a' xs', [V.ref a] = [.ref a'] ∧ SqL K H a' xs' ∧ P a' := ⟨a, xs, rfl, h, q⟩
def inv (F0 : FP) (H0 : Hp) (I : L2.St → List HP → Prop) : L2.St → Hp → Prop := fun σ H => ∃ L, I σ L ∧ At F0 H0 L H
def forEnd (J : It) (g : TG) (tb : TS) (D : Ends) (σ : L2.St) (H : Hp) : Prop := ∃ W : Nat → Nat → L2.St → Hp → Prop, (∃ m, W 0 m σ H) ∧ ∀ i m σ H, W i m σ H →
      (J.stop i H ∧ D.nx σ H) ∨ (J.go i H ∧ ∃ N : L2.St → Hp → Prop, (∀ σ' H', N σ' H' → ∃ m', m' < m ∧ W (i + 1) m' σ' H') ∧ ∀ x H', J.yld i H x H' → g x σ H' fun σ2 H2 => tb { D with nx := N, ct := N, bk := D.nx } σ2 H2)
theorem q_for {wi : TI} {g : TG} {tb : TS} : tFor wi g tb D σ H = wi σ H fun J H1 => forEnd J g tb D σ H1 := rfl
theorem s_forR {lo : Int} {n : Nat} {g : TG} {tb : TS} (I : Nat → L2.St → List HP → Prop) (h : At F0 H0 L H) (h0 : I 0 σ L)
    (hs : ∀ j σ L H, j < n → I j σ L → At F0 H0 L H → g (.int (lo + j)) σ H fun σ2 H2 => tb ⟨inv F0 H0 (I (j + 1)), D.rt, D.nx, inv F0 H0 (I (j + 1))⟩ σ2 H2) (hd : ∀ σ L H, I n σ L → At F0 H0 L H → D.nx σ H) :
    forEnd (Itr lo n) g tb D σ H :=
  for_range (fun j => inv F0 H0 (I j)) ⟨L, h0, h⟩ (fun j σ H hj ⟨L, i, h⟩ => hs j σ L H hj i h) fun σ H ⟨L, i, h⟩ => hd σ L H i h
theorem s_forL {g : TG} {tb : TS} (I : Nat → L2.St → List HP → Prop) (h : At F0 H0 L H) (h0 : I 0 σ L) (hl : ∀ j σ L H, I j σ L → At F0 H0 L H → SqL K H a xs)
    (hs : ∀ j x σ L H, xs[j]? = some x → I j σ L → At F0 H0 L H → g x σ H fun σ2 H2 => tb ⟨inv F0 H0 (I (j + 1)), D.rt, D.nx, inv F0 H0 (I (j + 1))⟩ σ2 H2) (hd : ∀ σ L H, I xs.length σ L → At F0 H0 L H → D.nx σ H) :
    forEnd (Itl K a) g tb D σ H :=
  for_list (fun j => inv F0 H0 (I j)) ⟨L, h0, h⟩ (fun j σ H _ ⟨L, i, h⟩ => hl j σ L H i h) (fun j x σ H hj ⟨L, i, h⟩ => hs j x σ L H hj i h) fun σ H ⟨L, i, h⟩ => hd σ L H i h
theorem s_forE {g : TG} {tb : TS} (I : Nat → L2.St → List HP → Prop) (h : At F0 H0 L H) (h0 : I 0 σ L) (hl : ∀ j σ L H, I j σ L → At F0 H0 L H → SqL K H a xs)
    (hs : ∀ j x p σ L H, xs[j]? = some x → I j σ L → At F0 H0 (tp p [.int j, x] :: L) H → g (.ref p) σ H fun σ2 H2 => tb ⟨inv F0 H0 (I (j + 1)), D.rt, D.nx, inv F0 H0 (I (j + 1))⟩ σ2 H2) (hd : ∀ σ L H, I xs.length σ L → At F0 H0 L H → D.nx σ H) :
    forEnd (Ite K a) g tb D σ H := by
  refine ⟨fun i m σ H => m = xs.length - i ∧ i ≤ xs.length ∧ inv F0 H0 (I i) σ H, ⟨xs.length, by simp, Nat.zero_le _, L, h0, h⟩, ?_⟩
  rintro i m σ H ⟨rfl, hi, L, p, hp⟩
  have q := hl i σ L H p hp
  by_cases hlt : i < xs.length
  · refine .inr ⟨⟨xs, xs[i], q, by simp [hlt]⟩, inv F0 H0 (I (i + 1)), fun σ' H' p' => ⟨xs.length - (i + 1), by omega, rfl, hlt, p'⟩, fun v H' y => ?_⟩
    obtain ⟨T, x, rfl, hT, rfl, hx⟩ := y
    exact hs i x T σ L _ (hx xs q) p (hp.newX hT rfl)
  · have e : i = xs.length := by omega
    subst e
    exact .inl ⟨⟨xs, q, Nat.le_refl _⟩, hd σ L H p hp⟩
def invC (F0 : FP) (H0 : Hp) (D : Addr) (I : List V → List HP → Prop) : Hp → Prop := fun H => ∃ acc L, I acc L ∧ At F0 H0 (pt D (.lst acc) :: L) H
theorem wipe1 {i : Nat} {v : Option V} : wipe ((wipe σ [i]).set i v) [i] = wipe σ [i] := by simp [wipe]
/-- what an element is to reach -/
def accK (F0 : FP) (H0 : Hp) (D : Addr) (I : List V → List HP → Prop) : VK := fun y H4 => ∃ acc, H4 D = some (.lst acc) ∧ acc.length < sizeLine ∧ invC F0 H0 D I (upd H4 D (.lst (acc ++ [y])))
theorem s_acc {D : Addr} {acc : List V} {y : V} {I : List V → List HP → Prop} (h : At F0 H0 L H) (s : Sel (pt D (.lst acc)) L L1) (z : acc.length < sizeLine) (i : I (acc ++ [y]) L1) : accK F0 H0 D I y H :=
  ⟨acc, h.get s, z, _, _, i, h.set s⟩
abbrev lcEnd (J : It) (g : TG) (tt : TT) (te : TE) (vs : List Nat) (σ : L2.St) (Q : VK) (D : Addr) (H1 : Hp) : Prop := ∃ W : Nat → Nat → Hp → Prop, (∃ m, W 0 m (upd H1 D (.lst []))) ∧ ∀ i m H, W i m H →
      (J.stop i H ∧ Q (.ref D) H) ∨ (J.go i H ∧ ∃ Nx : Hp → Prop, (∀ H', Nx H' → ∃ m', m' < m ∧ W (i + 1) m' H') ∧ ∀ x H', J.yld i H x H' → g x (wipe σ vs) H' fun σ2 H2 => wipe σ2 vs = wipe σ vs ∧ tt σ2 H2 fun b H3 =>
        if b = true then te σ2 H3 fun y H4 => ∃ acc, H4 D = some (.lst acc) ∧ acc.length < sizeLine ∧ Nx (upd H4 D (.lst (acc ++ [y]))) else Nx H3)
theorem q_lc {wi : TI} {g : TG} {tt : TT} {te : TE} {vs : List Nat} : tLc wi g tt te vs σ H Q = wi σ H fun J H1 => ∀ D, H1 D = none → lcEnd J g tt te vs σ Q D H1 := rfl
theorem s_yesC {P P' : Hp → Prop} (q : P H) : tYes σ H (fun b H3 => if b = true then P H3 else P' H3) := by
  show (if true = true then P H else P' H)
  rw [if_pos rfl]; exact q
/-- a comprehension over a range, a name, no test -/
theorem s_lcR {lo : Int} {n : Nat} {te : TE} {k : Nat} (I : Nat → List V → List HP → Prop) (h : At F0 H0 L H) (h0 : I 0 [] L)
    (hs : ∀ j acc L D H, j < n → I j acc L → At F0 H0 (pt D (.lst acc) :: L) H → te ((wipe σ [k]).set k (some (.int (lo + j)))) H (accK F0 H0 D (I (j + 1))))
    (hd : ∀ acc L D H, I n acc L → At F0 H0 (pt D (.lst acc) :: L) H → Q (.ref D) H) :
    ∀ D, H D = none → lcEnd (Itr lo n) (gName k) tYes te [k] σ Q D H := fun D hD =>
  lc_range (fun j => invC F0 H0 D (I j)) ⟨[], L, h0, h.new hD⟩ (fun j H hj ⟨acc, L, i, h⟩ => ⟨wipe1, s_yesC (hs j acc L D H hj i h)⟩) fun H ⟨acc, L, i, h⟩ => hd acc L D H i h
theorem s_lcL {te : TE} {k : Nat} (I : Nat → List V → List HP → Prop) (h : At F0 H0 L H) (h0 : I 0 [] L) (hl : ∀ j acc L D H, I j acc L → At F0 H0 (pt D (.lst acc) :: L) H → SqL K H a xs)
    (hs : ∀ j x acc L D H, xs[j]? = some x → I j acc L → At F0 H0 (pt D (.lst acc) :: L) H → te ((wipe σ [k]).set k (some x)) H (accK F0 H0 D (I (j + 1))))
    (hd : ∀ acc L D H, I xs.length acc L → At F0 H0 (pt D (.lst acc) :: L) H → Q (.ref D) H) :
    ∀ D, H D = none → lcEnd (Itl K a) (gName k) tYes te [k] σ Q D H := fun D hD =>
  lc_list (fun j => invC F0 H0 D (I j)) ⟨[], L, h0, h.new hD⟩ (fun j H _ ⟨acc, L, i, h⟩ => hl j acc L D H i h) (fun j x H hj ⟨acc, L, i, h⟩ => ⟨wipe1, s_yesC (hs j x acc L D H hj i h)⟩) fun H ⟨acc, L, i, h⟩ => hd acc L D H i h
/-- what a test is to reach -/
def tstK (F0 : FP) (H0 : Hp) (D : Addr) (I I' : List V → List HP → Prop) (te : TE) (σ : L2.St) : Bool → Hp → Prop := fun b H3 => if b = true then te σ H3 (accK F0 H0 D I) else invC F0 H0 D I' H3
theorem s_lcRT {lo : Int} {n : Nat} {te : TE} {tt : TT} {k : Nat} (I : Nat → List V → List HP → Prop) (h : At F0 H0 L H) (h0 : I 0 [] L)
    (hs : ∀ j acc L D H, j < n → I j acc L → At F0 H0 (pt D (.lst acc) :: L) H → tt ((wipe σ [k]).set k (some (.int (lo + j)))) H (tstK F0 H0 D (I (j + 1)) (I (j + 1)) te ((wipe σ [k]).set k (some (.int (lo + j))))))
    (hd : ∀ acc L D H, I n acc L → At F0 H0 (pt D (.lst acc) :: L) H → Q (.ref D) H) :
    ∀ D, H D = none → lcEnd (Itr lo n) (gName k) tt te [k] σ Q D H := fun D hD =>
  lc_range (fun j => invC F0 H0 D (I j)) ⟨[], L, h0, h.new hD⟩ (fun j H hj ⟨acc, L, i, h⟩ => ⟨wipe1, hs j acc L D H hj i h⟩) fun H ⟨acc, L, i, h⟩ => hd acc L D H i h
theorem s_lcLT {te : TE} {tt : TT} {k : Nat} (I : Nat → List V → List HP → Prop) (h : At F0 H0 L H) (h0 : I 0 [] L) (hl : ∀ j acc L D H, I j acc L → At F0 H0 (pt D (.lst acc) :: L) H → SqL K H a xs)
    (hs : ∀ j x acc L D H, xs[j]? = some x → I j acc L → At F0 H0 (pt D (.lst acc) :: L) H → tt ((wipe σ [k]).set k (some x)) H (tstK F0 H0 D (I (j + 1)) (I (j + 1)) te ((wipe σ [k]).set k (some x))))
    (hd : ∀ acc L D H, I xs.length acc L → At F0 H0 (pt D (.lst acc) :: L) H → Q (.ref D) H) :
    ∀ D, H D = none → lcEnd (Itl K a) (gName k) tt te [k] σ Q D H := fun D hD =>
  lc_list (fun j => invC F0 H0 D (I j)) ⟨[], L, h0, h.new hD⟩ (fun j H _ ⟨acc, L, i, h⟩ => hl j acc L D H i h) (fun j x H hj ⟨acc, L, i, h⟩ => ⟨wipe1, hs j x acc L D H hj i h⟩) fun H ⟨acc, L, i, h⟩ => hd acc L D H i h
theorem wipe2 {i k : Nat} {v x : Option V} : wipe (((wipe σ [i, k]).set i v).set k x) [i, k] = wipe σ [i, k] := by
  simp only [wipe]
  apply List.ext_getElem?
  intro j
  simp only [List.getElem?_set, List.length_set]
  by_cases h1 : i = j <;> by_cases h2 : k = j <;> simp [h1, h2] <;> subst_vars <;> simp_all
/-- over enumerate of a list: two names -/
theorem s_lcE {te : TE} {k k' : Nat} (I : Nat → List V → List HP → Prop) (h : At F0 H0 L H) (h0 : I 0 [] L) (hl : ∀ j acc L D H, I j acc L → At F0 H0 (pt D (.lst acc) :: L) H → SqL K H a xs)
    (hs : ∀ j x acc L D H, xs[j]? = some x → I j acc L → At F0 H0 (pt D (.lst acc) :: L) H → te (((wipe σ [k, k']).set k (some (.int j))).set k' (some x)) H (accK F0 H0 D (I (j + 1))))
    (hd : ∀ acc L D H, I xs.length acc L → At F0 H0 (pt D (.lst acc) :: L) H → Q (.ref D) H) :
    ∀ D, H D = none → lcEnd (Ite K a) (gTup K 2 (gCons (gName k) (gCons (gName k') gNil))) tYes te [k, k'] σ Q D H := fun D hD => by
  refine ⟨fun i m H => m = xs.length - i ∧ i ≤ xs.length ∧ invC F0 H0 D (I i) H, ⟨xs.length, by simp, Nat.zero_le _, [], L, h0, h.new hD⟩, ?_⟩
  rintro i m H ⟨rfl, hi, acc, L, p, hp⟩
  have q := hl i acc L D H p hp
  by_cases hlt : i < xs.length
  · refine .inr ⟨⟨xs, xs[i], q, by simp [hlt]⟩, invC F0 H0 D (I (i + 1)), fun H' p' => ⟨xs.length - (i + 1), by omega, rfl, hlt, p'⟩, fun v H' y => ?_⟩
    obtain ⟨T, x, rfl, hT, rfl, hx⟩ := y
    have ht := hp.newX hT (o := .tup [.int (i : Nat), x]) rfl
    refine ⟨T, _, rfl, .of (ht.getX .here), rfl, ?_⟩
    refine s_gcons (s_gname (s_gcons (s_gname (s_gnil ⟨wipe2, ?_⟩))))
    exact s_yesC (hs i x acc L D _ (hx xs q) p ht.drop)
  · have e : i = xs.length := by omega
    subst e
    exact .inl ⟨⟨xs, q, Nat.le_refl _⟩, hd acc L D H p hp⟩
end
end S
namespace S
open PySem PySem.Spec L2
theorem At.only {F0 : FP} {H0 H : Hp} {L L1 M : List HP} (h : At F0 H0 L H) (s : Arr M L L1) : At F0 H0 M H := by
  obtain ⟨F, h1, h2, h3, h4⟩ := (h.arr s).ex
  obtain ⟨F1, F2, a1, a2, a3, a4, a5⟩ := h1.split
  exact ⟨F, a4.sub a1, h2, h3, h4⟩
end S

namespace S
open PySem PySem.Spec L2
section
variable {A B : Prop} {p : Prop} [Decidable p]
theorem s_ifnT (h : ¬ p) (q : A) : if (!decide p) = true then A else B := s_ifnd (fun _ => q) fun e => (h e).elim
theorem s_ifnF (h : p) (q : B) : if (!decide p) = true then A else B := s_ifnd (fun n => (n h).elim) fun _ => q
end
end S
namespace S
open PySem PySem.Spec L2
section
variable {k a : Str} {v x : V} {r : List (Str × V)}
theorem lk_hd : List.lookup k ((k, v) :: r) = some v := by simp [List.lookup]
theorem lk_tl (h : (k == a) = false) : List.lookup k ((a, x) :: r) = List.lookup k r := by simp [List.lookup, h]
theorem lk_nil : List.lookup k ([] : List (Str × V)) = none := rfl
theorem pf_hd : putF k v ((k, x) :: r) = (k, v) :: r := by simp [putF]
theorem pf_tl (h : (k == a) = false) : putF k v ((a, x) :: r) = (a, x) :: putF k v r := by
  have n : ¬ a = k := fun e => by subst e; simp at h
  simp [putF, n]
theorem pf_nil : putF k v [] = [(k, v)] := rfl
end
end S
namespace S
open PySem PySem.Spec L2
theorem cut_to {xs : List V} {k : Nat} : cutV xs none (some (k : Int)) = xs.take k := by
  unfold cutV
  rw [HT.sIx_none, HT.sIx_nat, List.drop_zero, Nat.sub_zero]
  rcases Nat.le_total k xs.length with h | h
  · rw [Nat.min_eq_left h]
  · rw [Nat.min_eq_right h, List.take_length, List.take_of_length_le h]
theorem cut_ft {xs : List V} {k l : Nat} : cutV xs (some (k : Int)) (some (l : Int)) = (xs.drop k).take (l - k) := by
  unfold cutV
  rw [HT.sIx_nat, HT.sIx_nat]
  rcases Nat.le_total k xs.length with h | h
  · rw [Nat.min_eq_left h]
    rcases Nat.le_total l xs.length with h2 | h2
    · rw [Nat.min_eq_left h2]
    · rw [Nat.min_eq_right h2, List.take_of_length_le (by simp), List.take_of_length_le (by simp; omega)]
  · rw [Nat.min_eq_right h, List.drop_length, List.drop_of_length_le h]
    simp
theorem cut_from {xs : List V} {k : Nat} : cutV xs (some (k : Int)) none = xs.drop k := by
  unfold cutV
  rw [HT.sIx_none, HT.sIx_nat]
  rcases Nat.le_total k xs.length with h | h
  · rw [Nat.min_eq_left h, List.take_of_length_le (by simp)]
  · rw [Nat.min_eq_right h, List.drop_length, List.drop_of_length_le h]
    simp
end S
set_option Elab.async false
set_option linter.all false
set_option maxRecDepth 100000
set_option maxHeartbeats 1000000
namespace S
open PySem PySem.Spec L2
/-! ### deep data: ints, lists of ints, lists of those -/
def dr (r : List Int) : PyData := .list (r.map .int)
def dR (rs : List (List Int)) : PyData := .list (rs.map dr)
theorem dr_can : ∀ r : List Int, PyData.canLayAll0 (r.map .int) = true
  | [] => rfl
  | _ :: r => by simp only [List.map_cons, PyData.canLayAll0, PyData.canLay0, dr_can r]; rfl
theorem dr_dep : ∀ r : List Int, PyData.depthAll (r.map .int) = 0
  | [] => rfl
  | _ :: r => by simp only [List.map_cons, PyData.depthAll, PyData.depth, dr_dep r]; rfl
theorem dr_sh {r : List Int} : SeqAt.shaped (dr r) = true := by
  unfold SeqAt.shaped dr
  rw [PyData.canLay0, PyData.depth, dr_can, dr_dep]; rfl
theorem dR_can : ∀ rs : List (List Int), PyData.canLayAll0 (rs.map dr) = true
  | [] => rfl
  | r :: rs => by
    have : PyData.canLay0 (dr r) = true := by rw [dr, PyData.canLay0, dr_can]
    simp only [List.map_cons, PyData.canLayAll0, dR_can rs, this]; rfl
theorem dR_dep : ∀ rs : List (List Int), PyData.depthAll (rs.map dr) ≤ 1
  | [] => Nat.zero_le _
  | r :: rs => by
    have : PyData.depth (dr r) = 1 := by rw [dr, PyData.depth, dr_dep]
    have := dR_dep rs
    simp only [List.map_cons, PyData.depthAll]; omega
theorem dR_sh {rs : List (List Int)} : SeqAt.shaped (dR rs) = true := by
  have := dR_dep rs
  unfold SeqAt.shaped dR
  rw [PyData.canLay0, PyData.depth, dR_can]
  simp; omega
theorem dr_eqA : ∀ r s : List Int, PyData.eqvAll (r.map .int) (s.map .int) = decide (r = s)
  | [], [] => rfl
  | [], _ :: _ => by simp [PyData.eqvAll]
  | _ :: _, [] => by simp [PyData.eqvAll]
  | a :: r, b :: s => by
    simp only [List.map_cons, PyData.eqvAll, PyData.eqv, dr_eqA r s]
    by_cases h : a = b <;> by_cases h2 : r = s <;> simp [h, h2]
theorem dr_eq {r s : List Int} : PyData.eqv (dr r) (dr s) = decide (r = s) := by rw [dr, dr, PyData.eqv, dr_eqA]
theorem dR_eqA : ∀ r s : List (List Int), PyData.eqvAll (r.map dr) (s.map dr) = decide (r = s)
  | [], [] => rfl
  | [], _ :: _ => by simp [PyData.eqvAll]
  | _ :: _, [] => by simp [PyData.eqvAll]
  | a :: r, b :: s => by
    simp only [List.map_cons, PyData.eqvAll, dr_eq, dR_eqA r s]
    by_cases h : a = b <;> by_cases h2 : r = s <;> simp [h, h2]
theorem dR_eq {r s : List (List Int)} : PyData.eqv (dR r) (dR s) = decide (r = s) := by rw [dR, dR, PyData.eqv, dR_eqA]
theorem dp_ints {K : PySem.W.Frag} {H : Hp} : ∀ {r : List Int}, DpAll K H (r.map V.int) (r.map .int)
  | [] => .nil
  | i :: _ => .cons (.int i) dp_ints
theorem dp_row {K : PySem.W.Frag} {H : Hp} {a : Addr} {r : List Int} (h : SqL K H a (r.map V.int)) : Dp K H (.ref a) (dr r) := .lst h dp_ints
section
variable {K : PySem.W.Frag} {F0 : FP} {H0 H : Hp} {L L1 M2 : List HP} {D : Ends} {σ : L2.St} {Q : VK} {a p : Addr} {as : List Addr} {rs ss : List (List Int)} {r s' : List Int} {xs : List V}
theorem dp_rowsA : ∀ {as : List Addr} {rs : List (List Int)}, as.length = rs.length → (∀ (n : Nat) a r, as[n]? = some a → rs[n]? = some r → H a = some (il r)) → DpAll K H (as.map V.ref) (rs.map dr)
  | [], [], _, _ => .nil
  | a :: as, r :: rs, l, h => .cons (dp_row (.of (h 0 a r rfl rfl))) (dp_rowsA (by simpa using l) fun n b s h1 h2 => h (n + 1) b s h1 h2)
  | [], _ :: _, l, _ => by simp at l
  | _ :: _, [], l, _ => by simp at l
theorem At.rowsAll (h : At F0 H0 L H) (s : Sel (rows as rs) L L1) : ∀ (n : Nat) a r, as[n]? = some a → rs[n]? = some r → H a = some (il r) := fun n a r h1 h2 => by
  obtain ⟨b, e1, e2⟩ := h.rowsAt s h2
  rw [h1] at e1; cases e1; exact e2
theorem At.dR (h : At F0 H0 L H) (s1 : Sel (pt p (.lst (as.map V.ref))) L L1) (s2 : Sel (rows as rs) L M2) : Dp K H (.ref p) (dR rs) :=
  .lst (.of (h.get s1)) (dp_rowsA (h.rowsLen s2) (h.rowsAll s2))
theorem s_eqD2 {x y : V} (h1 : Dp K H x (dR rs)) (h2 : Dp K H y (dR ss)) (q : Q (.bl (decide (rs = ss))) H) : rEqD K x y H Q := ⟨_, _, h1, h2, dR_sh, dR_sh, by rw [dR_eq]; exact q⟩
theorem s_neD2 {x y : V} (h1 : Dp K H x (dR rs)) (h2 : Dp K H y (dR ss)) (q : Q (.bl (!decide (rs = ss))) H) : rNeD K x y H Q := ⟨_, _, h1, h2, dR_sh, dR_sh, by rw [dR_eq]; exact q⟩
theorem s_eqD1 {x y : V} (h1 : Dp K H x (dr r)) (h2 : Dp K H y (dr s')) (q : Q (.bl (decide (r = s'))) H) : rEqD K x y H Q := ⟨_, _, h1, h2, dr_sh, dr_sh, by rw [dr_eq]; exact q⟩
theorem s_neD1 {x y : V} (h1 : Dp K H x (dr r)) (h2 : Dp K H y (dr s')) (q : Q (.bl (!decide (r = s'))) H) : rNeD K x y H Q := ⟨_, _, h1, h2, dr_sh, dr_sh, by rw [dr_eq]; exact q⟩
/-! ### x in a tuple of deep data -/
def rInTD (K : PySem.W.Frag) (neg : Bool) : R2 := fun x y H Q => ∃ d ds, Dp K H x d ∧ Dp K H y (.tuple ds) ∧ PyData.canLayAll0 ds = true ∧ d.canLay0 = true ∧ d.depth < 63 ∧ Q (.bl (if neg then !(ds.any fun y => PyData.eqv y d) else ds.any fun y => PyData.eqv y d)) H
theorem op_inTD {X : Cx} (hu : X.A.units + 64 < cLine) : OpR X (compareOp .In) (rInTD X.K false) := by
  intro pins s σ H x y v u Q I rx ry h
  obtain ⟨d, ds, hd, he, sd, se, dp, q⟩ := h
  obtain ⟨as, r1⟩ := Dp.reads I d x v hd rx
  obtain ⟨bs, r2⟩ := Dp.reads I _ y u he ry
  exact SeqAt.in_tuple_reads r2 r1 sd se (by omega) ⟨.bl _, H, I, rfl, q⟩
theorem op_notInTD {X : Cx} (hu : X.A.units + 64 < cLine) : OpR X (compareOp .NotIn) (rInTD X.K true) := by
  intro pins s σ H x y v u Q I rx ry h
  obtain ⟨d, ds, hd, he, sd, se, dp, q⟩ := h
  obtain ⟨as, r1⟩ := Dp.reads I d x v hd rx
  obtain ⟨bs, r2⟩ := Dp.reads I _ y u he ry
  exact SeqAt.notIn_tuple_reads r2 r1 sd se (by omega) ⟨.bl _, H, I, rfl, q⟩
/-! ### a loop over a tuple -/
theorem q_tupI {tl : TE} {R : It → Hp → Prop} : iTup K tl σ H R = tl σ H fun x H1 => ∃ a, x = .ref a ∧ (∃ xs, SqT K H1 a xs) ∧ R (Itt K a) H1 := rfl
theorem s_tupI {P : Addr → Prop} (h : SqT K H a xs) (q : P a) : ∃ a', V.ref a = .ref a' ∧ (∃ xs, SqT K H a' xs) ∧ P a' := ⟨a, rfl, ⟨xs, h⟩, q⟩
theorem s_forT {g : TG} {tb : TS} (I : Nat → L2.St → List HP → Prop) (h : At F0 H0 L H) (h0 : I 0 σ L) (hl : ∀ j σ L H, I j σ L → At F0 H0 L H → SqT K H a xs)
    (hs : ∀ j x σ L H, xs[j]? = some x → I j σ L → At F0 H0 L H → g x σ H fun σ2 H2 => tb ⟨inv F0 H0 (I (j + 1)), D.rt, D.nx, inv F0 H0 (I (j + 1))⟩ σ2 H2) (hd : ∀ σ L H, I xs.length σ L → At F0 H0 L H → D.nx σ H) :
    forEnd (Itt K a) g tb D σ H :=
  by
  refine ⟨fun i m σ H => m = xs.length - i ∧ i ≤ xs.length ∧ inv F0 H0 (I i) σ H, ⟨xs.length, by simp, Nat.zero_le _, L, h0, h⟩, ?_⟩
  rintro i m σ H ⟨rfl, hi, L, p, hp⟩
  have q := hl i σ L H p hp
  by_cases hlt : i < xs.length
  · refine .inr ⟨⟨xs, xs[i], q, by simp [hlt]⟩, inv F0 H0 (I (i + 1)), fun σ' H' p' => ⟨xs.length - (i + 1), by omega, rfl, hlt, p'⟩, fun x H' y => ?_⟩
    obtain ⟨e, y⟩ := y
    subst e
    exact hs i x σ L _ (y xs q) p hp
  · have e : i = xs.length := by omega
    subst e
    exact .inl ⟨⟨xs, q, Nat.le_refl _⟩, hd σ L H p hp⟩
end
end S
set_option Elab.async false
set_option linter.all false
set_option maxRecDepth 100000
set_option maxHeartbeats 1000000
namespace S
open PySem PySem.Spec L2
theorem exc_of {K : PySem.W.Frag} {h : Heap} {mg : Str → Option Value} {x : Str} (X : K.In h) (G : h.Ns mainGlobals mg) (c1 : (He.Fa.glo x).ok K = true) (c2 : (He.Fa.exc x).ok K = true) : ExC K mg x (He.ga K x) [.type "ValueError", .type "Exception", .type "BaseException", .type "object"] := by
  obtain ⟨e1, e2, e3, e4⟩ := He.exc_ok c2
  exact ⟨He.glo_ok X G c1, e1, e2, e3, e4⟩
theorem Tri.zero {Pre : List HP} {R : V → List HP → Prop} {H : Hp} {Q : VK} {E E' : XK} (t : Tri Pre R (fun _ _ _ => False) H Q E) : Tri Pre R (fun _ _ _ => False) H Q E' := by
  obtain ⟨F, h1, h2, h3, -⟩ := t
  exact ⟨F, h1, h2, h3, fun _ _ _ _ z => z.elim⟩
section
variable {P : Program} {w : World} {K : PySem.W.Frag} {mg : Str → Option Value} {base : Heap} {k : Nat} {f : Addr} {fd : FuncData} {ps : List Str} {sp sp' : Sp} {x m : Str} {C : Addr}
theorem FnOk.toZ (F : FnOk P w K mg base (L2.CX P w) k f fd ps sp) (h : ∀ vs H Q E, sp' vs H Q E → sp vs H Q (fun _ _ _ => False)) : FnOk P w K mg base CX0 k f fd ps sp' :=
  FnOk.to0 (sp := fun vs H Q _ => sp vs H Q (fun _ _ _ => False)) ⟨fun vs H Q E q => F.len vs H Q _ q, fun A outer s H args us vs Q E hr he hb hv hs => codeAny_mono (F.run A outer s H args us vs Q _ hr he hb hv hs) fun r s' hq => by
    cases r with
    | error e =>
      obtain ⟨a, B, H', cls, d, _, _, _, _, _, _, _, z⟩ := (show L2.CX P w outer H s (fun _ _ _ => False) e s' from hq)
      exact z.elim
    | ok fl => cases fl <;> exact hq⟩ (fun _ _ _ _ q => q) |>.imp h
theorem MkAt.to0 (D : MkAt P w K mg base (L2.CX P w) k x C sp) (h : ∀ vs H Q E, sp' vs H Q E → sp vs H Q (fun _ _ _ => False)) : MkAt P w K mg base CX0 k x C sp' := by
  obtain ⟨f, fd, ps, h1, h2, h3, F⟩ := D.ex
  exact ⟨f, fd, ps, h1, h2, h3, FnOk.toZ F h⟩
end
end S
set_option Elab.async false
set_option linter.all false
set_option maxRecDepth 100000
set_option maxHeartbeats 1000000
namespace S
open PySem PySem.Spec L2

/-! ### a disk -/
theorem lk_Disk_blocks {x0 x1 x2 x3 : V} : List.lookup ("blocks" : Str) ([("blocks", x0), ("done", x1), ("left", x2), ("down", x3)] : List (Str × V)) = some x0 := lk_hd
theorem pf_Disk_blocks {x0 x1 x2 x3 : V} {v : V} : putF ("blocks" : Str) v ([("blocks", x0), ("done", x1), ("left", x2), ("down", x3)] : List (Str × V)) = ([("blocks", v), ("done", x1), ("left", x2), ("down", x3)] : List (Str × V)) := pf_hd
theorem pb_Disk_blocks  {v : V} : putF ("blocks" : Str) v ([] : List (Str × V)) = ([("blocks", v)] : List (Str × V)) := pf_nil
theorem lk_Disk_done {x0 x1 x2 x3 : V} : List.lookup ("done" : Str) ([("blocks", x0), ("done", x1), ("left", x2), ("down", x3)] : List (Str × V)) = some x1 := (lk_tl (by decide +kernel)).trans <| lk_hd
theorem pf_Disk_done {x0 x1 x2 x3 : V} {v : V} : putF ("done" : Str) v ([("blocks", x0), ("done", x1), ("left", x2), ("down", x3)] : List (Str × V)) = ([("blocks", x0), ("done", v), ("left", x2), ("down", x3)] : List (Str × V)) := ((pf_tl (by decide +kernel)).trans (congrArg _ pf_hd))
theorem pb_Disk_done {x0 : V} {v : V} : putF ("done" : Str) v ([("blocks", x0)] : List (Str × V)) = ([("blocks", x0), ("done", v)] : List (Str × V)) := ((pf_tl (by decide +kernel)).trans (congrArg _ pf_nil))
theorem lk_Disk_left {x0 x1 x2 x3 : V} : List.lookup ("left" : Str) ([("blocks", x0), ("done", x1), ("left", x2), ("down", x3)] : List (Str × V)) = some x2 := (lk_tl (by decide +kernel)).trans <| (lk_tl (by decide +kernel)).trans <| lk_hd
theorem pf_Disk_left {x0 x1 x2 x3 : V} {v : V} : putF ("left" : Str) v ([("blocks", x0), ("done", x1), ("left", x2), ("down", x3)] : List (Str × V)) = ([("blocks", x0), ("done", x1), ("left", v), ("down", x3)] : List (Str × V)) := ((pf_tl (by decide +kernel)).trans (congrArg _ ((pf_tl (by decide +kernel)).trans (congrArg _ pf_hd))))
theorem pb_Disk_left {x0 x1 : V} {v : V} : putF ("left" : Str) v ([("blocks", x0), ("done", x1)] : List (Str × V)) = ([("blocks", x0), ("done", x1), ("left", v)] : List (Str × V)) := ((pf_tl (by decide +kernel)).trans (congrArg _ ((pf_tl (by decide +kernel)).trans (congrArg _ pf_nil))))
theorem lk_Disk_down {x0 x1 x2 x3 : V} : List.lookup ("down" : Str) ([("blocks", x0), ("done", x1), ("left", x2), ("down", x3)] : List (Str × V)) = some x3 := (lk_tl (by decide +kernel)).trans <| (lk_tl (by decide +kernel)).trans <| (lk_tl (by decide +kernel)).trans <| lk_hd
theorem pf_Disk_down {x0 x1 x2 x3 : V} {v : V} : putF ("down" : Str) v ([("blocks", x0), ("done", x1), ("left", x2), ("down", x3)] : List (Str × V)) = ([("blocks", x0), ("done", x1), ("left", x2), ("down", v)] : List (Str × V)) := ((pf_tl (by decide +kernel)).trans (congrArg _ ((pf_tl (by decide +kernel)).trans (congrArg _ ((pf_tl (by decide +kernel)).trans (congrArg _ pf_hd))))))
theorem pb_Disk_down {x0 x1 x2 : V} {v : V} : putF ("down" : Str) v ([("blocks", x0), ("done", x1), ("left", x2)] : List (Str × V)) = ([("blocks", x0), ("done", x1), ("left", x2), ("down", v)] : List (Str × V)) := ((pf_tl (by decide +kernel)).trans (congrArg _ ((pf_tl (by decide +kernel)).trans (congrArg _ ((pf_tl (by decide +kernel)).trans (congrArg _ pf_nil))))))
theorem no_Disk_look {x0 x1 x2 x3 : V} : List.lookup ("look" : Str) ([("blocks", x0), ("done", x1), ("left", x2), ("down", x3)] : List (Str × V)) = none := (lk_tl (by decide +kernel)).trans <| (lk_tl (by decide +kernel)).trans <| (lk_tl (by decide +kernel)).trans <| (lk_tl (by decide +kernel)).trans <| lk_nil
theorem no_Disk_read {x0 x1 x2 x3 : V} : List.lookup ("read" : Str) ([("blocks", x0), ("done", x1), ("left", x2), ("down", x3)] : List (Str × V)) = none := (lk_tl (by decide +kernel)).trans <| (lk_tl (by decide +kernel)).trans <| (lk_tl (by decide +kernel)).trans <| (lk_tl (by decide +kernel)).trans <| lk_nil
theorem no_Disk_write {x0 x1 x2 x3 : V} : List.lookup ("write" : Str) ([("blocks", x0), ("done", x1), ("left", x2), ("down", x3)] : List (Str × V)) = none := (lk_tl (by decide +kernel)).trans <| (lk_tl (by decide +kernel)).trans <| (lk_tl (by decide +kernel)).trans <| (lk_tl (by decide +kernel)).trans <| lk_nil
theorem no_Disk_writes {x0 x1 x2 x3 : V} : List.lookup ("writes" : Str) ([("blocks", x0), ("done", x1), ("left", x2), ("down", x3)] : List (Str × V)) = none := (lk_tl (by decide +kernel)).trans <| (lk_tl (by decide +kernel)).trans <| (lk_tl (by decide +kernel)).trans <| (lk_tl (by decide +kernel)).trans <| lk_nil
theorem no_Disk_fall {x0 x1 x2 x3 : V} : List.lookup ("fall" : Str) ([("blocks", x0), ("done", x1), ("left", x2), ("down", x3)] : List (Str × V)) = none := (lk_tl (by decide +kernel)).trans <| (lk_tl (by decide +kernel)).trans <| (lk_tl (by decide +kernel)).trans <| (lk_tl (by decide +kernel)).trans <| lk_nil
theorem no_Disk_rise {x0 x1 x2 x3 : V} : List.lookup ("rise" : Str) ([("blocks", x0), ("done", x1), ("left", x2), ("down", x3)] : List (Str × V)) = none := (lk_tl (by decide +kernel)).trans <| (lk_tl (by decide +kernel)).trans <| (lk_tl (by decide +kernel)).trans <| (lk_tl (by decide +kernel)).trans <| lk_nil
theorem no_Disk_image {x0 x1 x2 x3 : V} : List.lookup ("image" : Str) ([("blocks", x0), ("done", x1), ("left", x2), ("down", x3)] : List (Str × V)) = none := (lk_tl (by decide +kernel)).trans <| (lk_tl (by decide +kernel)).trans <| (lk_tl (by decide +kernel)).trans <| (lk_tl (by decide +kernel)).trans <| lk_nil
def c_Disk (K : PySem.W.Frag) : Addr := He.ga K "Disk"
def c_NoBlock (K : PySem.W.Frag) : Addr := He.ga K "NoBlock"
def c_Fallen (K : PySem.W.Frag) : Addr := He.ga K "Fallen"
def c_KernelError (K : PySem.W.Frag) : Addr := He.ga K "KernelError"
structure Dk where
  bs : List (List Int)
  done : Int
  left : Option Int
  down : Bool
def Dk.falls (D : Dk) : Bool := D.down || D.left == some 0
abbrev Dk.wr (D : Dk) (n : Nat) (r : List Int) : Dk := ⟨D.bs.set n r, D.done + 1, D.left.map (· - 1), D.down⟩
def Dk.run : List (Nat × List Int) → Dk → Bool × Dk
  | [], D => (true, D)
  | (n, r) :: ws, D => if D.falls then (false, { D with down := true }) else Dk.run ws (D.wr n r)
@[reducible] def lv : Option Int → V
  | none => .non
  | some i => .int i
abbrev dfs (b : Addr) (D : Dk) : List (Str × V) := [("blocks", .ref b), ("done", .int D.done), ("left", lv D.left), ("down", .bl D.down)]
def disk (K : PySem.W.Frag) (d : Addr) (D : Dk) : HP := HP.exi fun b => HP.exi fun as => HP.all [obj (c_Disk K) d (dfs b D), pt b (.lst (as.map V.ref)), rows as D.bs]
section
variable {K : PySem.W.Frag} {F0 : FP} {H0 H : Hp} {L L1 : List HP} {d b : Addr} {D : Dk} {as : List Addr}
theorem At.diskE (h : At F0 H0 L H) (s : Sel (disk K d D) L L1) : ∃ b as, At F0 H0 (obj (c_Disk K) d (dfs b D) :: pt b (.lst (as.map V.ref)) :: rows as D.bs :: L1) H := by
  obtain ⟨b, h⟩ := (h.sel s).exE
  obtain ⟨as, h⟩ := h.exE
  exact ⟨b, as, h.allE⟩
theorem At.diskI (h : At F0 H0 L H) (s : Arr [obj (c_Disk K) d (dfs b D), pt b (.lst (as.map V.ref)), rows as D.bs] L L1) : At F0 H0 (disk K d D :: L1) H :=
  ((At.allI (h.arr s)).exI as).exI b
theorem At.diskOb (h : At F0 H0 L H) (s : Sel (disk K d D) L L1) : ∃ b dx, H d = some (.ins (c_Disk K) dx (dfs b D)) := by
  obtain ⟨b, as, h⟩ := h.diskE s
  obtain ⟨dx, e⟩ := h.ob .here
  exact ⟨b, dx, e⟩
theorem s_mdisk {m : Str} (h : At F0 H0 L H) (s : Sel (disk K d D) L L1) (l : ∀ b, (dfs b D).lookup m = none) {A : Prop} (q : A) : kIns (c_Disk K) m (.ref d) H ∧ A := by
  obtain ⟨b, dx, e⟩ := h.diskOb s
  exact ⟨⟨d, dx, _, rfl, e, l b⟩, q⟩
end
/-! ### promises -/
def sp_Disk___init__ (K : PySem.W.Frag) : Sp := fun vs H Q E => ∃ (x : Addr) (m : Int), vs = [.ref x, .int m] ∧ 0 ≤ m ∧ m ≤ 1000 ∧
  Tri [obj (c_Disk K) x []] (fun v L' => v = .non ∧ L' = [disk K x ⟨List.replicate m.toNat (List.replicate 16 0), 0, none, false⟩]) (fun _ _ _ => False) H Q E
def sp_Disk_look (K : PySem.W.Frag) : Sp := fun vs H Q E => ∃ (d : Addr) (D : Dk) (n : Int), vs = [.ref d, .int n] ∧ 0 ≤ n ∧ n < D.bs.length ∧
  Tri [disk K d D] (fun v L' => v = .non ∧ L' = [disk K d D]) (fun _ _ _ => False) H Q E
def sp_Disk_read (K : PySem.W.Frag) : Sp := fun vs H Q E => ∃ (d : Addr) (D : Dk) (n : Int) (r : List Int), vs = [.ref d, .int n] ∧ 0 ≤ n ∧ D.bs[n.toNat]? = some r ∧ D.down = false ∧
  Tri [disk K d D] (fun v L' => ∃ p, v = .ref p ∧ L' = [pt p (il r), disk K d D]) (fun _ _ _ => False) H Q E
def sp_Disk_write (K : PySem.W.Frag) : Sp := fun vs H Q E => ∃ (d p : Addr) (D : Dk) (n : Int) (r : List Int), vs = [.ref d, .int n, .ref p] ∧ 0 ≤ n ∧ n < D.bs.length ∧
  Tri [disk K d D, pt p (il r)] (fun v L' => v = .non ∧ D.falls = false ∧ L' = [disk K d (D.wr n.toNat r), pt p (il r)]) (fun c dd L' => c = .ref (c_Fallen K) ∧ dd = none ∧ D.falls = true ∧ L' = [disk K d { D with down := true }, pt p (il r)]) H Q E
def sp_Disk_writes (K : PySem.W.Frag) : Sp := fun vs H Q E => ∃ (d : Addr) (D : Dk), vs = [.ref d] ∧
  Tri [disk K d D] (fun v L' => v = .int D.done ∧ L' = [disk K d D]) (fun _ _ _ => False) H Q E
def sp_Disk_fall (K : PySem.W.Frag) : Sp := fun vs H Q E => ∃ (d : Addr) (D : Dk) (n : Int), vs = [.ref d, .int n] ∧
  Tri [disk K d D] (fun v L' => v = .non ∧ L' = [disk K d { D with left := some n }]) (fun _ _ _ => False) H Q E
def sp_Disk_rise (K : PySem.W.Frag) : Sp := fun vs H Q E => ∃ (d : Addr) (D : Dk), vs = [.ref d] ∧
  Tri [disk K d D] (fun v L' => v = .non ∧ L' = [disk K d { D with left := none, down := false }]) (fun _ _ _ => False) H Q E
def sp_Disk_image (K : PySem.W.Frag) : Sp := fun vs H Q E => ∃ (d : Addr) (D : Dk), vs = [.ref d] ∧ D.bs.length ≤ 1000 ∧
  Tri [disk K d D] (fun v L' => ∃ p as, v = .ref p ∧ L' = [pt p (.lst (as.map V.ref)), rows as D.bs, disk K d D]) (fun _ _ _ => False) H Q E
def shW (bs : List (List Int)) : Nat → List Int → List (Nat × List Int)
  | _, [] => []
  | i, x :: xs => (x.toNat, bs.getD (3 + i) []) :: shW bs (i + 1) xs
def okHomes (D : Dk) (hs : List Int) : Prop := hs.length ≤ 24 ∧ (∀ x ∈ hs, 28 ≤ x ∧ x < D.bs.length) ∧ 28 ≤ D.bs.length ∧ D.down = false
def sp_send_home (K : PySem.W.Frag) : Sp := fun vs H Q E => ∃ (d h : Addr) (D : Dk) (hs : List Int), vs = [.ref d, .ref h] ∧ okHomes D hs ∧
  Tri [disk K d D, pt h (il hs)] (fun v L' => v = .non ∧ (D.run (shW D.bs 0 hs)).1 = true ∧ L' = [disk K d (D.run (shW D.bs 0 hs)).2, pt h (il hs)])
    (fun c dd L' => c = .ref (c_Fallen K) ∧ dd = none ∧ (D.run (shW D.bs 0 hs)).1 = false ∧ L' = [disk K d (D.run (shW D.bs 0 hs)).2, pt h (il hs)]) H Q E
def sp_mark (K : PySem.W.Frag) : Sp := fun vs H Q E => ∃ (d : Addr) (D : Dk) (m : Int), vs = [.ref d, .int m] ∧ 0 < D.bs.length ∧
  Tri [disk K d D] (fun v L' => v = .non ∧ D.falls = false ∧ L' = [disk K d (D.wr 0 (m :: List.replicate 15 0))])
    (fun c dd L' => c = .ref (c_Fallen K) ∧ dd = none ∧ D.falls = true ∧ L' = [disk K d { D with down := true }]) H Q E
/-- changes: a dict of blocks -/
def kvC (m : List (Int × List Int)) (as : List Addr) : List (Key × V) := List.zipWith (fun p a => (Sum.inl p.1, V.ref a)) m as
def chgA (c : Addr) (m : List (Int × List Int)) (as : List Addr) : HP := HP.all [pt c (.dK (kvC m as)), rows as (m.map (·.2))]
def chg (c : Addr) (m : List (Int × List Int)) : HP := HP.exi fun as => chgA c m as
def okChg (D : Dk) (m : List (Int × List Int)) : Prop := m.length ≤ 24 ∧ 0 < m.length ∧ (m.map (·.1)).Nodup ∧ (∀ p ∈ m, 28 ≤ p.1 ∧ p.1 < D.bs.length) ∧ 28 ≤ D.bs.length ∧ D.down = false
def look (m : List (Int × List Int)) (x : Int) : List Int := ((m.find? fun p => p.1 == x).map (·.2)).getD []
def jW (m : List (Int × List Int)) : Nat → List Int → List (Nat × List Int)
  | _, [] => []
  | i, x :: xs => (3 + i, look m x) :: jW m (i + 1) xs
def hW (m : List (Int × List Int)) (hs : List Int) : List (Nat × List Int) := hs.map fun x => (x.toNat, look m x)
def cmW (m : List (Int × List Int)) (hs : List Int) : List (Nat × List Int) :=
  jW m 0 hs ++ ([(1, (hs ++ List.replicate 32 0).take 16), (2, ((hs ++ List.replicate 32 0).drop 16).take 16), (0, (hs.length : Int) :: List.replicate 15 0)] ++ (hW m hs ++ [(0, 0 :: List.replicate 15 0)]))
def isHomes (m : List (Int × List Int)) (hs : List Int) : Prop := hs.Perm (m.map (·.1)) ∧ hs.Pairwise (· ≤ ·)
def sp_commit (K : PySem.W.Frag) : Sp := fun vs H Q E => ∃ (d c : Addr) (D : Dk) (m : List (Int × List Int)) (as : List Addr), vs = [.ref d, .ref c] ∧ okChg D m ∧
  Tri [disk K d D, chgA c m as] (fun v L' => v = .non ∧ ∃ hs, isHomes m hs ∧ (D.run (cmW m hs)).1 = true ∧ L' = [disk K d (D.run (cmW m hs)).2, chgA c m as])
    (fun cl dd L' => cl = .ref (c_Fallen K) ∧ dd = none ∧ ∃ hs, isHomes m hs ∧ (D.run (cmW m hs)).1 = false ∧ L' = [disk K d (D.run (cmW m hs)).2, chgA c m as]) H Q E
def recD (D : Dk) (k : Int) (hs : List Int) : Dk := if k ≤ 0 then D else (D.run (shW D.bs 0 hs ++ [(0, 0 :: List.replicate 15 0)])).2
def sp_recover (K : PySem.W.Frag) : Sp := fun vs H Q E => ∃ (d : Addr) (D : Dk) (k : Int) (tl hs : List Int), vs = [.ref d] ∧ D.down = false ∧ D.bs[0]? = some (k :: tl) ∧
  (0 < k → D.left = none ∧ okHomes D hs ∧ k.toNat = hs.length ∧ ∃ r1 r2, D.bs[1]? = some r1 ∧ D.bs[2]? = some r2 ∧ r1.length = 16 ∧ r2.length = 16 ∧ (r1 ++ r2).take k.toNat = hs) ∧
  Tri [disk K d D] (fun v L' => v = .int k ∧ L' = [disk K d (recD D k hs)]) (fun _ _ _ => False) H Q E
def sp__law_draw (K : PySem.W.Frag) : Sp := sp_draw
def sp__law_tape (K : PySem.W.Frag) : Sp := sp_tape K
/-- a block: 16 numbers -/
def sp__law_block (K : PySem.W.Frag) : Sp := fun vs H Q E => ∃ (a : Addr) (n : Nat), vs = [.ref a] ∧ n + 17 < 2 ^ 40 ∧
  Tri [tape a n] (fun v L' => ∃ p r, v = .ref p ∧ r.length = 16 ∧ L' = [pt p (il r), tape a (n + 17)]) (fun _ _ _ => False) H Q E
def sp__law_changes (K : PySem.W.Frag) : Sp := fun vs H Q E => ∃ (a : Addr) (n : Nat) (many : Int), vs = [.ref a, .int many] ∧ n + 500 < 2 ^ 40 ∧ 29 ≤ many ∧ many ≤ 1000 ∧
  Tri [tape a n] (fun v L' => ∃ p m, v = .ref p ∧ m.length ≤ 24 ∧ 0 < m.length ∧ (m.map (·.1)).Nodup ∧ (∀ q ∈ m, 28 ≤ q.1 ∧ q.1 < many ∧ q.2.length = 16) ∧ L' = [chg p m, tape a (n + 500)]) (fun _ _ _ => False) H Q E
/-- nothing to recover, all blocks are of ints -/
def idle (D : Dk) : Prop := D.down = false ∧ 29 ≤ D.bs.length ∧ D.bs.length ≤ 1000 ∧ (∃ tl, D.bs[0]? = some (0 :: tl)) ∧ ∀ r ∈ D.bs, r.length = 16
def sp__law_idle_right (K : PySem.W.Frag) : Sp := fun vs H Q E => ∃ (d : Addr) (D : Dk), vs = [.ref d] ∧ idle D ∧
  Tri [disk K d D] (fun v L' => v = .bl true ∧ L' = [disk K d D]) (fun _ _ _ => False) H Q E
/-- behind a law's part: still idle, not falling -/
def calmD (D : Dk) (N : Nat) : Prop := idle D ∧ D.left = none ∧ D.bs.length = N
def sp__law_falls_right (K : PySem.W.Frag) : Sp := fun vs H Q E => ∃ (a d : Addr) (D : Dk) (n : Nat), vs = [.ref a, .ref d, .int D.bs.length] ∧ n + 200 < 2 ^ 40 ∧ calmD D D.bs.length ∧
  Tri [tape a n, disk K d D] (fun v L' => v = .bl true ∧ ∃ D', calmD D' D.bs.length ∧ L' = [tape a (n + 200), disk K d D']) (fun _ _ _ => False) H Q E
def sp__law_fallen_right (K : PySem.W.Frag) : Sp := fun vs H Q E => ∃ (a d : Addr) (D : Dk) (n : Nat), vs = [.ref a, .ref d, .int D.bs.length] ∧ n + 600 < 2 ^ 40 ∧ calmD D D.bs.length ∧
  Tri [tape a n, disk K d D] (fun v L' => v = .bl true ∧ ∃ D', L' = [tape a (n + 600), disk K d D']) (fun _ _ _ => False) H Q E
def sp__law_lists_right (K : PySem.W.Frag) : Sp := fun vs H Q E => ∃ (a d : Addr) (D : Dk) (n : Nat), vs = [.ref a, .ref d, .int D.bs.length] ∧ n + 100 < 2 ^ 40 ∧ calmD D D.bs.length ∧
  Tri [tape a n, disk K d D] (fun v L' => v = .bl true ∧ ∃ D', calmD D' D.bs.length ∧ L' = [tape a (n + 100), disk K d D']) (fun _ _ _ => False) H Q E
def sp_law (K : PySem.W.Frag) : Sp := fun vs H Q E => ∃ (a : Addr) (ns : List Int), vs = [.ref a] ∧ ns.length ≤ 63 ∧ Tri [scr K a ns] (fun v _ => v = .bl true) (fun _ _ _ => False) H Q E
end S
set_option Elab.async false
set_option linter.all false
set_option maxRecDepth 100000
set_option maxHeartbeats 1000000
namespace S
open PySem PySem.Spec L2
def t_Disk___init__ (K : PySem.W.Frag) (W : WX) : TS :=
  (tSeq (tS (c_Disk K) "blocks" (tVar 0) (tLc (iRng1 (tCons (tVar 1) tNil)) (gName 2) tYes (tOp rRep (tLst (tCons (tC (.int 0)) tNil)) (tC (.int 16))) [2]))
  (tSeq (tS (c_Disk K) "done" (tVar 0) (tC (.int 0)))
  (tSeq (tS (c_Disk K) "left" (tVar 0) (tC .non))
  (tS (c_Disk K) "down" (tVar 0) (tC (.bl false))))))
abbrev n_Disk___init__ : List Str := ["self", "many", "block"]
def t_Disk_look (K : PySem.W.Frag) (W : WX) : TS :=
  (tIfS (tNot (tTest (tChain rLe rLt (tC (.int 0)) (tVar 1) (tCB (rLen K) (tCons (tF (c_Disk K) "blocks" (tVar 0)) tNil))))) (tRaise (c_NoBlock K) W) tNext)
abbrev n_Disk_look : List Str := ["self", "n"]
def t_Disk_writes (K : PySem.W.Frag) (W : WX) : TS :=
  (tRet (tF (c_Disk K) "done" (tVar 0)))
abbrev n_Disk_writes : List Str := ["self"]
def t_Disk_fall (K : PySem.W.Frag) (W : WX) : TS :=
  (tS (c_Disk K) "left" (tVar 0) (tVar 1))
abbrev n_Disk_fall : List Str := ["self", "after"]
def t_Disk_rise (K : PySem.W.Frag) (W : WX) : TS :=
  (tSeq (tS (c_Disk K) "left" (tVar 0) (tC .non))
  (tS (c_Disk K) "down" (tVar 0) (tC (.bl false))))
abbrev n_Disk_rise : List Str := ["self"]
def t_Disk_image (K : PySem.W.Frag) (W : WX) : TS :=
  (tRet (tLc (iList K (tF (c_Disk K) "blocks" (tVar 0))) (gName 1) tYes (tCB (rListOf K) (tCons (tVar 1) tNil)) [1]))
abbrev n_Disk_image : List Str := ["self", "block"]
def t__law_tape (K : PySem.W.Frag) (W : WX) : TS :=
  (tSeq (tAsg (tIf (tTest (tOp rLt (tVar 1) (tCB (rLen K) (tCons (tVar 0) tNil)))) (tOp (rIxL K) (tVar 0) (tVar 1)) (tC (.int 0))) (gName 2))
  (tRet (tLst (tCons (tOp rMul (tCB rAbs (tCons (tVar 2) tNil)) (tCB rInt1 (tCons (tOp rGe (tCB rAbs (tCons (tVar 2) tNil)) (tOp rPow (tC (.int 10)) (tC (.int 18)))) tNil))) (tCons (tOp rPlus (tOp rPlus (tOp rMod (tVar 2) (tC (.int 2305843009213693951))) (tOp rMul (tC (.int 39373)) (tVar 1))) (tC (.int 17))) (tCons (tC (.int 0)) tNil))))))
abbrev n__law_tape : List Str := ["script", "k", "cell"]
def t__law_draw (K : PySem.W.Frag) (W : WX) : TS :=
  (tSeq (tIfS (tTest (tOp rGt (tOp (rIxL K) (tVar 0) (tC (.int 0))) (tC (.int 0)))) (tSeq (tAsg (tOp rMod (tOp (rIxL K) (tVar 0) (tC (.int 0))) (tVar 1)) (gName 2))
  (tSeq (tAsg (tOp rFdiv (tOp (rIxL K) (tVar 0) (tC (.int 0))) (tVar 1)) (gSub (tVar 0) (tC (.int 0)) rSetL))
  (tRet (tVar 2)))) tNext)
  (tSeq (tAsg (tOp rPlus (tOp (rIxL K) (tVar 0) (tC (.int 2))) (tC (.int 1))) (gSub (tVar 0) (tC (.int 2)) rSetL))
  (tSeq (tAsg (tOp rMod (tOp rPow (tOp rPlus (tOp (rIxL K) (tVar 0) (tC (.int 1))) (tOp rMul (tC (.int 39373)) (tOp (rIxL K) (tVar 0) (tC (.int 2))))) (tC (.int 5))) (tC (.int 2147483647))) (gName 3))
  (tSeq (tAsg (tOp rMod (tOp rMul (tOp rPlus (tVar 3) (tOp (rIxL K) (tVar 0) (tC (.int 2)))) (tOp rPlus (tOp rPlus (tOp rMod (tVar 3) (tC (.int 40009))) (tC (.int 7))) (tOp (rIxL K) (tVar 0) (tC (.int 2))))) (tC (.int 2147483629))) (gName 4))
  (tRet (tOp rMod (tOp rFdiv (tOp rMod (tOp rPlus (tOp rMul (tVar 4) (tC (.int 48271))) (tVar 3)) (tC (.int 2147483587))) (tC (.int 64))) (tVar 1)))))))
abbrev n__law_draw : List Str := ["tape", "many", "found", "once", "twice"]
def t_Disk_read (K : PySem.W.Frag) (W : WX) : TS :=
  (tSeq (tDrop (tM (c_Disk K) "look" (sp_Disk_look K) (WE W) (tVar 0) (tCons (tVar 1) tNil)))
  (tSeq (tIfS (tB (tF (c_Disk K) "down" (tVar 0))) (tRaise (c_Fallen K) W) tNext)
  (tRet (tCB (rListOf K) (tCons (tOp (rIxL K) (tF (c_Disk K) "blocks" (tVar 0)) (tVar 1)) tNil)))))
abbrev n_Disk_read : List Str := ["self", "n"]
def t_Disk_write (K : PySem.W.Frag) (W : WX) : TS :=
  (tSeq (tDrop (tM (c_Disk K) "look" (sp_Disk_look K) (WE W) (tVar 0) (tCons (tVar 1) tNil)))
  (tSeq (tIfS (tOr (tB (tF (c_Disk K) "down" (tVar 0))) (tTest (tOp rEq (tF (c_Disk K) "left" (tVar 0)) (tC (.int 0))))) (tSeq (tS (c_Disk K) "down" (tVar 0) (tC (.bl true)))
  (tRaise (c_Fallen K) W)) tNext)
  (tSeq (tIfS (tTest (tOp rNotN (tF (c_Disk K) "left" (tVar 0)) (tC .non))) (tSA (c_Disk K) "left" rSub (tVar 0) (tC (.int 1))) tNext)
  (tSeq (tAsg (tCB (rListOf K) (tCons (tVar 2) tNil)) (gSub (tF (c_Disk K) "blocks" (tVar 0)) (tVar 1) rSetL))
  (tSA (c_Disk K) "done" rAdd (tVar 0) (tC (.int 1)))))))
abbrev n_Disk_write : List Str := ["self", "n", "numbers"]
def t__law_block (K : PySem.W.Frag) (W : WX) : TS :=
  (tSeq (tIfS (tTest (tOp rEq (tK (sp__law_draw K) (WE W) (tCons (tVar 0) (tCons (tC (.int 2)) tNil))) (tC (.int 0)))) (tRet (tOp rRep (tLst (tCons (tK (sp__law_draw K) (WE W) (tCons (tVar 0) (tCons (tC (.int 65536)) tNil))) tNil)) (tC (.int 16)))) tNext)
  (tRet (tLc (iRng1 (tCons (tC (.int 16)) tNil)) (gName 1) tYes (tK (sp__law_draw K) (WE WF) (tCons (tVar 0) (tCons (tC (.int 65536)) tNil))) [1])))
abbrev n__law_block : List Str := ["tape", "k"]
def t_send_home (K : PySem.W.Frag) (W : WX) : TS :=
  (tFor (iEnum K (tCons (tVar 1) tNil)) (gTup K 2 (gCons (gName 2) (gCons (gName 3) gNil)))
  (tDrop (tM (c_Disk K) "write" (sp_Disk_write K) (WE W) (tVar 0) (tCons (tVar 3) (tCons (tM (c_Disk K) "read" (sp_Disk_read K) (WE W) (tVar 0) (tCons (tOp rPlus (tC (.int 3)) (tVar 2)) tNil)) tNil)))))
abbrev n_send_home : List Str := ["disk", "homes", "place", "home"]
def t_mark (K : PySem.W.Frag) (W : WX) : TS :=
  (tDrop (tM (c_Disk K) "write" (sp_Disk_write K) (WE W) (tVar 0) (tCons (tC (.int 0)) (tCons (tOp rCat (tLst (tCons (tVar 1) tNil)) (tOp rRep (tLst (tCons (tC (.int 0)) tNil)) (tC (.int 15)))) tNil))))
abbrev n_mark : List Str := ["disk", "many"]
def t__law_changes (K : PySem.W.Frag) (W : WX) : TS :=
  (tSeq (tAsg tDNewK (gName 2))
  (tSeq (tFor (iRng1 (tCons (tOp rPlus (tC (.int 1)) (tK (sp__law_draw K) (WE W) (tCons (tVar 0) (tCons (tC (.int 24)) tNil)))) tNil)) (gName 3)
  (sDPut (tVar 2) (tOp rPlus (tC (.int 28)) (tK (sp__law_draw K) (WE W) (tCons (tVar 0) (tCons (tOp rMinus (tVar 1) (tC (.int 28))) tNil)))) (tK (sp__law_block K) (WE W) (tCons (tVar 0) tNil))))
  (tRet (tCB (rDictP K) (tCons (tLc (iList K (tSl (rSlL K) (tCB rListD (tCons (tVar 2) tNil)) tNoPart (tPart (tC (.int 24))))) (gName 4) tYes (tTup (tCons (tVar 4) (tCons (tDGet (tVar 2) (tVar 4)) tNil))) [4]) tNil)))))
abbrev n__law_changes : List Str := ["tape", "many", "changes", "turn", "n"]
def t__law_lists_right (K : PySem.W.Frag) (W : WX) : TS :=
  (tSeq (tAsg (tTup (tCons (tK (sp__law_block K) (WE W) (tCons (tVar 0) tNil)) (tCons (tM (c_Disk K) "image" (sp_Disk_image K) (WE W) (tVar 1) tNil) tNil))) (gTup K 2 (gCons (gName 3) (gCons (gName 4) gNil))))
  (tSeq (tAsg (tTup (tCons (tOp rPlus (tC (.int 28)) (tK (sp__law_draw K) (WE W) (tCons (tVar 0) (tCons (tOp rMinus (tVar 2) (tC (.int 28))) tNil)))) (tCons (tOp rPlus (tC (.int 28)) (tK (sp__law_draw K) (WE W) (tCons (tVar 0) (tCons (tOp rMinus (tVar 2) (tC (.int 28))) tNil)))) tNil))) (gTup K 2 (gCons (gName 5) (gCons (gName 6) gNil))))
  (tSeq (tDrop (tM (c_Disk K) "write" (sp_Disk_write K) (WE W) (tVar 1) (tCons (tVar 5) (tCons (tVar 3) tNil))))
  (tSeq (tDrop (tM (c_Disk K) "write" (sp_Disk_write K) (WE W) (tVar 1) (tCons (tVar 6) (tCons (tVar 3) tNil))))
  (tSeq (tAsg (tLc (iEnum K (tCons (tVar 4) tNil)) (gTup K 2 (gCons (gName 11) (gCons (gName 10) gNil))) tYes (tIf (tTest (tOp (rIn K false) (tVar 11) (tTup (tCons (tVar 5) (tCons (tVar 6) tNil))))) (tCB (rListOf K) (tCons (tVar 3) tNil)) (tVar 10)) [11, 10]) (gName 7))
  (tSeq (tDrop (tBM K "list" rAppend (tVar 3) (tCons (tC (.int 7)) tNil)))
  (tSeq (tAsg (tC (.int 0)) (gSub (tVar 3) (tC (.int 0)) rSetL))
  (tSeq (tFor (iTup K (tTup (tCons (tC (.int 0)) (tCons (tVar 5) (tCons (tVar 6) (tCons (tK (sp__law_draw K) (WE W) (tCons (tVar 0) (tCons (tVar 2) tNil))) (tCons (tOp rMinus (tVar 2) (tC (.int 1))) tNil))))))) (gName 8)
  (tSeq (tAsg (tLst (tCons (tM (c_Disk K) "image" (sp_Disk_image K) (WE W) (tVar 1) tNil) (tCons (tM (c_Disk K) "image" (sp_Disk_image K) (WE W) (tVar 1) tNil) tNil))) (gName 9))
  (tSeq (tDrop (tBM K "list" rAppend (tOp (rIxL K) (tOp (rIxL K) (tVar 9) (tC (.int 0))) (tVar 8)) (tCons (tC (.int 9)) tNil)))
  (tSeq (tAsg (tOp rMinus (tC (.int 1)) (tCB rMin2 (tCons (tC (.int 1)) (tCons (tOp (rIxL K) (tOp (rIxL K) (tOp (rIxL K) (tVar 9) (tC (.int 0))) (tVar 8)) (tC (.int 0))) tNil)))) (gSub (tOp (rIxL K) (tOp (rIxL K) (tVar 9) (tC (.int 0))) (tVar 8)) (tC (.int 0)) rSetL))
  (tSeq (tIfS (tOr (tTest (tOp (rNeD K) (tOp (rIxL K) (tVar 9) (tC (.int 1))) (tVar 7))) (tTest (tOp (rNeD K) (tLc (iRng1 (tCons (tVar 2) tNil)) (gName 11) (tTest (tOp (rNeD K) (tOp (rIxL K) (tOp (rIxL K) (tVar 9) (tC (.int 0))) (tVar 11)) (tOp (rIxL K) (tVar 7) (tVar 11)))) (tVar 11) [11]) (tLst (tCons (tVar 8) tNil))))) (tRet (tC (.bl false))) tNext)
  (tSeq (tAsg (tM (c_Disk K) "read" (sp_Disk_read K) (WE W) (tVar 1) (tCons (tVar 8) tNil)) (gName 10))
  (tSeq (tDrop (tBM0 K "list" rReverse (tVar 10)))
  (tSeq (tDrop (tBM K "list" rAppend (tVar 10) (tCons (tC (.int 5)) tNil)))
  (tIfS (tTest (tOp (rNeD K) (tM (c_Disk K) "read" (sp_Disk_read K) (WE W) (tVar 1) (tCons (tVar 8) tNil)) (tOp (rIxL K) (tVar 7) (tVar 8)))) (tRet (tC (.bl false))) tNext)))))))))
  (tRet (tC (.bl true)))))))))))
abbrev n__law_lists_right : List Str := ["tape", "disk", "many", "row", "ahead", "one", "other", "due", "at", "told", "block", "n"]
def t_commit (K : PySem.W.Frag) (W : WX) : TS :=
  (tSeq (tAsg (tCB rSortedDI (tCons (tVar 1) tNil)) (gName 2))
  (tSeq (tFor (iEnum K (tCons (tVar 2) tNil)) (gTup K 2 (gCons (gName 3) (gCons (gName 4) gNil)))
  (tDrop (tM (c_Disk K) "write" (sp_Disk_write K) (WE W) (tVar 0) (tCons (tOp rPlus (tC (.int 3)) (tVar 3)) (tCons (tDGet (tVar 1) (tVar 4)) tNil)))))
  (tSeq (tAsg (tOp rCat (tVar 2) (tOp rRep (tLst (tCons (tC (.int 0)) tNil)) (tC (.int 32)))) (gName 5))
  (tSeq (tDrop (tM (c_Disk K) "write" (sp_Disk_write K) (WE W) (tVar 0) (tCons (tC (.int 1)) (tCons (tSl (rSlL K) (tVar 5) tNoPart (tPart (tC (.int 16)))) tNil))))
  (tSeq (tDrop (tM (c_Disk K) "write" (sp_Disk_write K) (WE W) (tVar 0) (tCons (tOp rPlus (tC (.int 1)) (tC (.int 1))) (tCons (tSl (rSlL K) (tVar 5) (tPart (tC (.int 16))) (tPart (tC (.int 32)))) tNil))))
  (tSeq (tDrop (tK (sp_mark K) (WE W) (tCons (tVar 0) (tCons (tCB (rLen K) (tCons (tVar 2) tNil)) tNil))))
  (tSeq (tDrop (tK (sp_send_home K) (WE W) (tCons (tVar 0) (tCons (tVar 2) tNil))))
  (tDrop (tK (sp_mark K) (WE W) (tCons (tVar 0) (tCons (tC (.int 0)) tNil)))))))))))
abbrev n_commit : List Str := ["disk", "changes", "homes", "place", "home", "row"]
def t_recover (K : PySem.W.Frag) (W : WX) : TS :=
  (tSeq (tAsg (tOp (rIxL K) (tM (c_Disk K) "read" (sp_Disk_read K) (WE W) (tVar 0) (tCons (tC (.int 0)) tNil)) (tC (.int 0))) (gName 1))
  (tSeq (tIfS (tTest (tOp rGt (tVar 1) (tC (.int 0)))) (tSeq (tAsg (tOp rCat (tM (c_Disk K) "read" (sp_Disk_read K) (WE W) (tVar 0) (tCons (tC (.int 1)) tNil)) (tM (c_Disk K) "read" (sp_Disk_read K) (WE W) (tVar 0) (tCons (tOp rPlus (tC (.int 1)) (tC (.int 1))) tNil))) (gName 2))
  (tSeq (tDrop (tK (sp_send_home K) (WE W) (tCons (tVar 0) (tCons (tSl (rSlL K) (tVar 2) tNoPart (tPart (tVar 1))) tNil))))
  (tDrop (tK (sp_mark K) (WE W) (tCons (tVar 0) (tCons (tC (.int 0)) tNil)))))) tNext)
  (tRet (tVar 1))))
abbrev n_recover : List Str := ["disk", "many", "homes"]
def t__law_idle_right (K : PySem.W.Frag) (W : WX) : TS :=
  (tSeq (tPar 1 2 (tCons (tM (c_Disk K) "image" (sp_Disk_image K) (WE W) (tVar 0) tNil) (tCons (tM (c_Disk K) "writes" (sp_Disk_writes K) (WE W) (tVar 0) tNil) tNil)))
  (tSeq (tAsg (tLst (tCons (tK (sp_recover K) (WE W) (tCons (tVar 0) tNil)) (tCons (tK (sp_recover K) (WE W) (tCons (tVar 0) tNil)) tNil))) (gName 3))
  (tRet (tAndV (tOp (rEqD K) (tVar 3) (tLst (tCons (tC (.int 0)) (tCons (tC (.int 0)) tNil)))) (tAndV (tNotV (tCB (rIsi K) (tCons (tOp (rIxL K) (tVar 3) (tC (.int 0))) (tCons (tC (.ty "bool")) tNil)))) (tAndV (tOp (rEqD K) (tM (c_Disk K) "image" (sp_Disk_image K) (WE W) (tVar 0) tNil) (tVar 1)) (tOp rEq (tM (c_Disk K) "writes" (sp_Disk_writes K) (WE W) (tVar 0) tNil) (tVar 2))))))))
abbrev n__law_idle_right : List Str := ["disk", "image", "writes", "told"]
def t__law_falls_right (K : PySem.W.Frag) (W : WX) : TS :=
  (tSeq (tAsg (tK (sp__law_draw K) (WE W) (tCons (tVar 0) (tCons (tC (.int 4)) tNil))) (gName 3))
  (tSeq (tPar 4 5 (tCons (tM (c_Disk K) "image" (sp_Disk_image K) (WE W) (tVar 1) tNil) (tCons (tM (c_Disk K) "writes" (sp_Disk_writes K) (WE W) (tVar 1) tNil) tNil)))
  (tSeq (tDrop (tM (c_Disk K) "fall" (sp_Disk_fall K) (WE W) (tVar 1) (tCons (tVar 3) tNil)))
  (tSeq (tIfS (tOr (tTest (tOp rNe (tK (sp_recover K) (WE W) (tCons (tVar 1) tNil)) (tC (.int 0)))) (tOr (tTest (tOp (rNeD K) (tM (c_Disk K) "image" (sp_Disk_image K) (WE W) (tVar 1) tNil) (tVar 4))) (tTest (tOp rNe (tM (c_Disk K) "writes" (sp_Disk_writes K) (WE W) (tVar 1) tNil) (tVar 5))))) (tRet (tC (.bl false))) tNext)
  (tSeq (tFor (iRng1 (tCons (tVar 3) tNil)) (gName 6)
  (tDrop (tM (c_Disk K) "write" (sp_Disk_write K) (WE W) (tVar 1) (tCons (tOp rPlus (tC (.int 28)) (tK (sp__law_draw K) (WE W) (tCons (tVar 0) (tCons (tOp rMinus (tVar 2) (tC (.int 28))) tNil)))) (tCons (tK (sp__law_block K) (WE W) (tCons (tVar 0) tNil)) tNil)))))
  (tSeq (tPar 4 7 (tCons (tM (c_Disk K) "image" (sp_Disk_image K) (WE W) (tVar 1) tNil) (tCons (tC (.bl false)) tNil)))
  (tSeq (tTry K (.ref (c_Fallen K)) (fun _ _ _ => (tAsg (tC (.bl true)) (gName 7))) (fun W1 => (tDrop (tM (c_Disk K) "write" (sp_Disk_write K) (WE W1) (tVar 1) (tCons (tOp rPlus (tC (.int 28)) (tK (sp__law_draw K) (WE W1) (tCons (tVar 0) (tCons (tOp rMinus (tVar 2) (tC (.int 28))) tNil)))) (tCons (tK (sp__law_block K) (WE W1) (tCons (tVar 0) tNil)) tNil))))) W)
  (tSeq (tDrop (tM (c_Disk K) "rise" (sp_Disk_rise K) (WE W) (tVar 1) tNil))
  (tRet (tAndV (tVar 7) (tAndV (tOp rEq (tK (sp_recover K) (WE W) (tCons (tVar 1) tNil)) (tC (.int 0))) (tAndV (tOp (rEqD K) (tM (c_Disk K) "image" (sp_Disk_image K) (WE W) (tVar 1) tNil) (tVar 4)) (tOp rEq (tM (c_Disk K) "writes" (sp_Disk_writes K) (WE W) (tVar 1) tNil) (tOp rPlus (tVar 5) (tVar 3)))))))))))))))
abbrev n__law_falls_right : List Str := ["tape", "disk", "many", "after", "image", "writes", "turn", "caught"]
def t__law_fallen_right (K : PySem.W.Frag) (W : WX) : TS :=
  (tSeq (tAsg (tTup (tCons (tSl (rSlL K) (tM (c_Disk K) "image" (sp_Disk_image K) (WE W) (tVar 1) tNil) (tPart (tC (.int 28))) tNoPart) (tCons (tK (sp__law_changes K) (WE W) (tCons (tVar 0) (tCons (tVar 2) tNil))) tNil))) (gTup K 2 (gCons (gName 3) (gCons (gName 4) gNil))))
  (tSeq (tAsg (tLc (iEnum K (tCons (tVar 3) tNil)) (gTup K 2 (gCons (gName 8) (gCons (gName 9) gNil))) tYes (tDGet2 (tVar 4) (tOp rPlus (tC (.int 28)) (tVar 8)) (tVar 9)) [8, 9]) (gName 5))
  (tSeq (tDrop (tM (c_Disk K) "fall" (sp_Disk_fall K) (WE W) (tVar 1) (tCons (tK (sp__law_draw K) (WE W) (tCons (tVar 0) (tCons (tOp rPlus (tOp rMul (tC (.int 2)) (tCB rLenD (tCons (tVar 4) tNil))) (tC (.int 6))) tNil))) tNil)))
  (tSeq (tAsg (tC (.bl false)) (gName 6))
  (tSeq (tTry K (.ref (c_Fallen K)) (fun _ _ _ => (tAsg (tC (.bl true)) (gName 6))) (fun W1 => (tDrop (tK (sp_commit K) (WE W1) (tCons (tVar 1) (tCons (tVar 4) tNil))))) W)
  (tSeq (tDrop (tM (c_Disk K) "rise" (sp_Disk_rise K) (WE W) (tVar 1) tNil))
  (tSeq (tIfS (tNot (tB (tVar 6))) (tRet (tAndV (tOp (rEqD K) (tSl (rSlL K) (tM (c_Disk K) "image" (sp_Disk_image K) (WE W) (tVar 1) tNil) (tPart (tC (.int 28))) tNoPart) (tVar 5)) (tK (sp__law_idle_right K) (WE W) (tCons (tVar 1) tNil)))) tNext)
  (tSeq (tDrop (tK (sp_recover K) (WE W) (tCons (tVar 1) tNil)))
  (tSeq (tAsg (tSl (rSlL K) (tM (c_Disk K) "image" (sp_Disk_image K) (WE W) (tVar 1) tNil) (tPart (tC (.int 28))) tNoPart) (gName 7))
  (tSeq (tIfS (tOr (tTest (tOp (rInTD K true) (tVar 7) (tTup (tCons (tVar 3) (tCons (tVar 5) tNil))))) (tOr (tTest (tOp rNe (tK (sp_recover K) (WE W) (tCons (tVar 1) tNil)) (tC (.int 0)))) (tTest (tOp (rNeD K) (tSl (rSlL K) (tM (c_Disk K) "image" (sp_Disk_image K) (WE W) (tVar 1) tNil) (tPart (tC (.int 28))) tNoPart) (tVar 7))))) (tRet (tC (.bl false))) tNext)
  (tSeq (tDrop (tK (sp_commit K) (WE W) (tCons (tVar 1) (tCons (tDisp [((tC (.int 28)), (tOp (rIxL K) (tVar 7) (tC (.int 0))))]) tNil))))
  (tRet (tAndV (tOp (rEqD K) (tSl (rSlL K) (tM (c_Disk K) "image" (sp_Disk_image K) (WE W) (tVar 1) tNil) (tPart (tC (.int 28))) tNoPart) (tVar 7)) (tK (sp__law_idle_right K) (WE W) (tCons (tVar 1) tNil)))))))))))))))
abbrev n__law_fallen_right : List Str := ["tape", "disk", "many", "ahead", "changes", "behind", "caught", "there", "k", "block"]
def t_law (K : PySem.W.Frag) (W : WX) : TS :=
  (tSeq (tFor (iRng1 (tCons (tCB rMax2 (tCons (tC (.int 2)) (tCons (tCB rMin2 (tCons (tCB (rLen K) (tCons (tVar 0) tNil)) (tCons (tC (.int 4)) tNil))) tNil))) tNil)) (gName 1)
  (tSeq (tAsg (tK (sp__law_tape K) (WE W) (tCons (tVar 0) (tCons (tVar 1) tNil))) (gName 2))
  (tSeq (tAsg (tOp rPlus (tC (.int 29)) (tK (sp__law_draw K) (WE W) (tCons (tVar 2) (tCons (tOp (rIxL K) (tLst (tCons (tC (.int 4)) (tCons (tC (.int 60)) tNil))) (tK (sp__law_draw K) (WE W) (tCons (tVar 2) (tCons (tC (.int 2)) tNil)))) tNil)))) (gName 3))
  (tSeq (tAsg (tN (c_Disk K) (sp_Disk___init__ K) (WE W) (tCons (tVar 3) tNil)) (gName 4))
  (tSeq (tIfS (tOr (tNot (tB (tK (sp__law_idle_right K) (WE W) (tCons (tVar 4) tNil)))) (tNot (tB (tK (sp__law_falls_right K) (WE W) (tCons (tVar 2) (tCons (tVar 4) (tCons (tVar 3) tNil))))))) (tRet (tC (.bl false))) tNext)
  (tSeq (tIfS (tNot (tB (tK (sp__law_lists_right K) (WE W) (tCons (tVar 2) (tCons (tVar 4) (tCons (tVar 3) tNil)))))) (tRet (tC (.bl false))) tNext)
  (tSeq (tFor (iRng1 (tCons (tK (sp__law_draw K) (WE W) (tCons (tVar 2) (tCons (tC (.int 5)) tNil))) tNil)) (gName 5)
  (tSeq (tDrop (tK (sp_commit K) (WE W) (tCons (tVar 4) (tCons (tK (sp__law_changes K) (WE W) (tCons (tVar 2) (tCons (tVar 3) tNil))) tNil))))
  (tIfS (tOr (tNot (tB (tK (sp__law_idle_right K) (WE W) (tCons (tVar 4) tNil)))) (tNot (tB (tK (sp__law_falls_right K) (WE W) (tCons (tVar 2) (tCons (tVar 4) (tCons (tVar 3) tNil))))))) (tRet (tC (.bl false))) tNext)))
  (tIfS (tNot (tB (tK (sp__law_fallen_right K) (WE W) (tCons (tVar 2) (tCons (tVar 4) (tCons (tVar 3) tNil)))))) (tRet (tC (.bl false))) tNext))))))))
  (tRet (tC (.bl true))))
abbrev n_law : List Str := ["script", "k", "tape", "many", "disk", "turn"]
end S
set_option Elab.async false
set_option linter.all false
set_option maxRecDepth 100000
set_option maxHeartbeats 4000000
namespace S
open PySem PySem.Spec L2
def top (i : Nat) : Stmt := PySem.Challenge.pw_ownroom_k07_nothing_to_recover.main.body.getD i (.Pass ⟨0, 0, 0, 0⟩)
structure Txt (K : PySem.W.Frag) (mg : Str → Option Value) : Prop where
  b_abs : mg "abs" = none
  b_bool : mg "bool" = none
  b_dict : mg "dict" = none
  b_enumerate : mg "enumerate" = none
  b_int : mg "int" = none
  b_isinstance : mg "isinstance" = none
  b_len : mg "len" = none
  b_list : mg "list" = none
  b_max : mg "max" = none
  b_min : mg "min" = none
  b_range : mg "range" = none
  b_sorted : mg "sorted" = none
  c_Disk : Cls K (S.c_Disk K)
  e_Fallen : ExC K mg "Fallen" (S.c_Fallen K) [.type "ValueError", .type "Exception", .type "BaseException", .type "object"]
  e_NoBlock : ExC K mg "NoBlock" (S.c_NoBlock K) [.type "ValueError", .type "Exception", .type "BaseException", .type "object"]
  i_BLOCK : ∃ t, mg "BLOCK" = some (.int 16 t)
  i_COPIES : ∃ t, mg "COPIES" = some (.int 3 t)
  i_HOMES : ∃ t, mg "HOMES" = some (.int 1 t)
  i_MARK : ∃ t, mg "MARK" = some (.int 0 t)
  n_Disk_blocks : NoAttr K (S.c_Disk K) "blocks"
  n_Disk_done : NoAttr K (S.c_Disk K) "done"
  n_Disk_down : NoAttr K (S.c_Disk K) "down"
  n_Disk_left : NoAttr K (S.c_Disk K) "left"
  x_Fallen : PySem.W.exmOne K (.ref (c_Fallen K)) (.ref (c_Fallen K)) = some true
section
variable {P : Program} {w : World} {K : PySem.W.Frag} {mg : Str → Option Value} {base : Heap}
abbrev st_Disk___init__ : Stmt := inClass (top 14) 0
theorem sc_Disk___init__ : FnScope n_Disk___init__ ["self", "many"] (defScope st_Disk___init__) := ⟨rfl, rfl, rfl, by decide +kernel, rfl, by decide +kernel, by decide +kernel⟩
theorem ok_Disk___init__ {f : Addr} {fd : FuncData} (F : FnP K "__init__" "Disk.__init__" st_Disk___init__ f fd) (T : Txt K mg)
    (len : ∀ vs H Q E, sp_Disk___init__ K vs H Q E → vs.length = 2) (pure : ∀ vs H Q E, sp_Disk___init__ K vs H Q E → t_Disk___init__ K (WD E) ⟨fun _ H' => Q .non H', Q, fun _ _ => False, fun _ _ => False⟩ (start n_Disk___init__ vs) H) :
    FnOk P w K mg base (L2.CX P w) 1 f fd ["self", "many"] (sp_Disk___init__ K) := by
  have sc := sc_Disk___init__
  refine F.ok sc len fun cdv A outer s H vs Q E hr h => ⟨t_Disk___init__ K (WD E), ?_, pure vs H Q E h⟩
  have tk : Takes (cxOf (L2.CX P w) P w K mg base n_Disk___init__ "Disk.__init__" (defScope st_Disk___init__) f cdv A outer s H E) (WD E) := takes_of rfl rfl rfl rfl
  exact (pss_cons (ps_f T.c_Disk T.n_Disk_blocks (pv 0) (pe_lc (own := [("block", 2)]) (g := (gName 2)) rfl sc.nd (pi_range1 rfl T.b_range (pa_cons (pv 1) pa_nil)) (blkOk_by (own := [("block", 2)]) (N := n_Disk___init__) (sc := defScope st_Disk___init__) (by decide +kernel)) (fun _ _ _ _ _ => (pg_name (i := 2) sc.nd rfl (Or.inl rfl))) (fun _ _ _ _ _ => pts_nil) (fun _ _ _ _ _ => (pe_op op_rep (pe_lst (pa_cons pe_int pa_nil)) (pe_gint rfl T.i_BLOCK)))))
  (pss_cons (ps_f T.c_Disk T.n_Disk_done (pv 0) pe_int)
  (pss_cons (ps_f T.c_Disk T.n_Disk_left (pv 0) pe_non)
  (pss_one (ps_f T.c_Disk T.n_Disk_down (pv 0) pe_bl)))))

abbrev st_Disk_look : Stmt := inClass (top 14) 1
theorem sc_Disk_look : FnScope n_Disk_look ["self", "n"] (defScope st_Disk_look) := ⟨rfl, rfl, rfl, by decide +kernel, rfl, by decide +kernel, by decide +kernel⟩
theorem ok_Disk_look {f : Addr} {fd : FuncData} (F : FnP K "look" "Disk.look" st_Disk_look f fd) (T : Txt K mg)
    (len : ∀ vs H Q E, sp_Disk_look K vs H Q E → vs.length = 2) (pure : ∀ vs H Q E, sp_Disk_look K vs H Q E → t_Disk_look K (WD E) ⟨fun _ H' => Q .non H', Q, fun _ _ => False, fun _ _ => False⟩ (start n_Disk_look vs) H) :
    FnOk P w K mg base (L2.CX P w) 1 f fd ["self", "n"] (sp_Disk_look K) := by
  have sc := sc_Disk_look
  refine F.ok sc len fun cdv A outer s H vs Q E hr h => ⟨t_Disk_look K (WD E), ?_, pure vs H Q E h⟩
  have tk : Takes (cxOf (L2.CX P w) P w K mg base n_Disk_look "Disk.look" (defScope st_Disk_look) f cdv A outer s H E) (WD E) := takes_of rfl rfl rfl rfl
  exact (pss_one (ps_if (pt_not (pt_chain op_le op_lt pe_int (pv 1) (pe_callB call_len (by rfl) T.b_len PySem.boot_len (pa_cons (pe_f T.c_Disk T.n_Disk_blocks (pv 0)) pa_nil)))) (pss_one (ps_rz T.e_NoBlock rfl rfl tk rfl)) pss_nil))

abbrev st_Disk_writes : Stmt := inClass (top 14) 4
theorem sc_Disk_writes : FnScope n_Disk_writes ["self"] (defScope st_Disk_writes) := ⟨rfl, rfl, rfl, by decide +kernel, rfl, by decide +kernel, by decide +kernel⟩
theorem ok_Disk_writes {f : Addr} {fd : FuncData} (F : FnP K "writes" "Disk.writes" st_Disk_writes f fd) (T : Txt K mg)
    (len : ∀ vs H Q E, sp_Disk_writes K vs H Q E → vs.length = 1) (pure : ∀ vs H Q E, sp_Disk_writes K vs H Q E → t_Disk_writes K (WD E) ⟨fun _ H' => Q .non H', Q, fun _ _ => False, fun _ _ => False⟩ (start n_Disk_writes vs) H) :
    FnOk P w K mg base (L2.CX P w) 1 f fd ["self"] (sp_Disk_writes K) := by
  have sc := sc_Disk_writes
  refine F.ok sc len fun cdv A outer s H vs Q E hr h => ⟨t_Disk_writes K (WD E), ?_, pure vs H Q E h⟩
  have tk : Takes (cxOf (L2.CX P w) P w K mg base n_Disk_writes "Disk.writes" (defScope st_Disk_writes) f cdv A outer s H E) (WD E) := takes_of rfl rfl rfl rfl
  exact (pss_one (ps_ret (pe_f T.c_Disk T.n_Disk_done (pv 0))))

abbrev st_Disk_fall : Stmt := inClass (top 14) 5
theorem sc_Disk_fall : FnScope n_Disk_fall ["self", "after"] (defScope st_Disk_fall) := ⟨rfl, rfl, rfl, by decide +kernel, rfl, by decide +kernel, by decide +kernel⟩
theorem ok_Disk_fall {f : Addr} {fd : FuncData} (F : FnP K "fall" "Disk.fall" st_Disk_fall f fd) (T : Txt K mg)
    (len : ∀ vs H Q E, sp_Disk_fall K vs H Q E → vs.length = 2) (pure : ∀ vs H Q E, sp_Disk_fall K vs H Q E → t_Disk_fall K (WD E) ⟨fun _ H' => Q .non H', Q, fun _ _ => False, fun _ _ => False⟩ (start n_Disk_fall vs) H) :
    FnOk P w K mg base (L2.CX P w) 1 f fd ["self", "after"] (sp_Disk_fall K) := by
  have sc := sc_Disk_fall
  refine F.ok sc len fun cdv A outer s H vs Q E hr h => ⟨t_Disk_fall K (WD E), ?_, pure vs H Q E h⟩
  have tk : Takes (cxOf (L2.CX P w) P w K mg base n_Disk_fall "Disk.fall" (defScope st_Disk_fall) f cdv A outer s H E) (WD E) := takes_of rfl rfl rfl rfl
  exact (pss_one (ps_f T.c_Disk T.n_Disk_left (pv 0) (pv 1)))

abbrev st_Disk_rise : Stmt := inClass (top 14) 6
theorem sc_Disk_rise : FnScope n_Disk_rise ["self"] (defScope st_Disk_rise) := ⟨rfl, rfl, rfl, by decide +kernel, rfl, by decide +kernel, by decide +kernel⟩
theorem ok_Disk_rise {f : Addr} {fd : FuncData} (F : FnP K "rise" "Disk.rise" st_Disk_rise f fd) (T : Txt K mg)
    (len : ∀ vs H Q E, sp_Disk_rise K vs H Q E → vs.length = 1) (pure : ∀ vs H Q E, sp_Disk_rise K vs H Q E → t_Disk_rise K (WD E) ⟨fun _ H' => Q .non H', Q, fun _ _ => False, fun _ _ => False⟩ (start n_Disk_rise vs) H) :
    FnOk P w K mg base (L2.CX P w) 1 f fd ["self"] (sp_Disk_rise K) := by
  have sc := sc_Disk_rise
  refine F.ok sc len fun cdv A outer s H vs Q E hr h => ⟨t_Disk_rise K (WD E), ?_, pure vs H Q E h⟩
  have tk : Takes (cxOf (L2.CX P w) P w K mg base n_Disk_rise "Disk.rise" (defScope st_Disk_rise) f cdv A outer s H E) (WD E) := takes_of rfl rfl rfl rfl
  exact (pss_cons (ps_f T.c_Disk T.n_Disk_left (pv 0) pe_non)
  (pss_one (ps_f T.c_Disk T.n_Disk_down (pv 0) pe_bl)))

abbrev st_Disk_image : Stmt := inClass (top 14) 7
theorem sc_Disk_image : FnScope n_Disk_image ["self"] (defScope st_Disk_image) := ⟨rfl, rfl, rfl, by decide +kernel, rfl, by decide +kernel, by decide +kernel⟩
theorem ok_Disk_image {f : Addr} {fd : FuncData} (F : FnP K "image" "Disk.image" st_Disk_image f fd) (T : Txt K mg)
    (len : ∀ vs H Q E, sp_Disk_image K vs H Q E → vs.length = 1) (pure : ∀ vs H Q E, sp_Disk_image K vs H Q E → t_Disk_image K (WD E) ⟨fun _ H' => Q .non H', Q, fun _ _ => False, fun _ _ => False⟩ (start n_Disk_image vs) H) :
    FnOk P w K mg base (L2.CX P w) 1 f fd ["self"] (sp_Disk_image K) := by
  have sc := sc_Disk_image
  refine F.ok sc len fun cdv A outer s H vs Q E hr h => ⟨t_Disk_image K (WD E), ?_, pure vs H Q E h⟩
  have tk : Takes (cxOf (L2.CX P w) P w K mg base n_Disk_image "Disk.image" (defScope st_Disk_image) f cdv A outer s H E) (WD E) := takes_of rfl rfl rfl rfl
  exact (pss_one (ps_ret (pe_lc (own := [("block", 1)]) (g := (gName 1)) rfl sc.nd (pi_list (pe_f T.c_Disk T.n_Disk_blocks (pv 0))) (blkOk_by (own := [("block", 1)]) (N := n_Disk_image) (sc := defScope st_Disk_image) (by decide +kernel)) (fun _ _ _ _ _ => (pg_name (i := 1) sc.nd rfl (Or.inl rfl))) (fun _ _ _ _ _ => pts_nil) (fun _ _ _ _ _ => (pe_callTy call_list_of (by rfl) T.b_list (by decide +kernel) (pa_cons (pv 1) pa_nil))))))

abbrev st__law_tape : Stmt := top 16
theorem sc__law_tape : FnScope n__law_tape ["script", "k"] (defScope st__law_tape) := ⟨rfl, rfl, rfl, by decide +kernel, rfl, by decide +kernel, by decide +kernel⟩
theorem ok__law_tape {f : Addr} {fd : FuncData} (F : FnP K "_law_tape" "_law_tape" st__law_tape f fd) (T : Txt K mg)
    (len : ∀ vs H Q E, sp__law_tape K vs H Q E → vs.length = 2) (pure : ∀ vs H Q E, sp__law_tape K vs H Q E → t__law_tape K (WD E) ⟨fun _ H' => Q .non H', Q, fun _ _ => False, fun _ _ => False⟩ (start n__law_tape vs) H) :
    FnOk P w K mg base (L2.CX P w) 1 f fd ["script", "k"] (sp__law_tape K) := by
  have sc := sc__law_tape
  refine F.ok sc len fun cdv A outer s H vs Q E hr h => ⟨t__law_tape K (WD E), ?_, pure vs H Q E h⟩
  have tk : Takes (cxOf (L2.CX P w) P w K mg base n__law_tape "_law_tape" (defScope st__law_tape) f cdv A outer s H E) (WD E) := takes_of rfl rfl rfl rfl
  exact (pss_cons (ps_set (i := 2) sc.nd rfl (Or.inl rfl) (pe_ifExp (pt_cmpR op_lt (pv 1) (pe_callB call_len (by rfl) T.b_len PySem.boot_len (pa_cons (pv 0) pa_nil)) (nomark _)) (pe_ix ix_list (pv 0) (pv 1) (fun _ _ => rfl)) pe_int))
  (pss_one (ps_ret (pe_lst (pa_cons (pe_op op_mul (pe_callB call_abs (by rfl) T.b_abs (by decide +kernel) (pa_cons (pv 2) pa_nil)) (pe_callTy call_int1 (by rfl) T.b_int (by decide +kernel) (pa_cons (pe_cmpR op_ge (pe_callB call_abs (by rfl) T.b_abs (by decide +kernel) (pa_cons (pv 2) pa_nil)) (pe_op op_pow pe_int pe_int) (nomark _)) pa_nil))) (pa_cons (pe_op op_add (pe_op op_add (pe_op op_mod (pv 2) pe_int) (pe_op op_mul pe_int (pv 1))) pe_int) (pa_cons pe_int pa_nil)))))))

abbrev st__law_draw : Stmt := top 17
theorem sc__law_draw : FnScope n__law_draw ["tape", "many"] (defScope st__law_draw) := ⟨rfl, rfl, rfl, by decide +kernel, rfl, by decide +kernel, by decide +kernel⟩
theorem ok__law_draw {f : Addr} {fd : FuncData} (F : FnP K "_law_draw" "_law_draw" st__law_draw f fd) (T : Txt K mg)
    (len : ∀ vs H Q E, sp__law_draw K vs H Q E → vs.length = 2) (pure : ∀ vs H Q E, sp__law_draw K vs H Q E → t__law_draw K (WD E) ⟨fun _ H' => Q .non H', Q, fun _ _ => False, fun _ _ => False⟩ (start n__law_draw vs) H) :
    FnOk P w K mg base (L2.CX P w) 1 f fd ["tape", "many"] (sp__law_draw K) := by
  have sc := sc__law_draw
  refine F.ok sc len fun cdv A outer s H vs Q E hr h => ⟨t__law_draw K (WD E), ?_, pure vs H Q E h⟩
  have tk : Takes (cxOf (L2.CX P w) P w K mg base n__law_draw "_law_draw" (defScope st__law_draw) f cdv A outer s H E) (WD E) := takes_of rfl rfl rfl rfl
  exact (pss_cons (ps_if (pt_cmpR op_gt (pe_ix ix_list (pv 0) pe_int (fun _ _ => rfl)) pe_int (nomark _)) (pss_cons (ps_set (i := 2) sc.nd rfl (Or.inl rfl) (pe_op op_mod (pe_ix ix_list (pv 0) pe_int (fun _ _ => rfl)) (pv 1)))
  (pss_cons (ps_asg (pe_op op_fdivW (pe_ix ix_list (pv 0) pe_int (fun _ _ => rfl)) (pv 1)) (pg_sub (pv 0) pe_int set_list))
  (pss_one (ps_ret (pv 2))))) pss_nil)
  (pss_cons (ps_asg (pe_op op_add (pe_ix ix_list (pv 0) pe_int (fun _ _ => rfl)) pe_int) (pg_sub (pv 0) pe_int set_list))
  (pss_cons (ps_set (i := 3) sc.nd rfl (Or.inl rfl) (pe_op op_mod (pe_op op_pow (pe_op op_add (pe_ix ix_list (pv 0) pe_int (fun _ _ => rfl)) (pe_op op_mul pe_int (pe_ix ix_list (pv 0) pe_int (fun _ _ => rfl)))) pe_int) pe_int))
  (pss_cons (ps_set (i := 4) sc.nd rfl (Or.inl rfl) (pe_op op_mod (pe_op op_mul (pe_op op_add (pv 3) (pe_ix ix_list (pv 0) pe_int (fun _ _ => rfl))) (pe_op op_add (pe_op op_add (pe_op op_mod (pv 3) pe_int) pe_int) (pe_ix ix_list (pv 0) pe_int (fun _ _ => rfl)))) pe_int))
  (pss_one (ps_ret (pe_op op_mod (pe_op op_fdivW (pe_op op_mod (pe_op op_add (pe_op op_mul (pv 4) pe_int) (pv 3)) pe_int) pe_int) (pv 1))))))))

abbrev st_Disk_read : Stmt := inClass (top 14) 2
theorem sc_Disk_read : FnScope n_Disk_read ["self", "n"] (defScope st_Disk_read) := ⟨rfl, rfl, rfl, by decide +kernel, rfl, by decide +kernel, by decide +kernel⟩
theorem ok_Disk_read {f : Addr} {fd : FuncData} (F : FnP K "read" "Disk.read" st_Disk_read f fd) (T : Txt K mg) (D_Disk_look : MtAt P w K mg base (L2.CX P w) 1 (c_Disk K) "look" (sp_Disk_look K))
    (len : ∀ vs H Q E, sp_Disk_read K vs H Q E → vs.length = 2) (pure : ∀ vs H Q E, sp_Disk_read K vs H Q E → t_Disk_read K (WD E) ⟨fun _ H' => Q .non H', Q, fun _ _ => False, fun _ _ => False⟩ (start n_Disk_read vs) H) :
    FnOk P w K mg base (L2.CX P w) 2 f fd ["self", "n"] (sp_Disk_read K) := by
  have sc := sc_Disk_read
  refine F.ok sc len fun cdv A outer s H vs Q E hr h => ⟨t_Disk_read K (WD E), ?_, pure vs H Q E h⟩
  have tk : Takes (cxOf (L2.CX P w) P w K mg base n_Disk_read "Disk.read" (defScope st_Disk_read) f cdv A outer s H E) (WD E) := takes_of rfl rfl rfl rfl
  exact (pss_cons (ps_expr (pe_mt D_Disk_look tk (hr.mono (by decide)) (pv 0) (pa_cons (pv 1) pa_nil)))
  (pss_cons (ps_if (pt_val (pe_f T.c_Disk T.n_Disk_down (pv 0))) (pss_one (ps_rz T.e_Fallen rfl rfl tk rfl)) pss_nil)
  (pss_one (ps_ret (pe_callTy call_list_of (by rfl) T.b_list (by decide +kernel) (pa_cons (pe_ix ix_list (pe_f T.c_Disk T.n_Disk_blocks (pv 0)) (pv 1) (fun _ _ => rfl)) pa_nil))))))

abbrev st_Disk_write : Stmt := inClass (top 14) 3
theorem sc_Disk_write : FnScope n_Disk_write ["self", "n", "numbers"] (defScope st_Disk_write) := ⟨rfl, rfl, rfl, by decide +kernel, rfl, by decide +kernel, by decide +kernel⟩
theorem ok_Disk_write {f : Addr} {fd : FuncData} (F : FnP K "write" "Disk.write" st_Disk_write f fd) (T : Txt K mg) (D_Disk_look : MtAt P w K mg base (L2.CX P w) 1 (c_Disk K) "look" (sp_Disk_look K))
    (len : ∀ vs H Q E, sp_Disk_write K vs H Q E → vs.length = 3) (pure : ∀ vs H Q E, sp_Disk_write K vs H Q E → t_Disk_write K (WD E) ⟨fun _ H' => Q .non H', Q, fun _ _ => False, fun _ _ => False⟩ (start n_Disk_write vs) H) :
    FnOk P w K mg base (L2.CX P w) 2 f fd ["self", "n", "numbers"] (sp_Disk_write K) := by
  have sc := sc_Disk_write
  refine F.ok sc len fun cdv A outer s H vs Q E hr h => ⟨t_Disk_write K (WD E), ?_, pure vs H Q E h⟩
  have tk : Takes (cxOf (L2.CX P w) P w K mg base n_Disk_write "Disk.write" (defScope st_Disk_write) f cdv A outer s H E) (WD E) := takes_of rfl rfl rfl rfl
  exact (pss_cons (ps_expr (pe_mt D_Disk_look tk (hr.mono (by decide)) (pv 0) (pa_cons (pv 1) pa_nil)))
  (pss_cons (ps_if (PW.pt (pw_or (pt_val (pe_f T.c_Disk T.n_Disk_down (pv 0))) (pw_or1 (pt_cmpR op_eq (pe_f T.c_Disk T.n_Disk_left (pv 0)) pe_int (nomark _))))) (pss_cons (ps_f T.c_Disk T.n_Disk_down (pv 0) pe_bl)
  (pss_one (ps_rz T.e_Fallen rfl rfl tk rfl))) pss_nil)
  (pss_cons (ps_if (pt_cmpR op_notN (pe_f T.c_Disk T.n_Disk_left (pv 0)) pe_non (nomark _)) (pss_one (ps_fa T.c_Disk T.n_Disk_left (pv 0) pe_int in_sub)) pss_nil)
  (pss_cons (ps_asg (pe_callTy call_list_of (by rfl) T.b_list (by decide +kernel) (pa_cons (pv 2) pa_nil)) (pg_sub (pe_f T.c_Disk T.n_Disk_blocks (pv 0)) (pv 1) set_list))
  (pss_one (ps_fa T.c_Disk T.n_Disk_done (pv 0) pe_int in_add))))))

abbrev st__law_block : Stmt := top 18
theorem sc__law_block : FnScope n__law_block ["tape"] (defScope st__law_block) := ⟨rfl, rfl, rfl, by decide +kernel, rfl, by decide +kernel, by decide +kernel⟩
theorem ok__law_block {f : Addr} {fd : FuncData} (F : FnP K "_law_block" "_law_block" st__law_block f fd) (T : Txt K mg) (D__law_draw : FnAt P w K mg base CX0 1 "_law_draw" (sp__law_draw K))
    (len : ∀ vs H Q E, sp__law_block K vs H Q E → vs.length = 1) (pure : ∀ vs H Q E, sp__law_block K vs H Q E → t__law_block K (WD E) ⟨fun _ H' => Q .non H', Q, fun _ _ => False, fun _ _ => False⟩ (start n__law_block vs) H) :
    FnOk P w K mg base (L2.CX P w) 2 f fd ["tape"] (sp__law_block K) := by
  have sc := sc__law_block
  refine F.ok sc len fun cdv A outer s H vs Q E hr h => ⟨t__law_block K (WD E), ?_, pure vs H Q E h⟩
  have tk : Takes (cxOf (L2.CX P w) P w K mg base n__law_block "_law_block" (defScope st__law_block) f cdv A outer s H E) (WD E) := takes_of rfl rfl rfl rfl
  exact (pss_cons (ps_if (pt_cmpR op_eq (pe_fn D__law_draw tk (hr.mono (by decide)) rfl (pa_cons (pv 0) (pa_cons pe_int pa_nil))) pe_int (nomark _)) (pss_one (ps_ret (pe_op op_rep (pe_lst (pa_cons (pe_fn D__law_draw tk (hr.mono (by decide)) rfl (pa_cons (pv 0) (pa_cons pe_int pa_nil))) pa_nil)) pe_int))) pss_nil)
  (pss_one (ps_ret (pe_lc (own := [("k", 1)]) (g := (gName 1)) rfl sc.nd (pi_range1 rfl T.b_range (pa_cons pe_int pa_nil)) (blkOk_by (own := [("k", 1)]) (N := n__law_block) (sc := defScope st__law_block) (by decide +kernel)) (fun _ _ _ _ _ => (pg_name (i := 1) sc.nd rfl (Or.inl rfl))) (fun _ _ _ _ _ => pts_nil) (fun _ _ _ _ _ => (pe_fn D__law_draw takes0 (hr.mono (by decide)) rfl (pa_cons (pv 0) (pa_cons pe_int pa_nil))))))))

abbrev st_send_home : Stmt := top 4
theorem sc_send_home : FnScope n_send_home ["disk", "homes"] (defScope st_send_home) := ⟨rfl, rfl, rfl, by decide +kernel, rfl, by decide +kernel, by decide +kernel⟩
theorem ok_send_home {f : Addr} {fd : FuncData} (F : FnP K "send_home" "send_home" st_send_home f fd) (T : Txt K mg) (D_Disk_write : MtAt P w K mg base (L2.CX P w) 2 (c_Disk K) "write" (sp_Disk_write K)) (D_Disk_read : MtAt P w K mg base (L2.CX P w) 2 (c_Disk K) "read" (sp_Disk_read K))
    (len : ∀ vs H Q E, sp_send_home K vs H Q E → vs.length = 2) (pure : ∀ vs H Q E, sp_send_home K vs H Q E → t_send_home K (WD E) ⟨fun _ H' => Q .non H', Q, fun _ _ => False, fun _ _ => False⟩ (start n_send_home vs) H) :
    FnOk P w K mg base (L2.CX P w) 3 f fd ["disk", "homes"] (sp_send_home K) := by
  have sc := sc_send_home
  refine F.ok sc len fun cdv A outer s H vs Q E hr h => ⟨t_send_home K (WD E), ?_, pure vs H Q E h⟩
  have tk : Takes (cxOf (L2.CX P w) P w K mg base n_send_home "send_home" (defScope st_send_home) f cdv A outer s H E) (WD E) := takes_of rfl rfl rfl rfl
  exact (pss_one (ps_for (passes_of rfl) rfl (pi_enum (by rfl) T.b_enumerate (pa_cons (pv 1) pa_nil)) (pg_tup rfl (pgs_cons (pg_name (i := 2) sc.nd rfl (Or.inl rfl)) (pgs_cons (pg_name (i := 3) sc.nd rfl (Or.inl rfl)) pgs_nil))) (pss_one (ps_expr (pe_mt D_Disk_write tk (hr.mono (by decide)) (pv 0) (pa_cons (pv 3) (pa_cons (pe_mt D_Disk_read tk (hr.mono (by decide)) (pv 0) (pa_cons (pe_op op_add (pe_gint rfl T.i_COPIES) (pv 2)) pa_nil)) pa_nil)))))))

abbrev st_mark : Stmt := top 5
theorem sc_mark : FnScope n_mark ["disk", "many"] (defScope st_mark) := ⟨rfl, rfl, rfl, by decide +kernel, rfl, by decide +kernel, by decide +kernel⟩
theorem ok_mark {f : Addr} {fd : FuncData} (F : FnP K "mark" "mark" st_mark f fd) (T : Txt K mg) (D_Disk_write : MtAt P w K mg base (L2.CX P w) 2 (c_Disk K) "write" (sp_Disk_write K))
    (len : ∀ vs H Q E, sp_mark K vs H Q E → vs.length = 2) (pure : ∀ vs H Q E, sp_mark K vs H Q E → t_mark K (WD E) ⟨fun _ H' => Q .non H', Q, fun _ _ => False, fun _ _ => False⟩ (start n_mark vs) H) :
    FnOk P w K mg base (L2.CX P w) 3 f fd ["disk", "many"] (sp_mark K) := by
  have sc := sc_mark
  refine F.ok sc len fun cdv A outer s H vs Q E hr h => ⟨t_mark K (WD E), ?_, pure vs H Q E h⟩
  have tk : Takes (cxOf (L2.CX P w) P w K mg base n_mark "mark" (defScope st_mark) f cdv A outer s H E) (WD E) := takes_of rfl rfl rfl rfl
  exact (pss_one (ps_expr (pe_mt D_Disk_write tk (hr.mono (by decide)) (pv 0) (pa_cons (pe_gint rfl T.i_MARK) (pa_cons (pe_op op_cat (pe_lst (pa_cons (pv 1) pa_nil)) (pe_op op_rep (pe_lst (pa_cons pe_int pa_nil)) pe_int)) pa_nil)))))

abbrev st__law_changes : Stmt := top 19
theorem sc__law_changes : FnScope n__law_changes ["tape", "many"] (defScope st__law_changes) := ⟨rfl, rfl, rfl, by decide +kernel, rfl, by decide +kernel, by decide +kernel⟩
theorem ok__law_changes {f : Addr} {fd : FuncData} (F : FnP K "_law_changes" "_law_changes" st__law_changes f fd) (T : Txt K mg) (D__law_draw : FnAt P w K mg base CX0 1 "_law_draw" (sp__law_draw K)) (D__law_block : FnAt P w K mg base CX0 2 "_law_block" (sp__law_block K))
    (len : ∀ vs H Q E, sp__law_changes K vs H Q E → vs.length = 2) (pure : ∀ vs H Q E, sp__law_changes K vs H Q E → t__law_changes K (WD E) ⟨fun _ H' => Q .non H', Q, fun _ _ => False, fun _ _ => False⟩ (start n__law_changes vs) H) :
    FnOk P w K mg base (L2.CX P w) 3 f fd ["tape", "many"] (sp__law_changes K) := by
  have sc := sc__law_changes
  refine F.ok sc len fun cdv A outer s H vs Q E hr h => ⟨t__law_changes K (WD E), ?_, pure vs H Q E h⟩
  have tk : Takes (cxOf (L2.CX P w) P w K mg base n__law_changes "_law_changes" (defScope st__law_changes) f cdv A outer s H E) (WD E) := takes_of rfl rfl rfl rfl
  exact (pss_cons (ps_set (i := 2) sc.nd rfl (Or.inr rfl) pe_dnewK)
  (pss_cons (ps_for (passes_of rfl) rfl (pi_range1 rfl T.b_range (pa_cons (pe_op op_add pe_int (pe_fn D__law_draw tk (hr.mono (by decide)) rfl (pa_cons (pv 0) (pa_cons pe_int pa_nil)))) pa_nil)) (pg_name (i := 3) sc.nd rfl (Or.inl rfl)) (pss_one (ps_dput (hu_of hr) (pv 2) (pe_op op_add pe_int (pe_fn D__law_draw tk (hr.mono (by decide)) rfl (pa_cons (pv 0) (pa_cons (pe_op op_sub (pv 1) pe_int) pa_nil)))) (pe_fn D__law_block tk (hr.mono (by decide)) rfl (pa_cons (pv 0) pa_nil)) rfl)))
  (pss_one (ps_ret (pe_callTy (call_dictP rfl) (by rfl) T.b_dict (by decide +kernel) (pa_cons (pe_lc (own := [("n", 4)]) (g := (gName 4)) rfl sc.nd (pi_list (pe_slice sl_list (pe_callTy (call_list_dK rfl) (by rfl) T.b_list (by decide +kernel) (pa_cons (pv 2) pa_nil)) po_none (po_some pe_int))) (blkOk_by (own := [("n", 4)]) (N := n__law_changes) (sc := defScope st__law_changes) (by decide +kernel)) (fun _ _ _ _ _ => (pg_name (i := 4) sc.nd rfl (Or.inl rfl))) (fun _ _ _ _ _ => pts_nil) (fun _ _ _ _ _ => (pe_tup (pa_cons (pv 4) (pa_cons (pe_dget (hu_of hr) (pv 2) (pv 4) (fun _ _ => rfl)) pa_nil))))) pa_nil))))))

abbrev st__law_lists_right : Stmt := top 23
theorem sc__law_lists_right : FnScope n__law_lists_right ["tape", "disk", "many"] (defScope st__law_lists_right) := ⟨rfl, rfl, rfl, by decide +kernel, rfl, by decide +kernel, by decide +kernel⟩
theorem ok__law_lists_right {f : Addr} {fd : FuncData} (F : FnP K "_law_lists_right" "_law_lists_right" st__law_lists_right f fd) (T : Txt K mg) (D__law_block : FnAt P w K mg base CX0 2 "_law_block" (sp__law_block K)) (D_Disk_image : MtAt P w K mg base CX0 1 (c_Disk K) "image" (sp_Disk_image K)) (D__law_draw : FnAt P w K mg base CX0 1 "_law_draw" (sp__law_draw K)) (D_Disk_write : MtAt P w K mg base (L2.CX P w) 2 (c_Disk K) "write" (sp_Disk_write K)) (D_Disk_read : MtAt P w K mg base (L2.CX P w) 2 (c_Disk K) "read" (sp_Disk_read K))
    (len : ∀ vs H Q E, sp__law_lists_right K vs H Q E → vs.length = 3) (pure : ∀ vs H Q E, sp__law_lists_right K vs H Q E → t__law_lists_right K (WD E) ⟨fun _ H' => Q .non H', Q, fun _ _ => False, fun _ _ => False⟩ (start n__law_lists_right vs) H) :
    FnOk P w K mg base (L2.CX P w) 3 f fd ["tape", "disk", "many"] (sp__law_lists_right K) := by
  have sc := sc__law_lists_right
  refine F.ok sc len fun cdv A outer s H vs Q E hr h => ⟨t__law_lists_right K (WD E), ?_, pure vs H Q E h⟩
  have tk : Takes (cxOf (L2.CX P w) P w K mg base n__law_lists_right "_law_lists_right" (defScope st__law_lists_right) f cdv A outer s H E) (WD E) := takes_of rfl rfl rfl rfl
  exact (pss_cons (ps_asg (pe_tup (pa_cons (pe_fn D__law_block tk (hr.mono (by decide)) rfl (pa_cons (pv 0) pa_nil)) (pa_cons (pe_mt0 D_Disk_image tk (hr.mono (by decide)) (pv 1)) pa_nil))) (pg_tup rfl (pgs_cons (pg_name (i := 3) sc.nd rfl (Or.inr rfl)) (pgs_cons (pg_name (i := 4) sc.nd rfl (Or.inl rfl)) pgs_nil))))
  (pss_cons (ps_asg (pe_tup (pa_cons (pe_op op_add pe_int (pe_fn D__law_draw tk (hr.mono (by decide)) rfl (pa_cons (pv 0) (pa_cons (pe_op op_sub (pv 2) pe_int) pa_nil)))) (pa_cons (pe_op op_add pe_int (pe_fn D__law_draw tk (hr.mono (by decide)) rfl (pa_cons (pv 0) (pa_cons (pe_op op_sub (pv 2) pe_int) pa_nil)))) pa_nil))) (pg_tup rfl (pgs_cons (pg_name (i := 5) sc.nd rfl (Or.inr rfl)) (pgs_cons (pg_name (i := 6) sc.nd rfl (Or.inr rfl)) pgs_nil))))
  (pss_cons (ps_expr (pe_mt D_Disk_write tk (hr.mono (by decide)) (pv 1) (pa_cons (pv 5) (pa_cons (pv 3) pa_nil))))
  (pss_cons (ps_expr (pe_mt D_Disk_write tk (hr.mono (by decide)) (pv 1) (pa_cons (pv 6) (pa_cons (pv 3) pa_nil))))
  (pss_cons (ps_set (i := 7) sc.nd rfl (Or.inr rfl) (pe_lc (own := [("n", 11), ("block", 10)]) (g := (gTup K 2 (gCons (gName 11) (gCons (gName 10) gNil)))) rfl sc.nd (pi_enum (by rfl) T.b_enumerate (pa_cons (pv 4) pa_nil)) (blkOk_by (own := [("n", 11), ("block", 10)]) (N := n__law_lists_right) (sc := defScope st__law_lists_right) (by decide +kernel)) (fun _ _ _ _ _ => (pg_tup rfl (pgs_cons (pg_name (i := 11) sc.nd rfl (Or.inl rfl)) (pgs_cons (pg_name (i := 10) sc.nd rfl (Or.inl rfl)) pgs_nil)))) (fun _ _ _ _ _ => pts_nil) (fun _ _ _ _ _ => (pe_ifExp (pt_cmpR op_in_seq (pv 11) (pe_tup (pa_cons (pv 5) (pa_cons (pv 6) pa_nil))) (by with_unfolding_all rfl)) (pe_callTy call_list_of (by rfl) T.b_list (by decide +kernel) (pa_cons (pv 3) pa_nil)) (pv 10)))))
  (pss_cons (ps_expr (pe_bm PySem.F.plainAttrs_list PySem.F.slot_list_append PySem.F.type_list_append mt_append (pv 3) (pa_cons pe_int pa_nil)))
  (pss_cons (ps_asg pe_int (pg_sub (pv 3) pe_int set_list))
  (pss_cons (ps_for (passes_of rfl) rfl (pi_tup (pe_tup (pa_cons pe_int (pa_cons (pv 5) (pa_cons (pv 6) (pa_cons (pe_fn D__law_draw tk (hr.mono (by decide)) rfl (pa_cons (pv 0) (pa_cons (pv 2) pa_nil))) (pa_cons (pe_op op_sub (pv 2) pe_int) pa_nil))))))) (pg_name (i := 8) sc.nd rfl (Or.inl rfl)) (pss_cons (ps_set (i := 9) sc.nd rfl (Or.inr rfl) (pe_lst (pa_cons (pe_mt0 D_Disk_image tk (hr.mono (by decide)) (pv 1)) (pa_cons (pe_mt0 D_Disk_image tk (hr.mono (by decide)) (pv 1)) pa_nil))))
  (pss_cons (ps_expr (pe_bm PySem.F.plainAttrs_list PySem.F.slot_list_append PySem.F.type_list_append mt_append (pe_ix ix_list (pe_ix ix_list (pv 9) pe_int (fun _ _ => rfl)) (pv 8) (fun _ _ => rfl)) (pa_cons pe_int pa_nil)))
  (pss_cons (ps_asg (pe_op op_sub pe_int (pe_callB (call_min2 rfl) (by rfl) T.b_min (by decide +kernel) (pa_cons pe_int (pa_cons (pe_ix ix_list (pe_ix ix_list (pe_ix ix_list (pv 9) pe_int (fun _ _ => rfl)) (pv 8) (fun _ _ => rfl)) pe_int (fun _ _ => rfl)) pa_nil)))) (pg_sub (pe_ix ix_list (pe_ix ix_list (pv 9) pe_int (fun _ _ => rfl)) (pv 8) (fun _ _ => rfl)) pe_int set_list))
  (pss_cons (ps_if (PW.pt (pw_or (pt_cmpR (op_neD (hu64 hr)) (pe_ix ix_list (pv 9) pe_int (fun _ _ => rfl)) (pv 7) (nomark _)) (pw_or1 (pt_cmpR (op_neD (hu64 hr)) (pe_lc (own := [("n", 11)]) (g := (gName 11)) rfl sc.nd (pi_range1 rfl T.b_range (pa_cons (pv 2) pa_nil)) (blkOk_by (own := [("n", 11)]) (N := n__law_lists_right) (sc := defScope st__law_lists_right) (by decide +kernel)) (fun _ _ _ _ _ => (pg_name (i := 11) sc.nd rfl (Or.inl rfl))) (fun _ _ _ _ _ => (pts_one (pt_cmpR (op_neD (hu64 hr)) (pe_ix ix_list (pe_ix ix_list (pv 9) pe_int (fun _ _ => rfl)) (pv 11) (fun _ _ => rfl)) (pe_ix ix_list (pv 7) (pv 11) (fun _ _ => rfl)) (nomark _)))) (fun _ _ _ _ _ => (pv 11))) (pe_lst (pa_cons (pv 8) pa_nil)) (nomark _))))) (pss_one (ps_ret pe_bl)) pss_nil)
  (pss_cons (ps_set (i := 10) sc.nd rfl (Or.inl rfl) (pe_mt D_Disk_read tk (hr.mono (by decide)) (pv 1) (pa_cons (pv 8) pa_nil)))
  (pss_cons (ps_expr (pe_bm0 PySem.F.plainAttrs_list PySem.F.slot_list_reverse PySem.F.type_list_reverse mt_reverse (pv 10)))
  (pss_cons (ps_expr (pe_bm PySem.F.plainAttrs_list PySem.F.slot_list_append PySem.F.type_list_append mt_append (pv 10) (pa_cons pe_int pa_nil)))
  (pss_one (ps_if (pt_cmpR (op_neD (hu64 hr)) (pe_mt D_Disk_read tk (hr.mono (by decide)) (pv 1) (pa_cons (pv 8) pa_nil)) (pe_ix ix_list (pv 7) (pv 8) (fun _ _ => rfl)) (nomark _)) (pss_one (ps_ret pe_bl)) pss_nil))))))))))
  (pss_one (ps_ret pe_bl))))))))))

abbrev st_commit : Stmt := top 6
theorem sc_commit : FnScope n_commit ["disk", "changes"] (defScope st_commit) := ⟨rfl, rfl, rfl, by decide +kernel, rfl, by decide +kernel, by decide +kernel⟩
theorem ok_commit {f : Addr} {fd : FuncData} (F : FnP K "commit" "commit" st_commit f fd) (T : Txt K mg) (D_Disk_write : MtAt P w K mg base (L2.CX P w) 2 (c_Disk K) "write" (sp_Disk_write K)) (D_mark : FnAt P w K mg base (L2.CX P w) 3 "mark" (sp_mark K)) (D_send_home : FnAt P w K mg base (L2.CX P w) 3 "send_home" (sp_send_home K))
    (len : ∀ vs H Q E, sp_commit K vs H Q E → vs.length = 2) (pure : ∀ vs H Q E, sp_commit K vs H Q E → t_commit K (WD E) ⟨fun _ H' => Q .non H', Q, fun _ _ => False, fun _ _ => False⟩ (start n_commit vs) H) :
    FnOk P w K mg base (L2.CX P w) 4 f fd ["disk", "changes"] (sp_commit K) := by
  have sc := sc_commit
  refine F.ok sc len fun cdv A outer s H vs Q E hr h => ⟨t_commit K (WD E), ?_, pure vs H Q E h⟩
  have tk : Takes (cxOf (L2.CX P w) P w K mg base n_commit "commit" (defScope st_commit) f cdv A outer s H E) (WD E) := takes_of rfl rfl rfl rfl
  exact (pss_cons (ps_set (i := 2) sc.nd rfl (Or.inl rfl) (pe_callB (call_sortedDI rfl) (by rfl) T.b_sorted (by decide +kernel) (pa_cons (pv 1) pa_nil)))
  (pss_cons (ps_for (passes_of rfl) rfl (pi_enum (by rfl) T.b_enumerate (pa_cons (pv 2) pa_nil)) (pg_tup rfl (pgs_cons (pg_name (i := 3) sc.nd rfl (Or.inl rfl)) (pgs_cons (pg_name (i := 4) sc.nd rfl (Or.inl rfl)) pgs_nil))) (pss_one (ps_expr (pe_mt D_Disk_write tk (hr.mono (by decide)) (pv 0) (pa_cons (pe_op op_add (pe_gint rfl T.i_COPIES) (pv 3)) (pa_cons (pe_dget (hu_of hr) (pv 1) (pv 4) (fun _ _ => rfl)) pa_nil))))))
  (pss_cons (ps_set (i := 5) sc.nd rfl (Or.inl rfl) (pe_op op_cat (pv 2) (pe_op op_rep (pe_lst (pa_cons pe_int pa_nil)) pe_int)))
  (pss_cons (ps_expr (pe_mt D_Disk_write tk (hr.mono (by decide)) (pv 0) (pa_cons (pe_gint rfl T.i_HOMES) (pa_cons (pe_slice sl_list (pv 5) po_none (po_some pe_int)) pa_nil))))
  (pss_cons (ps_expr (pe_mt D_Disk_write tk (hr.mono (by decide)) (pv 0) (pa_cons (pe_op op_add (pe_gint rfl T.i_HOMES) pe_int) (pa_cons (pe_slice sl_list (pv 5) (po_some pe_int) (po_some pe_int)) pa_nil))))
  (pss_cons (ps_expr (pe_fn D_mark tk (hr.mono (by decide)) rfl (pa_cons (pv 0) (pa_cons (pe_callB call_len (by rfl) T.b_len PySem.boot_len (pa_cons (pv 2) pa_nil)) pa_nil))))
  (pss_cons (ps_expr (pe_fn D_send_home tk (hr.mono (by decide)) rfl (pa_cons (pv 0) (pa_cons (pv 2) pa_nil))))
  (pss_one (ps_expr (pe_fn D_mark tk (hr.mono (by decide)) rfl (pa_cons (pv 0) (pa_cons pe_int pa_nil))))))))))))

abbrev st_recover : Stmt := top 7
theorem sc_recover : FnScope n_recover ["disk"] (defScope st_recover) := ⟨rfl, rfl, rfl, by decide +kernel, rfl, by decide +kernel, by decide +kernel⟩
theorem ok_recover {f : Addr} {fd : FuncData} (F : FnP K "recover" "recover" st_recover f fd) (T : Txt K mg) (D_Disk_read : MtAt P w K mg base (L2.CX P w) 2 (c_Disk K) "read" (sp_Disk_read K)) (D_send_home : FnAt P w K mg base (L2.CX P w) 3 "send_home" (sp_send_home K)) (D_mark : FnAt P w K mg base (L2.CX P w) 3 "mark" (sp_mark K))
    (len : ∀ vs H Q E, sp_recover K vs H Q E → vs.length = 1) (pure : ∀ vs H Q E, sp_recover K vs H Q E → t_recover K (WD E) ⟨fun _ H' => Q .non H', Q, fun _ _ => False, fun _ _ => False⟩ (start n_recover vs) H) :
    FnOk P w K mg base (L2.CX P w) 4 f fd ["disk"] (sp_recover K) := by
  have sc := sc_recover
  refine F.ok sc len fun cdv A outer s H vs Q E hr h => ⟨t_recover K (WD E), ?_, pure vs H Q E h⟩
  have tk : Takes (cxOf (L2.CX P w) P w K mg base n_recover "recover" (defScope st_recover) f cdv A outer s H E) (WD E) := takes_of rfl rfl rfl rfl
  exact (pss_cons (ps_set (i := 1) sc.nd rfl (Or.inl rfl) (pe_ix ix_list (pe_mt D_Disk_read tk (hr.mono (by decide)) (pv 0) (pa_cons (pe_gint rfl T.i_MARK) pa_nil)) pe_int (fun _ _ => rfl)))
  (pss_cons (ps_if (pt_cmpR op_gt (pv 1) pe_int (nomark _)) (pss_cons (ps_set (i := 2) sc.nd rfl (Or.inl rfl) (pe_op op_cat (pe_mt D_Disk_read tk (hr.mono (by decide)) (pv 0) (pa_cons (pe_gint rfl T.i_HOMES) pa_nil)) (pe_mt D_Disk_read tk (hr.mono (by decide)) (pv 0) (pa_cons (pe_op op_add (pe_gint rfl T.i_HOMES) pe_int) pa_nil))))
  (pss_cons (ps_expr (pe_fn D_send_home tk (hr.mono (by decide)) rfl (pa_cons (pv 0) (pa_cons (pe_slice sl_list (pv 2) po_none (po_some (pv 1))) pa_nil))))
  (pss_one (ps_expr (pe_fn D_mark tk (hr.mono (by decide)) rfl (pa_cons (pv 0) (pa_cons pe_int pa_nil))))))) pss_nil)
  (pss_one (ps_ret (pv 1)))))

abbrev st__law_idle_right : Stmt := top 20
theorem sc__law_idle_right : FnScope n__law_idle_right ["disk"] (defScope st__law_idle_right) := ⟨rfl, rfl, rfl, by decide +kernel, rfl, by decide +kernel, by decide +kernel⟩
theorem ok__law_idle_right {f : Addr} {fd : FuncData} (F : FnP K "_law_idle_right" "_law_idle_right" st__law_idle_right f fd) (T : Txt K mg) (D_Disk_image : MtAt P w K mg base CX0 1 (c_Disk K) "image" (sp_Disk_image K)) (D_Disk_writes : MtAt P w K mg base CX0 1 (c_Disk K) "writes" (sp_Disk_writes K)) (D_recover : FnAt P w K mg base (L2.CX P w) 4 "recover" (sp_recover K))
    (len : ∀ vs H Q E, sp__law_idle_right K vs H Q E → vs.length = 1) (pure : ∀ vs H Q E, sp__law_idle_right K vs H Q E → t__law_idle_right K (WD E) ⟨fun _ H' => Q .non H', Q, fun _ _ => False, fun _ _ => False⟩ (start n__law_idle_right vs) H) :
    FnOk P w K mg base (L2.CX P w) 5 f fd ["disk"] (sp__law_idle_right K) := by
  have sc := sc__law_idle_right
  refine F.ok sc len fun cdv A outer s H vs Q E hr h => ⟨t__law_idle_right K (WD E), ?_, pure vs H Q E h⟩
  have tk : Takes (cxOf (L2.CX P w) P w K mg base n__law_idle_right "_law_idle_right" (defScope st__law_idle_right) f cdv A outer s H E) (WD E) := takes_of rfl rfl rfl rfl
  exact (pss_cons (ps_par (i := 1) (j := 2) rfl sc.nd rfl rfl (by decide) rfl rfl (pa_cons (pe_mt0 D_Disk_image tk (hr.mono (by decide)) (pv 0)) (pa_cons (pe_mt0 D_Disk_writes tk (hr.mono (by decide)) (pv 0)) pa_nil)) (by first | rfl | decide +kernel))
  (pss_cons (ps_set (i := 3) sc.nd rfl (Or.inl rfl) (pe_lst (pa_cons (pe_fn D_recover tk (hr.mono (by decide)) rfl (pa_cons (pv 0) pa_nil)) (pa_cons (pe_fn D_recover tk (hr.mono (by decide)) rfl (pa_cons (pv 0) pa_nil)) pa_nil))))
  (pss_one (ps_ret (pe_and (pe_cmpR (op_eqD (hu64 hr)) (pv 3) (pe_lst (pa_cons pe_int (pa_cons pe_int pa_nil))) (nomark _)) (pe_and (pe_not (pe_callB call_isi (by rfl) T.b_isinstance (by decide +kernel) (pa_cons (pe_ix ix_list (pv 3) pe_int (fun _ _ => rfl)) (pa_cons (pe_bltn rfl T.b_bool (by decide +kernel) rfl) pa_nil)))) (pe_and (pe_cmpR (op_eqD (hu64 hr)) (pe_mt0 D_Disk_image tk (hr.mono (by decide)) (pv 0)) (pv 1) (nomark _)) (pe_one (pe_cmpR op_eq (pe_mt0 D_Disk_writes tk (hr.mono (by decide)) (pv 0)) (pv 2) (nomark _))))))))))

abbrev st__law_falls_right : Stmt := top 21
theorem sc__law_falls_right : FnScope n__law_falls_right ["tape", "disk", "many"] (defScope st__law_falls_right) := ⟨rfl, rfl, rfl, by decide +kernel, rfl, by decide +kernel, by decide +kernel⟩
theorem ok__law_falls_right {f : Addr} {fd : FuncData} (F : FnP K "_law_falls_right" "_law_falls_right" st__law_falls_right f fd) (T : Txt K mg) (D__law_draw : FnAt P w K mg base CX0 1 "_law_draw" (sp__law_draw K)) (D_Disk_image : MtAt P w K mg base CX0 1 (c_Disk K) "image" (sp_Disk_image K)) (D_Disk_writes : MtAt P w K mg base CX0 1 (c_Disk K) "writes" (sp_Disk_writes K)) (D_Disk_fall : MtAt P w K mg base CX0 1 (c_Disk K) "fall" (sp_Disk_fall K)) (D_recover : FnAt P w K mg base (L2.CX P w) 4 "recover" (sp_recover K)) (D_Disk_write : MtAt P w K mg base (L2.CX P w) 2 (c_Disk K) "write" (sp_Disk_write K)) (D__law_block : FnAt P w K mg base CX0 2 "_law_block" (sp__law_block K)) (D_Disk_rise : MtAt P w K mg base CX0 1 (c_Disk K) "rise" (sp_Disk_rise K))
    (len : ∀ vs H Q E, sp__law_falls_right K vs H Q E → vs.length = 3) (pure : ∀ vs H Q E, sp__law_falls_right K vs H Q E → t__law_falls_right K (WD E) ⟨fun _ H' => Q .non H', Q, fun _ _ => False, fun _ _ => False⟩ (start n__law_falls_right vs) H) :
    FnOk P w K mg base (L2.CX P w) 5 f fd ["tape", "disk", "many"] (sp__law_falls_right K) := by
  have sc := sc__law_falls_right
  refine F.ok sc len fun cdv A outer s H vs Q E hr h => ⟨t__law_falls_right K (WD E), ?_, pure vs H Q E h⟩
  have tk : Takes (cxOf (L2.CX P w) P w K mg base n__law_falls_right "_law_falls_right" (defScope st__law_falls_right) f cdv A outer s H E) (WD E) := takes_of rfl rfl rfl rfl
  exact (pss_cons (ps_set (i := 3) sc.nd rfl (Or.inl rfl) (pe_fn D__law_draw tk (hr.mono (by decide)) rfl (pa_cons (pv 0) (pa_cons pe_int pa_nil))))
  (pss_cons (ps_par (i := 4) (j := 5) rfl sc.nd rfl rfl (by decide) rfl rfl (pa_cons (pe_mt0 D_Disk_image tk (hr.mono (by decide)) (pv 1)) (pa_cons (pe_mt0 D_Disk_writes tk (hr.mono (by decide)) (pv 1)) pa_nil)) (by first | rfl | decide +kernel))
  (pss_cons (ps_expr (pe_mt D_Disk_fall tk (hr.mono (by decide)) (pv 1) (pa_cons (pv 3) pa_nil)))
  (pss_cons (ps_if (PW.pt (pw_or (pt_cmpR op_ne (pe_fn D_recover tk (hr.mono (by decide)) rfl (pa_cons (pv 1) pa_nil)) pe_int (nomark _)) (pw_or (pt_cmpR (op_neD (hu64 hr)) (pe_mt0 D_Disk_image tk (hr.mono (by decide)) (pv 1)) (pv 4) (nomark _)) (pw_or1 (pt_cmpR op_ne (pe_mt0 D_Disk_writes tk (hr.mono (by decide)) (pv 1)) (pv 5) (nomark _)))))) (pss_one (ps_ret pe_bl)) pss_nil)
  (pss_cons (ps_for (passes_of rfl) rfl (pi_range1 rfl T.b_range (pa_cons (pv 3) pa_nil)) (pg_name (i := 6) sc.nd rfl (Or.inl rfl)) (pss_one (ps_expr (pe_mt D_Disk_write tk (hr.mono (by decide)) (pv 1) (pa_cons (pe_op op_add pe_int (pe_fn D__law_draw tk (hr.mono (by decide)) rfl (pa_cons (pv 0) (pa_cons (pe_op op_sub (pv 2) pe_int) pa_nil)))) (pa_cons (pe_fn D__law_block tk (hr.mono (by decide)) rfl (pa_cons (pv 0) pa_nil)) pa_nil))))))
  (pss_cons (ps_par (i := 4) (j := 7) rfl sc.nd rfl rfl (by decide) rfl rfl (pa_cons (pe_mt0 D_Disk_image tk (hr.mono (by decide)) (pv 1)) (pa_cons pe_bl pa_nil)) (by first | rfl | decide +kernel))
  (pss_cons (ps_try_only rfl rfl ⟨by rfl, by decide, .inl T.e_Fallen.g⟩ tk (fun W1 pn1 xe1 tk1 pp1 => (pss_one (ps_expr (pe_mt D_Disk_write tk1 (hr.mono (by decide)) (pv 1) (pa_cons (pe_op op_add pe_int (pe_fn D__law_draw tk1 (hr.mono (by decide)) rfl (pa_cons (pv 0) (pa_cons (pe_op op_sub (pv 2) pe_int) pa_nil)))) (pa_cons (pe_fn D__law_block tk1 (hr.mono (by decide)) rfl (pa_cons (pv 0) pa_nil)) pa_nil)))))) (fun a1 oe1 cls1 d1 pn1 hz1 hf1 => (pss_one (ps_set (i := 7) sc.nd rfl (Or.inl rfl) pe_bl))))
  (pss_cons (ps_expr (pe_mt0 D_Disk_rise tk (hr.mono (by decide)) (pv 1)))
  (pss_one (ps_ret (pe_and (pv 7) (pe_and (pe_cmpR op_eq (pe_fn D_recover tk (hr.mono (by decide)) rfl (pa_cons (pv 1) pa_nil)) pe_int (nomark _)) (pe_and (pe_cmpR (op_eqD (hu64 hr)) (pe_mt0 D_Disk_image tk (hr.mono (by decide)) (pv 1)) (pv 4) (nomark _)) (pe_one (pe_cmpR op_eq (pe_mt0 D_Disk_writes tk (hr.mono (by decide)) (pv 1)) (pe_op op_add (pv 5) (pv 3)) (nomark _))))))))))))))))

abbrev st__law_fallen_right : Stmt := top 22
theorem sc__law_fallen_right : FnScope n__law_fallen_right ["tape", "disk", "many"] (defScope st__law_fallen_right) := ⟨rfl, rfl, rfl, by decide +kernel, rfl, by decide +kernel, by decide +kernel⟩
theorem ok__law_fallen_right {f : Addr} {fd : FuncData} (F : FnP K "_law_fallen_right" "_law_fallen_right" st__law_fallen_right f fd) (T : Txt K mg) (D_Disk_image : MtAt P w K mg base CX0 1 (c_Disk K) "image" (sp_Disk_image K)) (D__law_changes : FnAt P w K mg base CX0 3 "_law_changes" (sp__law_changes K)) (D_Disk_fall : MtAt P w K mg base CX0 1 (c_Disk K) "fall" (sp_Disk_fall K)) (D__law_draw : FnAt P w K mg base CX0 1 "_law_draw" (sp__law_draw K)) (D_commit : FnAt P w K mg base (L2.CX P w) 4 "commit" (sp_commit K)) (D_Disk_rise : MtAt P w K mg base CX0 1 (c_Disk K) "rise" (sp_Disk_rise K)) (D__law_idle_right : FnAt P w K mg base CX0 5 "_law_idle_right" (sp__law_idle_right K)) (D_recover : FnAt P w K mg base (L2.CX P w) 4 "recover" (sp_recover K))
    (len : ∀ vs H Q E, sp__law_fallen_right K vs H Q E → vs.length = 3) (pure : ∀ vs H Q E, sp__law_fallen_right K vs H Q E → t__law_fallen_right K (WD E) ⟨fun _ H' => Q .non H', Q, fun _ _ => False, fun _ _ => False⟩ (start n__law_fallen_right vs) H) :
    FnOk P w K mg base (L2.CX P w) 6 f fd ["tape", "disk", "many"] (sp__law_fallen_right K) := by
  have sc := sc__law_fallen_right
  refine F.ok sc len fun cdv A outer s H vs Q E hr h => ⟨t__law_fallen_right K (WD E), ?_, pure vs H Q E h⟩
  have tk : Takes (cxOf (L2.CX P w) P w K mg base n__law_fallen_right "_law_fallen_right" (defScope st__law_fallen_right) f cdv A outer s H E) (WD E) := takes_of rfl rfl rfl rfl
  exact (pss_cons (ps_asg (pe_tup (pa_cons (pe_slice sl_list (pe_mt0 D_Disk_image tk (hr.mono (by decide)) (pv 1)) (po_some pe_int) po_none) (pa_cons (pe_fn D__law_changes tk (hr.mono (by decide)) rfl (pa_cons (pv 0) (pa_cons (pv 2) pa_nil))) pa_nil))) (pg_tup rfl (pgs_cons (pg_name (i := 3) sc.nd rfl (Or.inl rfl)) (pgs_cons (pg_name (i := 4) sc.nd rfl (Or.inr rfl)) pgs_nil))))
  (pss_cons (ps_setLc (i := 5) (own := [("k", 8), ("block", 9)]) (g := (gTup K 2 (gCons (gName 8) (gCons (gName 9) gNil)))) rfl sc.nd rfl rfl (sw_true rfl rfl rfl (by decide +kernel)) (pi_enum (by rfl) T.b_enumerate (pa_cons (pv 3) pa_nil)) (blkOk_by (own := [("k", 8), ("block", 9)]) (N := n__law_fallen_right) (sc := defScope st__law_fallen_right) (by decide +kernel)) (fun _ _ _ _ _ => (pg_tup rfl (pgs_cons (pg_name (i := 8) sc.nd rfl (Or.inl rfl)) (pgs_cons (pg_name (i := 9) sc.nd rfl (Or.inl rfl)) pgs_nil)))) (fun _ _ _ _ _ => pts_nil) (fun _ _ _ _ _ => (pe_dget2 (hu_of hr) (pv 4) (pe_op op_add pe_int (pv 8)) (pv 9) ⟨by rfl, by rfl, by rfl, by rfl⟩)))
  (pss_cons (ps_expr (pe_mt D_Disk_fall tk (hr.mono (by decide)) (pv 1) (pa_cons (pe_fn D__law_draw tk (hr.mono (by decide)) rfl (pa_cons (pv 0) (pa_cons (pe_op op_add (pe_op op_mul pe_int (pe_callB call_lenD (by rfl) T.b_len PySem.boot_len (pa_cons (pv 4) pa_nil))) pe_int) pa_nil))) pa_nil)))
  (pss_cons (ps_set (i := 6) sc.nd rfl (Or.inl rfl) pe_bl)
  (pss_cons (ps_try_only rfl rfl ⟨by rfl, by decide, .inl T.e_Fallen.g⟩ tk (fun W1 pn1 xe1 tk1 pp1 => (pss_one (ps_expr (pe_fn D_commit tk1 (hr.mono (by decide)) rfl (pa_cons (pv 1) (pa_cons (pv 4) pa_nil)))))) (fun a1 oe1 cls1 d1 pn1 hz1 hf1 => (pss_one (ps_set (i := 6) sc.nd rfl (Or.inl rfl) pe_bl))))
  (pss_cons (ps_expr (pe_mt0 D_Disk_rise tk (hr.mono (by decide)) (pv 1)))
  (pss_cons (ps_if (pt_not (pt_val (pv 6))) (pss_one (ps_ret (pe_and (pe_cmpR (op_eqD (hu64 hr)) (pe_slice sl_list (pe_mt0 D_Disk_image tk (hr.mono (by decide)) (pv 1)) (po_some pe_int) po_none) (pv 5) (nomark _)) (pe_one (pe_fn D__law_idle_right tk (hr.mono (by decide)) rfl (pa_cons (pv 1) pa_nil)))))) pss_nil)
  (pss_cons (ps_expr (pe_fn D_recover tk (hr.mono (by decide)) rfl (pa_cons (pv 1) pa_nil)))
  (pss_cons (ps_set (i := 7) sc.nd rfl (Or.inl rfl) (pe_slice sl_list (pe_mt0 D_Disk_image tk (hr.mono (by decide)) (pv 1)) (po_some pe_int) po_none))
  (pss_cons (ps_if (PW.pt (pw_or (pt_cmpR (op_notInTD (hu64 hr)) (pv 7) (pe_tup (pa_cons (pv 3) (pa_cons (pv 5) pa_nil))) (by with_unfolding_all rfl)) (pw_or (pt_cmpR op_ne (pe_fn D_recover tk (hr.mono (by decide)) rfl (pa_cons (pv 1) pa_nil)) pe_int (nomark _)) (pw_or1 (pt_cmpR (op_neD (hu64 hr)) (pe_slice sl_list (pe_mt0 D_Disk_image tk (hr.mono (by decide)) (pv 1)) (po_some pe_int) po_none) (pv 7) (nomark _)))))) (pss_one (ps_ret pe_bl)) pss_nil)
  (pss_cons (ps_expr (pe_fn D_commit tk (hr.mono (by decide)) rfl (pa_cons (pv 1) (pa_cons (pe_disp (pps_cons pe_int (pe_ix ix_list (pv 7) pe_int (fun _ _ => rfl)) pps_nil) (by rfl) (by rfl) (fun z => by cases z) (by decide)) pa_nil))))
  (pss_one (ps_ret (pe_and (pe_cmpR (op_eqD (hu64 hr)) (pe_slice sl_list (pe_mt0 D_Disk_image tk (hr.mono (by decide)) (pv 1)) (po_some pe_int) po_none) (pv 7) (nomark _)) (pe_one (pe_fn D__law_idle_right tk (hr.mono (by decide)) rfl (pa_cons (pv 1) pa_nil)))))))))))))))))

abbrev st_law : Stmt := top 24
theorem sc_law : FnScope n_law ["script"] (defScope st_law) := ⟨rfl, rfl, rfl, by decide +kernel, rfl, by decide +kernel, by decide +kernel⟩
theorem ok_law {f : Addr} {fd : FuncData} (F : FnP K "law" "law" st_law f fd) (T : Txt K mg) (D__law_tape : FnAt P w K mg base CX0 1 "_law_tape" (sp__law_tape K)) (D__law_draw : FnAt P w K mg base CX0 1 "_law_draw" (sp__law_draw K)) (D_Disk___init__ : MkAt P w K mg base CX0 1 "Disk" (c_Disk K) (sp_Disk___init__ K)) (D__law_idle_right : FnAt P w K mg base CX0 5 "_law_idle_right" (sp__law_idle_right K)) (D__law_falls_right : FnAt P w K mg base CX0 5 "_law_falls_right" (sp__law_falls_right K)) (D__law_lists_right : FnAt P w K mg base CX0 3 "_law_lists_right" (sp__law_lists_right K)) (D_commit : FnAt P w K mg base (L2.CX P w) 4 "commit" (sp_commit K)) (D__law_changes : FnAt P w K mg base CX0 3 "_law_changes" (sp__law_changes K)) (D__law_fallen_right : FnAt P w K mg base CX0 6 "_law_fallen_right" (sp__law_fallen_right K))
    (len : ∀ vs H Q E, sp_law K vs H Q E → vs.length = 1) (pure : ∀ vs H Q E, sp_law K vs H Q E → t_law K (WD E) ⟨fun _ H' => Q .non H', Q, fun _ _ => False, fun _ _ => False⟩ (start n_law vs) H) :
    FnOk P w K mg base (L2.CX P w) 7 f fd ["script"] (sp_law K) := by
  have sc := sc_law
  refine F.ok sc len fun cdv A outer s H vs Q E hr h => ⟨t_law K (WD E), ?_, pure vs H Q E h⟩
  have tk : Takes (cxOf (L2.CX P w) P w K mg base n_law "law" (defScope st_law) f cdv A outer s H E) (WD E) := takes_of rfl rfl rfl rfl
  exact (pss_cons (ps_for (passes_of rfl) rfl (pi_range1 rfl T.b_range (pa_cons (pe_callB (call_max2 rfl) (by rfl) T.b_max (by decide +kernel) (pa_cons pe_int (pa_cons (pe_callB (call_min2 rfl) (by rfl) T.b_min (by decide +kernel) (pa_cons (pe_callB call_len (by rfl) T.b_len PySem.boot_len (pa_cons (pv 0) pa_nil)) (pa_cons pe_int pa_nil))) pa_nil))) pa_nil)) (pg_name (i := 1) sc.nd rfl (Or.inl rfl)) (pss_cons (ps_set (i := 2) sc.nd rfl (Or.inl rfl) (pe_fn D__law_tape tk (hr.mono (by decide)) rfl (pa_cons (pv 0) (pa_cons (pv 1) pa_nil))))
  (pss_cons (ps_set (i := 3) sc.nd rfl (Or.inl rfl) (pe_op op_add pe_int (pe_fn D__law_draw tk (hr.mono (by decide)) rfl (pa_cons (pv 2) (pa_cons (pe_ix ix_list (pe_lst (pa_cons pe_int (pa_cons pe_int pa_nil))) (pe_fn D__law_draw tk (hr.mono (by decide)) rfl (pa_cons (pv 2) (pa_cons pe_int pa_nil))) (fun _ _ => rfl)) pa_nil)))))
  (pss_cons (ps_set (i := 4) sc.nd rfl (Or.inl rfl) (pe_mk D_Disk___init__ tk (hr.mono (by decide)) rfl (pa_cons (pv 3) pa_nil)))
  (pss_cons (ps_if (PW.pt (pw_or (pt_not (pt_val (pe_fn D__law_idle_right tk (hr.mono (by decide)) rfl (pa_cons (pv 4) pa_nil)))) (pw_or1 (pt_not (pt_val (pe_fn D__law_falls_right tk (hr.mono (by decide)) rfl (pa_cons (pv 2) (pa_cons (pv 4) (pa_cons (pv 3) pa_nil))))))))) (pss_one (ps_ret pe_bl)) pss_nil)
  (pss_cons (ps_if (pt_not (pt_val (pe_fn D__law_lists_right tk (hr.mono (by decide)) rfl (pa_cons (pv 2) (pa_cons (pv 4) (pa_cons (pv 3) pa_nil)))))) (pss_one (ps_ret pe_bl)) pss_nil)
  (pss_cons (ps_for (passes_of rfl) rfl (pi_range1 rfl T.b_range (pa_cons (pe_fn D__law_draw tk (hr.mono (by decide)) rfl (pa_cons (pv 2) (pa_cons pe_int pa_nil))) pa_nil)) (pg_name (i := 5) sc.nd rfl (Or.inl rfl)) (pss_cons (ps_expr (pe_fn D_commit tk (hr.mono (by decide)) rfl (pa_cons (pv 4) (pa_cons (pe_fn D__law_changes tk (hr.mono (by decide)) rfl (pa_cons (pv 2) (pa_cons (pv 3) pa_nil))) pa_nil))))
  (pss_one (ps_if (PW.pt (pw_or (pt_not (pt_val (pe_fn D__law_idle_right tk (hr.mono (by decide)) rfl (pa_cons (pv 4) pa_nil)))) (pw_or1 (pt_not (pt_val (pe_fn D__law_falls_right tk (hr.mono (by decide)) rfl (pa_cons (pv 2) (pa_cons (pv 4) (pa_cons (pv 3) pa_nil))))))))) (pss_one (ps_ret pe_bl)) pss_nil))))
  (pss_one (ps_if (pt_not (pt_val (pe_fn D__law_fallen_right tk (hr.mono (by decide)) rfl (pa_cons (pv 2) (pa_cons (pv 4) (pa_cons (pv 3) pa_nil)))))) (pss_one (ps_ret pe_bl)) pss_nil)))))))))
  (pss_one (ps_ret pe_bl)))
end
end S
set_option Elab.async false
set_option linter.all false
set_option maxRecDepth 100000
set_option maxHeartbeats 1000000
namespace S
open PySem PySem.Spec L2
abbrev Wr := List (Nat × List Int)
section
variable {D : Dk} {ws vs : Wr} {n k : Nat} {r : List Int}
theorem run_app : ∀ {ws : Wr} {D : Dk}, D.run (ws ++ vs) = if (D.run ws).1 = true then (D.run ws).2.run vs else D.run ws
  | [], D => by simp [Dk.run]
  | (n, r) :: ws, D => by
    by_cases h : D.falls = true
    · simp [Dk.run, h]
    · simp only [List.cons_append, Dk.run, h, run_app (ws := ws)]
      simp
theorem run_len : ∀ {ws : Wr} {D : Dk}, (D.run ws).2.bs.length = D.bs.length
  | [], D => rfl
  | (n, r) :: ws, D => by
    by_cases h : D.falls = true
    · simp [Dk.run, h]
    · simp only [Dk.run, h]
      simpa using run_len (ws := ws) (D := D.wr n r)
theorem run_up : ∀ {ws : Wr} {D : Dk}, (D.run ws).1 = true → (D.run ws).2.down = D.down
  | [], D, _ => rfl
  | (n, r) :: ws, D, e => by
    by_cases h : D.falls = true
    · simp [Dk.run, h] at e
    · simp only [Dk.run, h] at e ⊢
      simpa using run_up (ws := ws) (D := D.wr n r) (by simpa using e)
theorem run_ne : ∀ {ws : Wr} {D : Dk}, (∀ p ∈ ws, p.1 ≠ k) → (D.run ws).2.bs[k]? = D.bs[k]?
  | [], D, _ => rfl
  | (n, r) :: ws, D, e => by
    by_cases h : D.falls = true
    · simp [Dk.run, h]
    · simp only [Dk.run, h]
      have := run_ne (ws := ws) (D := D.wr n r) fun p q => e p (.tail _ q)
      simp only [Bool.false_eq_true, if_false]
      rw [this]
      have n1 : n ≠ k := e (n, r) (.head _)
      simp [Dk.wr, List.getElem?_set, n1]
theorem run_calm : ∀ {ws : Wr} {D : Dk}, D.left = none → D.down = false → (D.run ws).1 = true ∧ (D.run ws).2.left = none
  | [], D, h, _ => ⟨rfl, h⟩
  | (n, r) :: ws, D, h, h2 => by
    have f : D.falls = false := by simp [Dk.falls, h, h2]
    have := run_calm (ws := ws) (D := D.wr n r) (by simp [Dk.wr, h]) (by simp [Dk.wr, h2])
    simp only [Dk.run, f]
    simpa using this
/-- what the writes so far have left -/
structure Ran (D : Dk) (ws : Wr) (D1 : Dk) : Prop where
  ok : D.run ws = (true, D1)
theorem Ran.nil : Ran D [] D := ⟨rfl⟩
theorem Ran.wr {D1 : Dk} (h : Ran D ws D1) (f : D1.falls = false) : Ran D (ws ++ [(n, r)]) (D1.wr n r) := ⟨by rw [run_app, h.ok]; simp [Dk.run, f]⟩
theorem Ran.stop {D1 : Dk} (h : Ran D ws D1) (f : D1.falls = true) : D.run (ws ++ (n, r) :: vs) = (false, { D1 with down := true }) := by rw [run_app, h.ok]; simp [Dk.run, f]
theorem Ran.more {D1 D2 : Dk} (h : Ran D ws D1) (g : Ran D1 vs D2) : Ran D (ws ++ vs) D2 := ⟨by rw [run_app, h.ok]; simp [g.ok]⟩
theorem Ran.len {D1 : Dk} (h : Ran D ws D1) : D1.bs.length = D.bs.length := by have := run_len (ws := ws) (D := D); rwa [h.ok] at this
theorem Ran.up {D1 : Dk} (h : Ran D ws D1) : D1.down = D.down := by have := run_up (ws := ws) (D := D); rw [h.ok] at this; exact this rfl
theorem Ran.ne {D1 : Dk} (h : Ran D ws D1) (e : ∀ p ∈ ws, p.1 ≠ k) : D1.bs[k]? = D.bs[k]? := by have := run_ne (D := D) e; rwa [h.ok] at this
theorem Ran.calm {D1 : Dk} (h : Ran D ws D1) (l : D.left = none) (u : D.down = false) : D1.left = none := by have := (run_calm (ws := ws) (D := D) l u).2; rwa [h.ok] at this
theorem Ran.of (e : (D.run ws).1 = true) : Ran D ws (D.run ws).2 := ⟨Prod.ext e rfl⟩
theorem Ran.cut {D1 : Dk} (h : Ran D (ws ++ vs) D1) : ∃ D2, Ran D ws D2 ∧ Ran D2 vs D1 := by
  have e := h.ok
  rw [run_app] at e
  by_cases q : (D.run ws).1 = true
  · rw [if_pos q] at e
    exact ⟨_, .of q, ⟨e⟩⟩
  · rw [if_neg q] at e
    rw [e] at q
    exact (q rfl).elim
/-- the last of the writes at a place stands -/
theorem Ran.get {D1 : Dk} (h : Ran D (ws ++ (k, r) :: vs) D1) (l : k < D.bs.length) (e : ∀ p ∈ vs, p.1 ≠ k) : D1.bs[k]? = some r := by
  obtain ⟨D2, h1, h2⟩ := h.cut
  obtain ⟨D3, h3, h4⟩ := Ran.cut (ws := [(k, r)]) (vs := vs) h2
  rw [h4.ne e]
  have : D3 = D2.wr k r := by
    have := h3.ok
    by_cases f : D2.falls = true
    · simp [Dk.run, f] at this
    · simp [Dk.run, f] at this
      exact this.symm
  subst this
  have := h1.len
  simp [Dk.wr, List.getElem?_set, this, l]
end
theorem shW_snoc {bs : List (List Int)} : ∀ {hs : List Int} {i : Nat} {x : Int}, shW bs i (hs ++ [x]) = shW bs i hs ++ [(x.toNat, bs.getD (3 + (i + hs.length)) [])]
  | [], i, x => rfl
  | y :: hs, i, x => by
    simp only [List.cons_append, shW, shW_snoc (hs := hs), List.length_cons]
    rw [show i + 1 + hs.length = i + (hs.length + 1) by omega]
theorem shW_take {bs : List (List Int)} {hs : List Int} {j : Nat} (h : j < hs.length) : shW bs 0 (hs.take (j + 1)) = shW bs 0 (hs.take j) ++ [(hs[j].toNat, bs.getD (3 + j) [])] := by
  rw [← List.take_append_getElem h, shW_snoc]
  simp [Nat.min_eq_left (Nat.le_of_lt h)]
theorem shW_cut {bs : List (List Int)} {hs : List Int} {j : Nat} (h : j < hs.length) : ∃ vs, shW bs 0 hs = shW bs 0 (hs.take j) ++ (hs[j].toNat, bs.getD (3 + j) []) :: vs := by
  have app : ∀ (a b : List Int) (i : Nat), shW bs i (a ++ b) = shW bs i a ++ shW bs (i + a.length) b := by
    intro a
    induction a with
    | nil => intro b i; rfl
    | cons x a ih =>
      intro b i
      simp only [List.cons_append, shW, ih, List.length_cons]
      rw [show i + 1 + a.length = i + (a.length + 1) by omega]
  refine ⟨shW bs (j + 1) (hs.drop (j + 1)), ?_⟩
  have e : hs = hs.take j ++ hs[j] :: hs.drop (j + 1) := by rw [List.getElem_cons_drop, List.take_append_drop]
  have l : (hs.take j).length = j := by simp [Nat.min_eq_left (Nat.le_of_lt h)]
  rw [show shW bs 0 hs = shW bs 0 (hs.take j ++ hs[j] :: hs.drop (j + 1)) by rw [← e], app, l]
  simp [shW]
theorem shW_mem {bs : List (List Int)} : ∀ {hs : List Int} {i : Nat}, ∀ p ∈ shW bs i hs, ∃ x ∈ hs, p.1 = x.toNat
  | x :: hs, i, p, h => by
    rcases List.mem_cons.mp h with rfl | h
    · exact ⟨x, .head _, rfl⟩
    · obtain ⟨y, hy, e⟩ := shW_mem (hs := hs) p h
      exact ⟨y, .tail _ hy, e⟩
theorem jW_cut {m : List (Int × List Int)} {hs : List Int} {j : Nat} (h : j < hs.length) : jW m 0 (hs.take (j + 1)) = jW m 0 (hs.take j) ++ [(3 + j, look m hs[j])] ∧ ∃ vs, jW m 0 hs = jW m 0 (hs.take j) ++ (3 + j, look m hs[j]) :: vs ∧ ∀ p ∈ vs, 3 + j < p.1 := by
  have app : ∀ (a b : List Int) (i : Nat), jW m i (a ++ b) = jW m i a ++ jW m (i + a.length) b := by
    intro a
    induction a with
    | nil => intro b i; rfl
    | cons x a ih =>
      intro b i
      simp only [List.cons_append, jW, ih, List.length_cons]
      rw [show i + 1 + a.length = i + (a.length + 1) by omega]
  have mem : ∀ (b : List Int) (i : Nat), ∀ p ∈ jW m i b, 3 + i ≤ p.1 := by
    intro b
    induction b with
    | nil => intro i p h; cases h
    | cons x b ih =>
      intro i p h
      rcases List.mem_cons.mp h with rfl | h
      · exact Nat.le_refl _
      · have := ih _ p h
        omega
  have e : hs = hs.take j ++ hs[j] :: hs.drop (j + 1) := by rw [List.getElem_cons_drop, List.take_append_drop]
  have l : (hs.take j).length = j := by simp [Nat.min_eq_left (Nat.le_of_lt h)]
  refine ⟨by rw [← List.take_append_getElem h, app, l]; simp [jW], jW m (j + 1) (hs.drop (j + 1)), ?_, fun p q => by have := mem _ _ p q; omega⟩
  rw [show jW m 0 hs = jW m 0 (hs.take j ++ hs[j] :: hs.drop (j + 1)) by rw [← e], app, l]
  simp [jW]
theorem jW_mem {m : List (Int × List Int)} : ∀ {hs : List Int} {i : Nat}, ∀ p ∈ jW m i hs, 3 + i ≤ p.1 ∧ p.1 < 3 + i + hs.length
  | x :: hs, i, p, h => by
    rcases List.mem_cons.mp h with rfl | h
    · simp
    · have := jW_mem (hs := hs) p h
      simp at this ⊢; omega
/-- behind the log, the homes' new blocks stand in it -/
theorem Ran.log {D D1 : Dk} {m : List (Int × List Int)} {hs : List Int} (h : Ran D (jW m 0 hs) D1) (l : 3 + hs.length ≤ D.bs.length) {j : Nat} (e : j < hs.length) : D1.bs[3 + j]? = some (look m hs[j]) := by
  obtain ⟨vs, e1, e2⟩ := (jW_cut (m := m) e).2
  rw [e1] at h
  exact h.get (by omega) fun p q => by have := e2 p q; omega
theorem shW_of {bs : List (List Int)} {m : List (Int × List Int)} : ∀ {hs : List Int} {i : Nat}, (∀ j (e : j < hs.length), bs[3 + (i + j)]? = some (look m hs[j])) → shW bs i hs = hW m hs
  | [], i, _ => rfl
  | x :: hs, i, h => by
    have h0 := h 0 (by simp)
    have := shW_of (bs := bs) (m := m) (hs := hs) (i := i + 1) fun j e => by
      have := h (j + 1) (by simp; omega)
      rw [show i + 1 + j = i + (j + 1) by omega]
      simpa using this
    simp only [shW, hW, List.map_cons] at this ⊢
    rw [this]
    simp at h0
    simp [List.getD, h0]
/-! dicts of blocks -/
theorem look_at {m : List (Int × List Int)} {as : List Addr} (l : as.length = m.length) {x : Int} (h : x ∈ m.map (·.1)) : ∃ (i : Nat) (a : Addr), as[i]? = some a ∧ valV (kvC m as) (Sum.inl x : Key) = some (.ref a) ∧ (m.map (·.2))[i]? = some (look m x) := by
  induction m generalizing as with
  | nil => cases h
  | cons p m ih =>
    cases as with
    | nil => simp at l
    | cons a as =>
      by_cases e : p.1 = x
      · subst e
        exact ⟨0, a, rfl, by simp [kvC, valV_pos], by simp [look]⟩
      · rcases List.mem_map.mp h with ⟨q, hq, e2⟩
        rcases List.mem_cons.mp hq with rfl | hq
        · exact (e e2).elim
        obtain ⟨i, b, h1, h2, h3⟩ := ih (as := as) (by simpa using l) (List.mem_map.mpr ⟨q, hq, e2⟩)
        refine ⟨i + 1, b, h1, ?_, ?_⟩
        · simp only [kvC, List.zipWith_cons_cons] at h2 ⊢
          rw [valV_neg (by simpa using e)]
          exact h2
        · simp only [look, List.map_cons, List.getElem?_cons_succ] at h3 ⊢
          rw [h3]
          simp [List.find?_cons, e]
theorem kvC_keys : ∀ {m : List (Int × List Int)} {as : List Addr}, as.length = m.length → (kvC m as).map (·.1) = (m.map (·.1)).map Sum.inl
  | [], [], _ => rfl
  | p :: m, a :: as, h => by
    simp only [kvC, List.zipWith_cons_cons, List.map_cons]
    congr 1
    exact kvC_keys (by simpa using h)
  | [], _ :: _, h => by simp at h
  | _ :: _, [], h => by simp at h
section
variable {K : PySem.W.Frag} {F0 : FP} {H0 H : Hp} {L L1 : List HP} {c a : Addr} {m : List (Int × List Int)} {as : List Addr} {rs : List (List Int)} {n : Nat} {r : List Int}
theorem At.chgAE (h : At F0 H0 L H) (s : Sel (chgA c m as) L L1) : as.length = m.length ∧ At F0 H0 (pt c (.dK (kvC m as)) :: rows as (m.map (·.2)) :: L1) H := by
  have h := (h.sel s).allE
  exact ⟨by simpa using h.rowsLen (.there .here), h⟩
theorem At.chgAI (h : At F0 H0 L H) (s : Arr [pt c (.dK (kvC m as)), rows as (m.map (·.2))] L L1) : At F0 H0 (chgA c m as :: L1) H := At.allI (h.arr s)
theorem At.chgE (h : At F0 H0 L H) (s : Sel (chg c m) L L1) : ∃ as, At F0 H0 (chgA c m as :: L1) H := (h.sel s).exE
theorem At.chgI (h : At F0 H0 L H) (s : Arr [pt c (.dK (kvC m as)), rows as (m.map (·.2))] L L1) : At F0 H0 (chg c m :: L1) H := (h.chgAI s).exI as
theorem At.rowsBack (h : At F0 H0 L H) (s : Arr [pt a (il r), rows (as.eraseIdx n) (rs.eraseIdx n)] L L1) (h1 : as[n]? = some a) (h2 : rs[n]? = some r) (l : as.length = rs.length) : At F0 H0 (rows as rs :: L1) H := by
  obtain ⟨F, ⟨F1, F2, a1, a2, a3, a4, G1, G2, b1, b2, b3, ⟨b4, b5⟩, b6⟩, k2, k3, k4⟩ := (h.arr s).ex
  have z : S.sep (rowsL as rs) (fun x => F1 x ∨ G1 x) H := (rowsL_sel h1 h2).back ⟨F1, G1, fun _ => .inl, fun _ => .inr, fun x q q2 => a3 x q (b1 x q2), a4, b5⟩
  exact ⟨F, ⟨fun x => F1 x ∨ G1 x, G2, fun x q => q.elim (a1 x) fun q => a2 x (b1 x q), fun x q => a2 x (b2 x q), fun x q q2 => q.elim (fun q => a3 x q (b2 x q2)) fun q => b3 x q q2, ⟨l, z⟩, b6⟩, k2, k3, k4⟩
theorem s_sortedC {Q : VK} (h : At F0 H0 L H) (s : Sel (chgA c m as) L L1) (l : m.length < 64) (q : ∀ hs p H', isHomes m hs → At F0 H0 (pt p (il hs) :: L) H' → Q (.ref p) H') : rSortedDI [.ref c] H Q := by
  obtain ⟨e, h1⟩ := h.chgAE s
  exact ⟨c, _, m.map (·.1), rfl, .of (h1.get .here), kvC_keys e, by simpa using l, fun ys p h2 h3 hp => q ys p _ ⟨h2, h3⟩ (h.new hp)⟩
end
end S
set_option Elab.async false
set_option linter.all false
set_option maxRecDepth 100000
set_option maxHeartbeats 1000000
namespace S
open PySem PySem.Spec L2
theorem run_false : ∀ {ws : Wr} {D D1 : Dk}, D.run ws = (false, D1) → ∃ j D2, j < ws.length ∧ Ran D (ws.take j) D2 ∧ D1 = { D2 with down := true }
  | [], D, D1, h => by cases h
  | (n, r) :: ws, D, D1, h => by
    by_cases f : D.falls = true
    · simp [Dk.run, f] at h
      exact ⟨0, D, by simp, .nil, h.symm⟩
    · simp only [Dk.run, f] at h
      obtain ⟨j, D2, h1, h2, h3⟩ := run_false (ws := ws) (D := D.wr n r) (by simpa using h)
      refine ⟨j + 1, D2, by simpa using h1, ⟨?_⟩, h3⟩
      simp only [List.take_succ_cons, Dk.run, f]
      simpa using h2.ok
def all16 (bs : List (List Int)) : Prop := ∀ r ∈ bs, r.length = 16
theorem run_16 : ∀ {ws : Wr} {D : Dk}, all16 D.bs → (∀ p ∈ ws, p.2.length = 16) → all16 (D.run ws).2.bs
  | [], D, h, _ => h
  | (n, r) :: ws, D, h, q => by
    by_cases f : D.falls = true
    · simpa [Dk.run, f] using h
    · simp only [Dk.run, f]
      have := run_16 (ws := ws) (D := D.wr n r) (fun x hx => by
        rcases List.mem_or_eq_of_mem_set hx with z | z
        · exact h x z
        · rw [z]; exact q _ (.head _)) fun p hp => q p (.tail _ hp)
      simpa using this
theorem Ran.s16 {D D1 : Dk} {ws : Wr} (h : Ran D ws D1) (a : all16 D.bs) (q : ∀ p ∈ ws, p.2.length = 16) : all16 D1.bs := by have := run_16 a q; rwa [h.ok] at this
theorem run_dn : ∀ {ws : Wr} {D : Dk}, (D.run ws).1 = true → (D.run ws).2.done = D.done + ws.length
  | [], D, _ => by simp [Dk.run]
  | (n, r) :: ws, D, h => by
    by_cases f : D.falls = true
    · simp [Dk.run, f] at h
    · simp only [Dk.run, f] at h ⊢
      have := run_dn (ws := ws) (D := D.wr n r) (by simpa using h)
      simp at this ⊢
      omega
/-- the homes' rows, by their keys -/
def mOk (m : List (Int × List Int)) (N : Nat) : Prop := m.length ≤ 24 ∧ 0 < m.length ∧ (m.map (·.1)).Nodup ∧ (∀ q ∈ m, 28 ≤ q.1 ∧ q.1 < N ∧ q.2.length = 16)
theorem look_mem {m : List (Int × List Int)} {x : Int} (h : x ∈ m.map (·.1)) : (x, look m x) ∈ m := by
  induction m with
  | nil => cases h
  | cons p m ih =>
    by_cases e : p.1 = x
    · subst e; simp [look]
    · have : x ∈ m.map (·.1) := by
        rcases List.mem_map.mp h with ⟨q, hq, e2⟩
        rcases List.mem_cons.mp hq with rfl | hq
        · exact (e e2).elim
        · exact List.mem_map.mpr ⟨q, hq, e2⟩
      refine .tail _ ?_
      have := ih this
      rwa [show look (p :: m) x = look m x by simp [look, List.find?_cons, e]]
section
variable {m : List (Int × List Int)} {hs : List Int} {N : Nat} {D D1 D2 : Dk}
structure HsOk (m : List (Int × List Int)) (hs : List Int) (N : Nat) : Prop where
  len : hs.length = m.length
  l24 : hs.length ≤ 24
  l0 : 0 < hs.length
  nd : hs.Nodup
  mem : ∀ x, x ∈ hs ↔ x ∈ m.map (·.1)
  bd : ∀ x ∈ hs, 28 ≤ x ∧ x < N
  r16 : ∀ x ∈ hs, (look m x).length = 16
theorem HsOk.of (o : mOk m N) (h : isHomes m hs) : HsOk m hs N := by
  obtain ⟨o1, o2, o3, o4⟩ := o
  have l : hs.length = m.length := by simpa using h.1.length_eq
  have mm : ∀ x, x ∈ hs ↔ x ∈ m.map (·.1) := fun x => h.1.mem_iff
  refine ⟨l, by omega, by omega, h.1.nodup_iff.mpr o3, mm, fun x q => ?_, fun x q => ?_⟩
  · obtain ⟨a, b, c⟩ := o4 _ (look_mem ((mm x).mp q)); exact ⟨a, b⟩
  · exact (o4 _ (look_mem ((mm x).mp q))).2.2
def rA (hs : List Int) : List Int := (hs ++ List.replicate 32 0).take 16
def rB (hs : List Int) : List Int := ((hs ++ List.replicate 32 0).drop 16).take 16
theorem rA16 : (rA hs).length = 16 := by simp [rA]
theorem rB16 : (rB hs).length = 16 := by simp [rB]
theorem rAB (o : HsOk m hs N) : (rA hs ++ rB hs).take hs.length = hs := by
  have := o.l24
  rw [rA, rB, ← List.take_add, List.take_take, Nat.min_eq_left (by omega), List.take_append_of_le_length (Nat.le_refl _), List.take_length]
def log (m : List (Int × List Int)) (hs : List Int) : Wr := jW m 0 hs ++ [(1, rA hs), (2, rB hs)]
theorem cmE : cmW m hs = log m hs ++ ((0, (hs.length : Int) :: List.replicate 15 0) :: (hW m hs ++ [(0, 0 :: List.replicate 15 0)])) := by simp [cmW, log, rA, rB]
theorem jW_len : ∀ {hs : List Int} {i : Nat}, (jW m i hs).length = hs.length
  | [], _ => rfl
  | _ :: hs, i => by simp [jW, jW_len (hs := hs)]
theorem jW_row : ∀ {hs : List Int} {i : Nat}, ∀ p ∈ jW m i hs, ∃ x ∈ hs, p.2 = look m x
  | x :: hs, i, p, h => by
    rcases List.mem_cons.mp h with rfl | h
    · exact ⟨x, .head _, rfl⟩
    · obtain ⟨y, hy, e⟩ := jW_row (hs := hs) p h
      exact ⟨y, .tail _ hy, e⟩
theorem log_ix (o : HsOk m hs N) : ∀ p ∈ log m hs, 0 < p.1 ∧ p.1 < 28 := by
  intro p h
  rcases List.mem_append.mp h with h | h
  · have := jW_mem p h; have := o.l24; omega
  · simp at h; rcases h with rfl | rfl <;> simp
theorem log_16 (o : HsOk m hs N) : ∀ p ∈ log m hs, p.2.length = 16 := by
  intro p h
  rcases List.mem_append.mp h with h | h
  · obtain ⟨x, hx, e⟩ := jW_row p h
    rw [e]; exact o.r16 x hx
  · simp at h; rcases h with rfl | rfl
    · exact rA16
    · exact rB16
theorem hW_16 (o : HsOk m hs N) : ∀ p ∈ hW m hs, p.2.length = 16 ∧ ∃ x ∈ hs, p.1 = x.toNat := by
  intro p h
  obtain ⟨x, hx, rfl⟩ := List.mem_map.mp h
  exact ⟨o.r16 x hx, x, hx, rfl⟩
/-- a home's write stands, whatever is written in front, the mark behind -/
theorem Ran.home {ws : Wr} (o : HsOk m hs N) (R : Ran D (ws ++ (hW m hs ++ [(0, 0 :: List.replicate 15 0)])) D1) (l : D.bs.length = N) {x : Int} (hx : x ∈ hs) : D1.bs[x.toNat]? = some (look m x) := by
  obtain ⟨h1, h2, e⟩ := List.append_of_mem hx
  have nd := o.nd
  have bd := o.bd x hx
  rw [e] at nd
  have e2 : ws ++ (hW m hs ++ [(0, 0 :: List.replicate 15 0)]) = (ws ++ hW m h1) ++ (x.toNat, look m x) :: (hW m h2 ++ [(0, 0 :: List.replicate 15 0)]) := by rw [e]; simp [hW]
  rw [e2] at R
  refine R.get (by omega) fun p hp => ?_
  rcases List.mem_append.mp hp with hp | hp
  · obtain ⟨y, hy, rfl⟩ := List.mem_map.mp hp
    have b2 := o.bd y (by rw [e]; simp [hy])
    have : x ≠ y := by
      rw [List.nodup_append] at nd
      rintro rfl
      exact (List.nodup_cons.mp nd.2.1).1 hy
    show y.toNat ≠ x.toNat
    omega
  · simp at hp; subst hp
    show 0 ≠ x.toNat
    omega
/-- as it is to be behind a commit -/
structure Fin (m : List (Int × List Int)) (hs : List Int) (bs bs' : List (List Int)) : Prop where
  len : bs'.length = bs.length
  mark : ∃ tl, bs'[0]? = some (0 :: tl)
  s16 : all16 bs'
  home : ∀ x ∈ hs, bs'[x.toNat]? = some (look m x)
  rest : ∀ k : Nat, 28 ≤ k → ¬ (k : Int) ∈ hs → bs'[k]? = bs[k]?
theorem Fin.of {ws : Wr} {bs : List (List Int)} (o : HsOk m hs N) (R : Ran D (ws ++ (hW m hs ++ [(0, 0 :: List.replicate 15 0)])) D1) (l : bs.length = D.bs.length) (e : D.bs.length = N) (n0 : 0 < N) (a : all16 D.bs) (q : ∀ p ∈ ws, p.2.length = 16 ∧ p.1 < 28)
    (r : ∀ k : Nat, 28 ≤ k → ¬ (k : Int) ∈ hs → D.bs[k]? = bs[k]?) : Fin m hs bs D1.bs := by
  refine ⟨by rw [R.len, l], ⟨List.replicate 15 0, ?_⟩, R.s16 a fun p hp => ?_, fun x hx => R.home o e hx, fun k k1 k2 => ?_⟩
  · rw [← List.append_assoc] at R
    exact R.get (by omega) fun p hp => by cases hp
  · rcases List.mem_append.mp hp with hp | hp
    · exact (q p hp).1
    · rcases List.mem_append.mp hp with hp | hp
      · exact (hW_16 o p hp).1
      · simp at hp; subst hp; rfl
  · rw [R.ne, r k k1 k2]
    intro p hp
    rcases List.mem_append.mp hp with hp | hp
    · have := q p hp; omega
    · rcases List.mem_append.mp hp with hp | hp
      · obtain ⟨-, x, hx, e⟩ := hW_16 o p hp
        have := o.bd x hx
        rintro rfl
        exact k2 (by rw [show ((p.1 : Nat) : Int) = x by omega]; exact hx)
      · simp at hp; subst hp
        show 0 ≠ k
        omega
theorem cm_fin (o : HsOk m hs N) (R : Ran D (cmW m hs) D1) (e : D.bs.length = N) (n0 : 28 < N) (a : all16 D.bs) : Fin m hs D.bs D1.bs := by
  rw [cmE, ← List.singleton_append, ← List.append_assoc] at R
  refine Fin.of o R rfl e (by omega) a (fun p hp => ?_) fun _ _ _ => rfl
  rcases List.mem_append.mp hp with hp | hp
  · exact ⟨log_16 o p hp, (log_ix o p hp).2⟩
  · simp at hp; subst hp; simp
/-- what a fallen commit leaves: the old blocks, or a mark with all that is to be sent home -/
theorem cm_cut (o : HsOk m hs N) {j : Nat} (R : Ran D ((cmW m hs).take j) D2) (j1 : j < (cmW m hs).length) (e : D.bs.length = N) (n0 : 28 < N) (a : all16 D.bs) (mk : ∃ tl, D.bs[0]? = some (0 :: tl)) :
    all16 D2.bs ∧ D2.bs.length = N ∧ (((∃ tl, D2.bs[0]? = some (0 :: tl)) ∧ ∀ k : Nat, 28 ≤ k → D2.bs[k]? = D.bs[k]?) ∨
      (D2.bs[0]? = some ((hs.length : Int) :: List.replicate 15 0) ∧ D2.bs[1]? = some (rA hs) ∧ D2.bs[2]? = some (rB hs) ∧ (∀ i (h : i < hs.length), D2.bs[3 + i]? = some (look m hs[i])) ∧ ∀ k : Nat, 28 ≤ k → ¬ (k : Int) ∈ hs → D2.bs[k]? = D.bs[k]?)) := by
  refine ⟨R.s16 a fun p hp => ?_, by rw [R.len, e], ?_⟩
  · have hp := List.mem_of_mem_take hp
    rw [cmE] at hp
    rcases List.mem_append.mp hp with hp | hp
    · exact log_16 o p hp
    · rcases List.mem_cons.mp hp with rfl | hp
      · simp
      · rcases List.mem_append.mp hp with hp | hp
        · exact (hW_16 o p hp).1
        · simp at hp; subst hp; rfl
  by_cases q : j ≤ (log m hs).length
  · rw [cmE, List.take_append_of_le_length q] at R
    have ix : ∀ p ∈ (log m hs).take j, 0 < p.1 ∧ p.1 < 28 := fun p hp => log_ix o p (List.mem_of_mem_take hp)
    refine .inl ⟨?_, fun k k1 => R.ne fun p hp => by have := ix p hp; omega⟩
    obtain ⟨tl, mk⟩ := mk
    exact ⟨tl, by rw [R.ne fun p hp => by have := ix p hp; omega]; exact mk⟩
  · obtain ⟨i, rfl⟩ : ∃ i, j = (log m hs).length + (i + 1) := ⟨j - (log m hs).length - 1, by omega⟩
    have i1 : i ≤ (hW m hs).length := by rw [cmE] at j1; simp at j1; omega
    rw [cmE, List.take_length_add_append, List.take_succ_cons, List.take_append_of_le_length i1] at R
    have hx : ∀ p ∈ (hW m hs).take i, 28 ≤ p.1 ∧ ∃ x ∈ hs, p.1 = x.toNat := fun p hp => by
      obtain ⟨-, x, hx, e⟩ := hW_16 o p (List.mem_of_mem_take hp)
      have := o.bd x hx
      exact ⟨by omega, x, hx, e⟩
    refine .inr ⟨R.get (by omega) fun p hp => by have := hx p hp; omega, ?_, ?_, fun k k1 => ?_, fun k k1 k2 => R.ne fun p hp => ?_⟩
    · have R : Ran D (jW m 0 hs ++ (1, rA hs) :: ((2, rB hs) :: (0, (hs.length : Int) :: List.replicate 15 0) :: (hW m hs).take i)) D2 := by simpa [log] using R
      refine R.get (by omega) fun p hp => ?_
      rcases List.mem_cons.mp hp with rfl | hp
      · simp
      · rcases List.mem_cons.mp hp with rfl | hp
        · simp
        · have := hx p hp; omega
    · have R : Ran D ((jW m 0 hs ++ [(1, rA hs)]) ++ (2, rB hs) :: ((0, (hs.length : Int) :: List.replicate 15 0) :: (hW m hs).take i)) D2 := by simpa [log] using R
      refine R.get (by omega) fun p hp => ?_
      rcases List.mem_cons.mp hp with rfl | hp
      · simp
      · have := hx p hp; omega
    · have R : Ran D (jW m 0 hs ++ ([(1, rA hs), (2, rB hs), (0, (hs.length : Int) :: List.replicate 15 0)] ++ (hW m hs).take i)) D2 := by simpa [log] using R
      obtain ⟨D3, R1, R2⟩ := R.cut
      have := o.l24
      rw [R2.ne, R1.log (by omega) k1]
      intro p hp
      rcases List.mem_append.mp hp with hp | hp
      · simp at hp; rcases hp with rfl | rfl | rfl <;> simp <;> omega
      · have := hx p hp; omega
    · rcases List.mem_append.mp hp with hp | hp
      · have := log_ix o p hp; omega
      · rcases List.mem_cons.mp hp with rfl | hp
        · show 0 ≠ k; omega
        · obtain ⟨a1, x, hx2, e2⟩ := hx p hp
          have := o.bd x hx2
          rintro rfl
          exact k2 (by rw [show ((p.1 : Nat) : Int) = x by omega]; exact hx2)
/-- sent home -/
theorem rec_fin {bs : List (List Int)} (o : HsOk m hs N) (l : ∀ i (h : i < hs.length), D2.bs[3 + i]? = some (look m hs[i])) (r : ∀ k : Nat, 28 ≤ k → ¬ (k : Int) ∈ hs → D2.bs[k]? = bs[k]?) (a : all16 D2.bs) (e : D2.bs.length = N) (e2 : bs.length = N) (n0 : 28 < N)
    (u : D2.down = false) (lf : D2.left = none) : Fin m hs bs (recD D2 hs.length hs).bs ∧ (recD D2 hs.length hs).left = none ∧ (recD D2 hs.length hs).down = false := by
  have l0 := o.l0
  rw [recD, if_neg (by omega), shW_of fun j h => by rw [Nat.zero_add]; exact l j h]
  have c := run_calm (ws := hW m hs ++ [(0, 0 :: List.replicate 15 0)]) lf u
  have R := Ran.of c.1
  exact ⟨Fin.of (ws := []) o R (by rw [e, e2]) e (by omega) a (fun p hp => by cases hp) r, c.2, by rw [R.up, u]⟩
end
end S
set_option Elab.async false
set_option linter.all false
set_option maxRecDepth 100000
set_option maxHeartbeats 1000000
namespace S
open PySem PySem.Spec L2
local macro_rules | `(tactic| wtm_at "z_sel") => `(tactic| with_reducible first
  | exact Sel.here | exact (Sel.there Sel.here) | exact (Sel.there (Sel.there Sel.here)) | exact (Sel.there (Sel.there (Sel.there Sel.here))) | exact (Sel.there (Sel.there (Sel.there (Sel.there Sel.here)))) | exact (Sel.there (Sel.there (Sel.there (Sel.there (Sel.there Sel.here))))) | exact (Sel.there (Sel.there (Sel.there (Sel.there (Sel.there (Sel.there Sel.here)))))) | exact (Sel.there (Sel.there (Sel.there (Sel.there (Sel.there (Sel.there (Sel.there Sel.here))))))) | exact (Sel.there (Sel.there (Sel.there (Sel.there (Sel.there (Sel.there (Sel.there (Sel.there Sel.here)))))))) | exact (Sel.there (Sel.there (Sel.there (Sel.there (Sel.there (Sel.there (Sel.there (Sel.there (Sel.there Sel.here))))))))) | exact (Sel.there (Sel.there (Sel.there (Sel.there (Sel.there (Sel.there (Sel.there (Sel.there (Sel.there (Sel.there Sel.here)))))))))) | exact (Sel.there (Sel.there (Sel.there (Sel.there (Sel.there (Sel.there (Sel.there (Sel.there (Sel.there (Sel.there (Sel.there Sel.here))))))))))) | exact (Sel.there (Sel.there (Sel.there (Sel.there (Sel.there (Sel.there (Sel.there (Sel.there (Sel.there (Sel.there (Sel.there (Sel.there Sel.here)))))))))))) | exact (Sel.there (Sel.there (Sel.there (Sel.there (Sel.there (Sel.there (Sel.there (Sel.there (Sel.there (Sel.there (Sel.there (Sel.there (Sel.there Sel.here))))))))))))) | exact (Sel.there (Sel.there (Sel.there (Sel.there (Sel.there (Sel.there (Sel.there (Sel.there (Sel.there (Sel.there (Sel.there (Sel.there (Sel.there (Sel.there Sel.here)))))))))))))) | exact (Sel.there (Sel.there (Sel.there (Sel.there (Sel.there (Sel.there (Sel.there (Sel.there (Sel.there (Sel.there (Sel.there (Sel.there (Sel.there (Sel.there (Sel.there Sel.here))))))))))))))) | exact (Sel.there (Sel.there (Sel.there (Sel.there (Sel.there (Sel.there (Sel.there (Sel.there (Sel.there (Sel.there (Sel.there (Sel.there (Sel.there (Sel.there (Sel.there (Sel.there Sel.here)))))))))))))))) | exact (Sel.there (Sel.there (Sel.there (Sel.there (Sel.there (Sel.there (Sel.there (Sel.there (Sel.there (Sel.there (Sel.there (Sel.there (Sel.there (Sel.there (Sel.there (Sel.there (Sel.there Sel.here))))))))))))))))))
local macro_rules | `(tactic| wtm_at "z_arr") => `(tactic| repeat' (with_reducible first
  | exact Arr.nil | apply Arr.cons Sel.here | apply Arr.cons (Sel.there Sel.here) | apply Arr.cons (Sel.there (Sel.there Sel.here)) | apply Arr.cons (Sel.there (Sel.there (Sel.there Sel.here))) | apply Arr.cons (Sel.there (Sel.there (Sel.there (Sel.there Sel.here)))) | apply Arr.cons (Sel.there (Sel.there (Sel.there (Sel.there (Sel.there Sel.here))))) | apply Arr.cons (Sel.there (Sel.there (Sel.there (Sel.there (Sel.there (Sel.there Sel.here)))))) | apply Arr.cons (Sel.there (Sel.there (Sel.there (Sel.there (Sel.there (Sel.there (Sel.there Sel.here))))))) | apply Arr.cons (Sel.there (Sel.there (Sel.there (Sel.there (Sel.there (Sel.there (Sel.there (Sel.there Sel.here)))))))) | apply Arr.cons (Sel.there (Sel.there (Sel.there (Sel.there (Sel.there (Sel.there (Sel.there (Sel.there (Sel.there Sel.here))))))))) | apply Arr.cons (Sel.there (Sel.there (Sel.there (Sel.there (Sel.there (Sel.there (Sel.there (Sel.there (Sel.there (Sel.there Sel.here)))))))))) | apply Arr.cons (Sel.there (Sel.there (Sel.there (Sel.there (Sel.there (Sel.there (Sel.there (Sel.there (Sel.there (Sel.there (Sel.there Sel.here))))))))))) | apply Arr.cons (Sel.there (Sel.there (Sel.there (Sel.there (Sel.there (Sel.there (Sel.there (Sel.there (Sel.there (Sel.there (Sel.there (Sel.there Sel.here)))))))))))) | apply Arr.cons (Sel.there (Sel.there (Sel.there (Sel.there (Sel.there (Sel.there (Sel.there (Sel.there (Sel.there (Sel.there (Sel.there (Sel.there (Sel.there Sel.here))))))))))))) | apply Arr.cons (Sel.there (Sel.there (Sel.there (Sel.there (Sel.there (Sel.there (Sel.there (Sel.there (Sel.there (Sel.there (Sel.there (Sel.there (Sel.there (Sel.there Sel.here)))))))))))))) | apply Arr.cons (Sel.there (Sel.there (Sel.there (Sel.there (Sel.there (Sel.there (Sel.there (Sel.there (Sel.there (Sel.there (Sel.there (Sel.there (Sel.there (Sel.there (Sel.there Sel.here))))))))))))))) | apply Arr.cons (Sel.there (Sel.there (Sel.there (Sel.there (Sel.there (Sel.there (Sel.there (Sel.there (Sel.there (Sel.there (Sel.there (Sel.there (Sel.there (Sel.there (Sel.there (Sel.there Sel.here)))))))))))))))) | apply Arr.cons (Sel.there (Sel.there (Sel.there (Sel.there (Sel.there (Sel.there (Sel.there (Sel.there (Sel.there (Sel.there (Sel.there (Sel.there (Sel.there (Sel.there (Sel.there (Sel.there (Sel.there Sel.here)))))))))))))))))))
local macro_rules | `(tactic| wtm_at "z_sql") => `(tactic| first | (with_reducible assumption) | exact sqL_at (by assumption) (by wtm_at "z_sel") | exact sqL_fz (by assumption) (by wtm_at "z_sel"))
local macro_rules | `(tactic| wtm_at "z_sqt") => `(tactic| first | (with_reducible assumption) | exact sqT_at (by assumption) (by wtm_at "z_sel"))
local macro_rules | `(tactic| wtm_at "z_lk0") => `(tactic| (repeat (with_reducible first | exact lk_hd | exact lk_nil | refine Eq.trans (lk_tl (by decide +kernel)) ?_)))
local macro_rules | `(tactic| wtm_at "z_pf0") => `(tactic| (simp only [pf_hd, pf_nil, pf_tl (k := _) (a := _) (by decide +kernel)]))
local macro_rules | `(tactic| wtm_at "z_line") => `(tactic| (first | decide | (simp only [List.length_cons, List.length_nil, List.length_append, List.length_map, List.length_reverse, List.length_replicate, PySem.sizeLine_eq] at *; omega)))
local macro_rules | `(tactic| wtm_at "z_s") => `(tactic| simp only [q_asg, q_drop, q_ret, q_retN, q_ifS, q_next, q_break, q_cont, q_raise, q_wd, q_we, q_par, q_par2, q_gname, q_gnil, q_gcons, q_gsub, q_var0, q_varS, q_c, q_op, q_un, q_nil, q_cons, q_cb, q_chain, q_k, q_m, q_n, q_f, q_s, q_sa, q_tup, q_lst, q_sl, q_nopart, q_part, q_exint, q_exbl, q_tif, q_test, q_B, q_and, q_or, q_not, q_andV, q_orV, q_notV, q_yes, q_iftt, q_ifff, q_plus, q_minus, q_radd, q_rsub, q_ipI, q_lt, q_le, q_gt, q_ge, q_eqII, q_neII, q_eqSS, q_neSS, q_eqNI, q_isnN, q_isnI, q_isnR, q_notnN, q_notnI, q_notnR, q_neg, q_abs, q_min2, q_max2, q_int1b, q_bm, q_bm0, q_dput, q_dget, q_dget2, q_din, q_dnotin, q_set0, q_setS, List.length_map, q_rng1, q_list, q_tupI, q_enum, q_lc, q_for, wipe, Bool.not_true, Bool.not_false, if_true, if_false, Bool.false_eq_true, decide_true, decide_false])
local macro_rules | `(tactic| wtm_at "z_start") => `(tactic| (refine s_start (by (simp only [L2.start, List.map_cons, List.map_nil, List.length_cons, List.length_nil, Nat.reduceAdd, Nat.reduceSub, List.replicate, List.cons_append, List.nil_append]; try exact rfl)) ?_))
set_option hygiene false
local macro_rules | `(tactic| wtm_at "z_hp") => `(tactic| first
  | ((with_reducible show kF _ _ _ _ _); (with_reducible refine' s_kF (by assumption) (by wtm_at "z_sel") (by wtm_at "z_lk") ?_))
  | ((with_reducible show kS _ _ _ _ _ _); (with_reducible refine' s_kS (by assumption) (by wtm_at "z_sel") (by wtm_at "z_pf") ?z ?_); (case z => exact of_decide_eq_true rfl); intro _ h)
  | ((with_reducible show gTup _ _ _ _ _ _ _); (with_reducible refine' s_gtup (by wtm_at "z_sqt") ?z ?_); (case z => rfl))
  | ((with_reducible show newL _ _ _); (with_reducible refine' s_newL (by assumption) ?z ?_); (case z => wtm_at "z_line"); intro _ _ h)
  | ((with_reducible show newT _ _ _); (with_reducible refine' s_newTp (by assumption) ?z ?_); (case z => wtm_at "z_line"); intro _ _ h)
  | ((with_reducible show newI _ _ _); (with_reducible refine' s_newIn (by assumption) ?_); intro _ _ h)
  | ((with_reducible show tDNewK _ _ _); (with_reducible refine' s_dnewK (by assumption) ?_); intro _ _ h)
  | ((with_reducible show rLen _ _ _ _); (with_reducible refine' s_len (by wtm_at "z_sql") ?_))
  | ((with_reducible show rIxL _ _ (V.int 0) _ _); (with_reducible refine' s_ixL0 (by wtm_at "z_sql") ?_))
  | ((with_reducible show rIxL _ _ (V.int 1) _ _); (with_reducible refine' s_ixL1 (by wtm_at "z_sql") ?_))
  | ((with_reducible show rIxL _ _ (V.int 2) _ _); (with_reducible refine' s_ixL2 (by wtm_at "z_sql") ?_))
  | ((with_reducible show rIxT _ _ _ _ _); (with_reducible refine' s_ixT (by wtm_at "z_sqt") ?e ?_); (case e => rfl))
  | ((with_reducible show tyV _ _ _ _ ∧ _); (with_reducible refine' s_tyL (by wtm_at "z_sql") ?_))
  | ((with_reducible show rAppend _ _ _ _); (with_reducible refine' s_append (by assumption) (by wtm_at "z_sel") ?z ?_); (case z => wtm_at "z_line"); intro _ h)
  | ((with_reducible show rListOf _ _ _ _); (with_reducible refine' s_listOf (by assumption) (Or.inl (by wtm_at "z_sql")) ?_); intro _ _ h)
  | ((with_reducible show rSlL _ _ _ _ _ _); (with_reducible refine' s_slL (by assumption) (by wtm_at "z_sql") ?_); intro _ _ h)
  | ((with_reducible show rCat _ _ _ _); (with_reducible refine' s_cat (by assumption) (by wtm_at "z_sel") (by wtm_at "z_sel") ?z ?_); (case z => wtm_at "z_line"); intro _ _ h)
  | ((with_reducible show rRep _ _ _ _); (with_reducible refine' s_rep1 (by assumption) (by wtm_at "z_sel") (by decide) (by decide) ?z ?_); (case z => decide +kernel); intro _ _ h)
  | ((with_reducible show rRep _ _ _ _); (with_reducible refine' s_rep (by assumption) (by wtm_at "z_sel") (by decide) (by decide) ?z ?_); (case z => first | decide | wtm_at "z_line"); intro _ _ h)
  | ((with_reducible show rLenD _ _ _); (with_reducible refine' s_lenD (by assumption) (by wtm_at "z_sel") ?_))
  | ((with_reducible show rMod _ _ _ _); (with_reducible refine s_mod ?c ?_); (case c => first | decide | omega))
  | ((with_reducible show rMul _ _ _ _); (with_reducible refine s_mul ?c ?_); (case c => first | exact Or.inl ⟨by omega, by omega⟩ | exact Or.inr ⟨by omega, by omega⟩))
  | ((with_reducible show rSetL _ (V.int 0) _ _ _); (with_reducible refine' s_setL0 (by assumption) (by wtm_at "z_sel") ?_); intro _ h)
  | ((with_reducible show rSetL _ (V.int 1) _ _ _); (with_reducible refine' s_setL1 (by assumption) (by wtm_at "z_sel") ?_); intro _ h)
  | ((with_reducible show rSetL _ (V.int 2) _ _ _); (with_reducible refine' s_setL2 (by assumption) (by wtm_at "z_sel") ?_); intro _ h))
set_option hygiene true
local macro_rules | `(tactic| wtm_at "z_if") => `(tactic| first
  | (with_reducible refine s_ifyes (by omega) ?_) | (with_reducible refine s_ifno (by omega) ?_)
  | (with_reducible refine s_ifnF (by omega) ?_) | (with_reducible refine s_ifnT (by omega) ?_)
  | (with_reducible refine s_ifnd ?_ ?_ <;> intro _)
  | (with_reducible refine s_ifd ?_ ?_ <;> intro _))
local macro_rules | `(tactic| wtm_at "z_in") => `(tactic| repeat (first | wtm_at "z_s" | wtm_at "z_hp"))
local macro_rules | `(tactic| wtm_at "z_st") => `(tactic| ((with_reducible refine s_seq ?_); wtm_at "z_in"))
local macro_rules | `(tactic| wtm_at "z_go") => `(tactic| repeat (first | (with_reducible refine s_seq ?_) | wtm_at "z_s" | wtm_at "z_hp"))
local macro_rules | `(tactic| wtm_at "z_lk") => `(tactic| with_reducible first
  | exact lk_Disk_blocks
  | exact lk_Disk_done
  | exact lk_Disk_left
  | exact lk_Disk_down)
local macro_rules | `(tactic| wtm_at "z_pf") => `(tactic| with_reducible first
  | exact pf_Disk_blocks
  | exact pb_Disk_blocks
  | exact pf_Disk_done
  | exact pb_Disk_done
  | exact pf_Disk_left
  | exact pb_Disk_left
  | exact pf_Disk_down
  | exact pb_Disk_down)
local macro_rules | `(tactic| wtm_at "z_no") => `(tactic| with_reducible first
  | exact no_Disk_look
  | exact no_Disk_read
  | exact no_Disk_write
  | exact no_Disk_writes
  | exact no_Disk_fall
  | exact no_Disk_rise
  | exact no_Disk_image)
abbrev Goal (t : TS) (n : List Str) (vs : List V) (H : Hp) (Q : VK) : Prop := t ⟨fun _ H' => Q .non H', Q, fun _ _ => False, fun _ _ => False⟩ (start n vs) H
section
variable {K : PySem.W.Frag} {vs : List V} {H : Hp} {Q : VK} {E : XK}
theorem divW {i m : Int} (m0 : 0 < m) (m1 : m ≤ 2 ^ 62) : CDivW i m := ⟨m0, (wide_div (i := 0) (b := 63) m0 (by omega) (by decide) (by decide)).2⟩
theorem pure__law_draw (h : sp__law_draw K vs H Q E) : Goal (t__law_draw K (WD E)) n__law_draw vs H Q := by
  obtain ⟨a, n, m, rfl, m0, m1, n1, t⟩ := h
  obtain ⟨F, h, hq, -⟩ := t.open
  obtain ⟨x, y, z, ⟨x0, y0, y1, z0, z1⟩, h⟩ := h.tapeE
  unfold Goal t__law_draw; wtm_at "z_start"
  wtm_at "z_go"
  wtm_at "z_if"
  · wtm_at "z_go"
    refine s_fdiv (divW m0 m1) ?_
    wtm_at "z_go"
    refine hq _ _ _ ⟨x % m, rfl, Int.emod_nonneg _ (by omega), Int.emod_lt_of_pos _ m0, rfl⟩ (At.tapeI (by assumption) ⟨Int.ediv_nonneg x0 (by omega), y0, y1, z0, by omega⟩)
  · wtm_at "z_go"
    refine s_pow ⟨by decide, by decide, by omega⟩ ?_
    generalize (y + 39373 * (z + 1)) ^ (5 : Int).toNat = pw
    wtm_at "z_go"
    refine s_fdiv (divW (by decide) (by decide)) ?_
    wtm_at "z_go"
    refine hq _ _ _ ⟨_, rfl, Int.emod_nonneg _ (by omega), Int.emod_lt_of_pos _ m0, rfl⟩ (At.tapeI (by assumption) ⟨x0, y0, y1, by omega, by omega⟩)
end
set_option Elab.async false
set_option linter.all false
set_option maxRecDepth 100000
set_option maxHeartbeats 1000000
section
variable {K : PySem.W.Frag} {vs : List V} {H : Hp} {Q : VK} {E : XK}
theorem c_draw {F0 : FP} {H0 H : Hp} {L L1 : List HP} {a : Addr} {n : Nat} {m : Int} {Q : VK} {E : XK} (h : At F0 H0 L H) (s : Sel (tape a n) L L1) (m0 : 0 < m) (m1 : m ≤ 2 ^ 62) (n1 : n < 2 ^ 40)
    (q : ∀ r H', 0 ≤ r → r < m → At F0 H0 (tape a (n + 1) :: L1) H' → Q (.int r) H') : sp__law_draw K [.ref a, .int m] H Q E :=
  ⟨a, n, m, rfl, m0, m1, n1, h.call (.cons s .nil) (fun v L' H' ⟨r, e, r0, r1, e2⟩ h => by subst e e2; exact q r H' r0 r1 h) fun _ _ _ _ z => z.elim⟩
theorem pure_Disk_look (h : sp_Disk_look K vs H Q E) : Goal (t_Disk_look K (WD E)) n_Disk_look vs H Q := by
  obtain ⟨d, D, n, rfl, h0, h1, t⟩ := h
  obtain ⟨F, h, hq, -⟩ := t.open
  obtain ⟨b, as, h⟩ := h.diskE .here
  have el := h.rowsLen (by wtm_at "z_sel")
  unfold Goal t_Disk_look; wtm_at "z_start"
  wtm_at "z_go"
  wtm_at "z_if"
  wtm_at "z_go"
  wtm_at "z_if"
  wtm_at "z_go"
  exact hq _ _ _ ⟨rfl, rfl⟩ (h.diskI (by wtm_at "z_arr"))
theorem c_look {F0 : FP} {H0 H : Hp} {L L1 : List HP} {d : Addr} {D : Dk} {n : Int} {Q : VK} {E : XK} (h : At F0 H0 L H) (s : Sel (disk K d D) L L1) (n0 : 0 ≤ n) (n1 : n < D.bs.length) 
    (q : ∀ H', At F0 H0 (disk K d D :: L1) H' → Q .non H') : kIns (c_Disk K) "look" (.ref d) H ∧ sp_Disk_look K [.ref d, .int n] H Q E :=
  s_mdisk h s (fun b => no_Disk_look) ⟨d, D, n, rfl, n0, n1, h.call (.cons s .nil) (fun v L' H' ⟨e, e2⟩ h => by subst e e2; exact q H' h) fun _ _ _ _ z => z.elim⟩
theorem pure_Disk_read (h : sp_Disk_read K vs H Q E) : Goal (t_Disk_read K (WD E)) n_Disk_read vs H Q := by
  obtain ⟨d, D, n, r, rfl, h0, h1, dn, t⟩ := h
  obtain ⟨F, h, hq, -⟩ := t.open
  have hl : n < D.bs.length := by have := (List.getElem?_eq_some_iff.mp h1).1; omega
  unfold Goal t_Disk_read; wtm_at "z_start"
  wtm_at "z_go"
  refine c_look h .here h0 hl fun H1 h => ?_
  obtain ⟨b, as, h⟩ := h.diskE .here
  obtain ⟨a, ea, ha⟩ := h.rowsAt (by wtm_at "z_sel") h1
  wtm_at "z_go"
  rw [dn]
  wtm_at "z_go"
  refine s_ixLn (by wtm_at "z_sql") h0 (v := .ref a) (by simp [ea]) ?_
  refine s_listOf h (Or.inl (.of ha)) fun p H' h => ?_
  have h := h.diskI (D := D) (L1 := [pt p (il r)]) (by wtm_at "z_arr")
  exact hq _ _ _ ⟨p, rfl, rfl⟩ (h.only (by wtm_at "z_arr"))
theorem c_read {F0 : FP} {H0 H : Hp} {L L1 : List HP} {d : Addr} {D : Dk} {n : Int} {r : List Int} {Q : VK} {E : XK} (h : At F0 H0 L H) (s : Sel (disk K d D) L L1) (n0 : 0 ≤ n) (n1 : D.bs[n.toNat]? = some r) (dn : D.down = false)
    (q : ∀ p H', At F0 H0 (pt p (il r) :: disk K d D :: L1) H' → Q (.ref p) H') : sp_Disk_read K [.ref d, .int n] H Q E :=
  ⟨d, D, n, r, rfl, n0, n1, dn, h.call (.cons s .nil) (fun v L' H' ⟨p, e, e2⟩ h => by subst e e2; exact q p H' h) fun _ _ _ _ z => z.elim⟩
theorem pure_Disk_write (h : sp_Disk_write K vs H Q E) : Goal (t_Disk_write K (WD E)) n_Disk_write vs H Q := by
  obtain ⟨d, p, ⟨bs, done, left, down⟩, n, r, rfl, h0, h1, t⟩ := h
  simp only at h1
  obtain ⟨F, h, hq, he⟩ := t.open
  clear t
  unfold Goal t_Disk_write; wtm_at "z_start"
  wtm_at "z_st"
  refine c_look h .here h0 h1 fun H1 h => ?_
  obtain ⟨b, as, h⟩ := h.diskE .here
  have el := h.rowsLen (by wtm_at "z_sel")
  simp only [dfs] at h el
  have fin : ∀ (l2 : Option Int) H2, At F H [obj (c_Disk K) d [("blocks", .ref b), ("done", .int done), ("left", lv l2), ("down", .bl false)], pt b (.lst (as.map V.ref)), rows as bs, pt p (il r)] H2 → (Dk.mk bs done left false).falls = false → down = false → l2 = left.map (· - 1) →
      tSeq (tAsg (tCB (rListOf K) (tCons (tVar 2) tNil)) (gSub (tF (c_Disk K) "blocks" (tVar 0)) (tVar 1) rSetL)) (tSA (c_Disk K) "done" rAdd (tVar 0) (tC (.int 1))) ⟨fun _ H' => Q .non H', Q, fun _ _ => False, fun _ _ => False⟩ [some (.ref d), some (.int n), some (.ref p)] H2 := by
    intro l2 H2 h9 fl dn e
    subst e dn
    clear h
    have h := h9
    clear h9
    refine s_seq ?_
    wtm_at "z_s"
    refine s_listOf h (Or.inl (by wtm_at "z_sql")) fun p2 H3 h => ?_
    wtm_at "z_in"
    refine s_setLn (by assumption) (by wtm_at "z_sel") h0 (by simp; omega) fun H4 h => ?_
    wtm_at "z_in"
    have h2 := h.only (M := [pt p2 (il r), rows as bs, obj (c_Disk K) d [("blocks", .ref b), ("done", .int (done + 1)), ("left", lv (left.map (· - 1))), ("down", .bl false)], pt b (.lst ((as.map V.ref).set n.toNat (.ref p2))), pt p (il r)]) (by wtm_at "z_arr")
    have h2 := h2.rowsPut (n := n.toNat) (by omega)
    rw [← List.map_set] at h2
    exact hq _ _ _ ⟨rfl, fl, rfl⟩ (At.diskI (D := Dk.wr ⟨bs, done, left, false⟩ n.toNat r) h2 (by wtm_at "z_arr"))
  cases down
  · cases left with
    | none =>
      simp only [lv] at h
      wtm_at "z_st"
      wtm_at "z_st"
      exact fin none _ h rfl rfl rfl
    | some i =>
      simp only [lv] at h
      wtm_at "z_st"
      wtm_at "z_if"
      · wtm_at "z_go"
        exact he _ _ _ _ ⟨rfl, rfl, by simp [Dk.falls, *], rfl⟩ (At.diskI (D := ⟨bs, done, some i, true⟩) (b := b) (as := as) h (by wtm_at "z_arr"))
      · wtm_at "z_in"
        wtm_at "z_st"
        exact fin (some (i - 1)) _ h (by simp [Dk.falls, *]) rfl rfl
  · wtm_at "z_go"
    exact he _ _ _ _ ⟨rfl, rfl, by simp [Dk.falls], rfl⟩ (At.diskI (D := ⟨bs, done, left, true⟩) (b := b) (as := as) h (by wtm_at "z_arr"))
end
set_option Elab.async false
set_option linter.all false
set_option maxRecDepth 100000
set_option maxHeartbeats 1000000
section
variable {K : PySem.W.Frag} {F0 : FP} {H0 H : Hp} {L L1 : List HP} {a p D : Addr} {as : List Addr} {rs rs' : List (List Int)} {r : List Int}
/-- rows so far in a comprehension -/
def rowI (rs : List (List Int)) (L0 : List HP) : List V → List HP → Prop := fun acc L => ∃ as, acc = as.map V.ref ∧ L = rows as rs :: L0
theorem s_accRow (h : At F0 H0 L H) (s : Arr [pt p (il r), rows as rs, pt D (.lst (as.map V.ref))] L L1) (z : rs.length < sizeLine) (e : rs' = rs ++ [r]) : accK F0 H0 D (rowI rs' L1) (.ref p) H := by
  have h := (h.arr s).rowsSnoc
  refine s_acc (h.arr (.cons (.there .here) (.cons .here .nil))) .here ?_ ⟨as ++ [p], by simp, by rw [e]; rfl⟩
  have := h.rowsLen .here
  simp at this
  simpa [this] using z
end
section
variable {K : PySem.W.Frag} {vs : List V} {H : Hp} {Q : VK} {E : XK}
theorem pure_Disk___init__ (h : sp_Disk___init__ K vs H Q E) : Goal (t_Disk___init__ K (WD E)) n_Disk___init__ vs H Q := by
  obtain ⟨x, m, rfl, m0, m1, t⟩ := h
  obtain ⟨F, h, hq, -⟩ := t.open
  unfold Goal t_Disk___init__; wtm_at "z_start"
  wtm_at "z_st"
  refine s_rng1 (by omega) (by omega) ?_
  refine s_lcR (fun j => rowI (List.replicate j (List.replicate 16 0)) [obj (c_Disk K) x []]) h.rowsNil ⟨[], rfl, rfl⟩ (fun j acc L D H j1 ⟨as, e1, e2⟩ h => ?_) (fun acc L D H ⟨as, e1, e2⟩ h => ?_)
  · subst e1 e2
    wtm_at "z_in"
    rw [show List.replicate (Int.toNat 16) (V.int 0) = (List.replicate 16 (0 : Int)).map V.int from rfl] at h
    exact s_accRow (rs := List.replicate j (List.replicate 16 0)) (r := List.replicate 16 0) (as := as) (h.sel (.there .here) |>.drop) (by wtm_at "z_arr") (by simp [sizeLine_eq]; omega) (by rw [List.replicate_succ'])
  · subst e1 e2
    wtm_at "z_go"
    exact hq _ _ _ ⟨rfl, rfl⟩ (At.diskI (D := ⟨List.replicate m.toNat (List.replicate 16 0), 0, none, false⟩) (b := D) (as := as) h (by wtm_at "z_arr"))
theorem pure_Disk_writes (h : sp_Disk_writes K vs H Q E) : Goal (t_Disk_writes K (WD E)) n_Disk_writes vs H Q := by
  obtain ⟨d, D, rfl, t⟩ := h
  obtain ⟨F, h, hq, -⟩ := t.open
  obtain ⟨b, as, h⟩ := h.diskE .here
  unfold Goal t_Disk_writes; wtm_at "z_start"
  wtm_at "z_go"
  exact hq _ _ _ ⟨rfl, rfl⟩ (h.diskI (by wtm_at "z_arr"))
theorem pure_Disk_fall (h : sp_Disk_fall K vs H Q E) : Goal (t_Disk_fall K (WD E)) n_Disk_fall vs H Q := by
  obtain ⟨d, D, n, rfl, t⟩ := h
  obtain ⟨F, h, hq, -⟩ := t.open
  obtain ⟨b, as, h⟩ := h.diskE .here
  unfold Goal t_Disk_fall; wtm_at "z_start"
  wtm_at "z_go"
  exact hq _ _ _ ⟨rfl, rfl⟩ (At.diskI (D := { D with left := some n }) (b := b) (as := as) h (by wtm_at "z_arr"))
theorem pure_Disk_rise (h : sp_Disk_rise K vs H Q E) : Goal (t_Disk_rise K (WD E)) n_Disk_rise vs H Q := by
  obtain ⟨d, D, rfl, t⟩ := h
  obtain ⟨F, h, hq, -⟩ := t.open
  obtain ⟨b, as, h⟩ := h.diskE .here
  unfold Goal t_Disk_rise; wtm_at "z_start"
  wtm_at "z_go"
  exact hq _ _ _ ⟨rfl, rfl⟩ (At.diskI (D := { D with left := none, down := false }) (b := b) (as := as) h (by wtm_at "z_arr"))
theorem pure_Disk_image (h : sp_Disk_image K vs H Q E) : Goal (t_Disk_image K (WD E)) n_Disk_image vs H Q := by
  obtain ⟨d, D, rfl, l, t⟩ := h
  obtain ⟨F, h, hq, -⟩ := t.open
  obtain ⟨b, bs, h⟩ := h.diskE .here
  have el := h.rowsLen (by wtm_at "z_sel")
  unfold Goal t_Disk_image; wtm_at "z_start"
  wtm_at "z_go"
  refine s_list (by wtm_at "z_sql") ?_
  refine s_lcL (xs := bs.map V.ref) (fun j => rowI (D.bs.take j) [obj (c_Disk K) d (dfs b D), pt b (.lst (bs.map V.ref)), rows bs D.bs]) h.rowsNil ⟨[], rfl, rfl⟩ (fun j acc L D' H ⟨as, e1, e2⟩ h => ?_) (fun j x acc L D' H ex ⟨as, e1, e2⟩ h => ?_) (fun acc L D' H ⟨as, e1, e2⟩ h => ?_)
  · subst e1 e2
    exact sqL_at h (by wtm_at "z_sel")
  · subst e1 e2
    obtain ⟨c, ec, rfl⟩ : ∃ c, bs[j]? = some c ∧ .ref c = x := by simpa using ex
    have jl : j < D.bs.length := by rw [← el]; exact (List.getElem?_eq_some_iff.mp ec).1
    obtain ⟨c', e3, e4⟩ := h.rowsAt (rs := D.bs) (n := j) (r := D.bs[j]) (as := bs) (by wtm_at "z_sel") (by simp [jl])
    obtain rfl : c' = c := by rw [ec] at e3; exact (Option.some.inj e3).symm
    wtm_at "z_in"
    refine s_listOf h (Or.inl (.of e4)) fun p H' h => ?_
    exact s_accRow (rs := D.bs.take j) (r := D.bs[j]) (as := as) h (by wtm_at "z_arr") (by simp [sizeLine_eq]; omega) (by rw [List.take_append_getElem])
  · subst e1 e2
    rw [List.length_map, el, List.take_length] at h
    have h := h.diskI (D := D) (b := b) (as := bs) (by wtm_at "z_arr")
    exact hq _ _ _ ⟨D', as, rfl, rfl⟩ (h.only (by wtm_at "z_arr"))
theorem pure__law_tape (h : sp__law_tape K vs H Q E) : Goal (t__law_tape K (WD E)) n__law_tape vs H Q := by
  obtain ⟨a, ns, k, rfl, k0, k1, t⟩ := h
  obtain ⟨F, h, hq, -⟩ := t.open
  have hs := h.scr .here
  unfold Goal t__law_tape; wtm_at "z_start"
  have e0 : ∃ c : Int, (k < (ns.map V.int).length → atI (ns.map V.int) k = some (.int c)) ∧ (¬ k < (ns.map V.int).length → c = 0) := by
    by_cases l : k < (ns.map V.int).length
    · obtain ⟨j, rfl⟩ := Int.eq_ofNat_of_zero_le k0
      have l' : j < ns.length := by simpa using l
      exact ⟨ns[j], fun _ => atI_nat (by simp [l']), fun n => (n l).elim⟩
    · exact ⟨0, fun q => (l q).elim, fun _ => rfl⟩
  obtain ⟨c, e1, e2⟩ := e0
  rw [List.length_map] at e1
  wtm_at "z_st"
  wtm_at "z_if"
  · refine s_ixL hs (e1 (by assumption)) ?_
    wtm_at "z_go"
    refine s_pow ⟨by decide, by decide, by decide⟩ ?_
    wtm_at "z_go"
    refine hq _ _ _ ⟨_, rfl, rfl⟩ (At.tapeI h ⟨?_, by omega, by omega, by omega, by omega⟩)
    refine Int.mul_nonneg ?_ ?_ <;> split <;> omega
  · wtm_at "z_go"
    refine s_pow ⟨by decide, by decide, by decide⟩ ?_
    wtm_at "z_go"
    refine hq _ _ _ ⟨_, rfl, rfl⟩ (At.tapeI h ⟨?_, by omega, by omega, by omega, by omega⟩)
    refine Int.mul_nonneg ?_ ?_ <;> split <;> omega
end
set_option Elab.async false
set_option linter.all false
set_option maxRecDepth 100000
set_option maxHeartbeats 1000000
section
variable {K : PySem.W.Frag} {F0 : FP} {H0 H : Hp} {L L1 : List HP} {d p c : Addr} {D : Dk} {n m : Int} {r hs : List Int} {Q : VK} {E : XK}
theorem c_write {k : Nat} (nk : n = k) (h : At F0 H0 L H) (s : Arr [disk K d D, pt p (il r)] L L1) (n1 : k < D.bs.length)
    (q : D.falls = false → ∀ H', At F0 H0 (disk K d (D.wr k r) :: pt p (il r) :: L1) H' → Q .non H')
    (e : D.falls = true → ∀ H', At F0 H0 (disk K d { D with down := true } :: pt p (il r) :: L1) H' → E (.ref (c_Fallen K)) none H') : sp_Disk_write K [.ref d, .int n, .ref p] H Q E :=
  ⟨d, p, D, n, r, rfl, by omega, by omega, h.call s (fun v L' H' ⟨e1, e2, e3⟩ h => by subst nk e1 e3; exact q e2 H' h) fun c dd L' H' ⟨e1, e2, e3, e4⟩ h => by subst e1 e2 e4; exact e e3 H' h⟩
theorem pure_mark (h : sp_mark K vs H Q E) : Goal (t_mark K (WD E)) n_mark vs H Q := by
  obtain ⟨d, D, m, rfl, h0, t⟩ := h
  obtain ⟨F, h, hq, he⟩ := t.open
  unfold Goal t_mark; wtm_at "z_start"
  wtm_at "z_go"
  refine s_mdisk h (by wtm_at "z_sel") (fun _ => by wtm_at "z_no") ?_
  wtm_at "z_go"
  rw [show [V.int m] ++ List.replicate (Int.toNat 15) (V.int 0) = (m :: List.replicate 15 (0 : Int)).map V.int from rfl] at h
  refine c_write (k := 0) (r := m :: List.replicate 15 0) (D := D) rfl h (by wtm_at "z_arr") (by omega) (fun f H h => ?_) (fun f H h => ?_)
  · exact hq _ _ _ ⟨rfl, f, rfl⟩ (h.only (by wtm_at "z_arr"))
  · exact he _ _ _ _ ⟨rfl, rfl, f, rfl⟩ (h.only (by wtm_at "z_arr"))
theorem c_mark (h : At F0 H0 L H) (s : Sel (disk K d D) L L1) (n1 : 0 < D.bs.length)
    (q : D.falls = false → ∀ H', At F0 H0 (disk K d (D.wr 0 (m :: List.replicate 15 0)) :: L1) H' → Q .non H')
    (e : D.falls = true → ∀ H', At F0 H0 (disk K d { D with down := true } :: L1) H' → E (.ref (c_Fallen K)) none H') : sp_mark K [.ref d, .int m] H Q E :=
  ⟨d, D, m, rfl, n1, h.call (.cons s .nil) (fun v L' H' ⟨e1, e2, e3⟩ h => by subst e1 e3; exact q e2 H' h) fun c dd L' H' ⟨e1, e2, e3, e4⟩ h => by subst e1 e2 e4; exact e e3 H' h⟩
theorem pure_send_home (h : sp_send_home K vs H Q E) : Goal (t_send_home K (WD E)) n_send_home vs H Q := by
  obtain ⟨d, b, D, hs, rfl, ⟨h1, h2, h3, h4⟩, t⟩ := h
  obtain ⟨F, h, hq, he⟩ := t.open
  unfold Goal t_send_home; wtm_at "z_start"
  wtm_at "z_go"
  refine s_enum (xs := hs.map V.int) (by wtm_at "z_sql") ?_
  refine s_forE (xs := hs.map V.int) (fun j σ L => ∃ D1 u v, Ran D (shW D.bs 0 (hs.take j)) D1 ∧ σ = [some (.ref d), some (.ref b), u, v] ∧ L = [disk K d D1, pt b (il hs)]) h ⟨D, none, none, .nil, rfl, rfl⟩
    (fun j σ L H ⟨D1, u, v, _, _, e⟩ h => by subst e; exact sqL_at h (by wtm_at "z_sel")) (fun j x p σ L H ex ⟨D1, u, v, R, e1, e2⟩ h => ?_) (fun σ L H ⟨D1, u, v, R, e1, e2⟩ h => ?_)
  · subst e1 e2
    obtain ⟨y, ey, rfl⟩ : ∃ y, hs[j]? = some y ∧ .int y = x := by simpa using ex
    obtain ⟨jl, ey2⟩ := List.getElem?_eq_some_iff.mp ey
    have hy := h2 y (by rw [← ey2]; exact List.getElem_mem jl)
    have hl := R.len
    have hb : D1.bs[3 + j]? = D.bs[3 + j]? := R.ne fun p q => by
      obtain ⟨z, hz, e⟩ := shW_mem p q
      have := h2 z (List.mem_of_mem_take hz)
      omega
    have h6 : 3 + j < D.bs.length := by omega
    wtm_at "z_in"
    refine s_mdisk h (by wtm_at "z_sel") (fun _ => by wtm_at "z_no") ?_
    wtm_at "z_in"
    refine s_mdisk h (by wtm_at "z_sel") (fun _ => by wtm_at "z_no") ?_
    wtm_at "z_in"
    refine c_read (D := D1) (r := D.bs[3 + j]) h (by wtm_at "z_sel") (by omega) (by rw [show (3 + (j : Int)).toNat = 3 + j by omega, hb]; simp [h6]) (by rw [R.up]; exact h4) fun p H h => ?_
    wtm_at "z_in"
    refine c_write (k := y.toNat) (r := D.bs[3 + j]) (D := D1) (by omega) h (by wtm_at "z_arr") (by omega) (fun f H h => ?_) (fun f H h => ?_)
    · refine ⟨_, ⟨_, _, _, ?_, rfl, rfl⟩, h.only (by wtm_at "z_arr")⟩
      have := R.wr (n := hs[j].toNat) (r := D.bs.getD (3 + j) []) f
      rw [← shW_take jl] at this
      simpa [ey2, List.getD, h6] using this
    · obtain ⟨vs, e⟩ := shW_cut (bs := D.bs) jl
      have := R.stop (n := hs[j].toNat) (r := D.bs.getD (3 + j) []) (vs := vs) f
      rw [← e] at this
      refine he _ _ _ _ ⟨rfl, rfl, by rw [this], rfl⟩ ?_
      rw [this]
      exact h.only (by wtm_at "z_arr")
  · subst e1 e2
    rw [List.length_map, List.take_length] at R
    refine hq _ _ _ ⟨rfl, by rw [R.ok], ?_⟩ h
    rw [R.ok]
theorem c_send_home (h : At F0 H0 L H) (s : Arr [disk K d D, pt p (il hs)] L L1) (o : okHomes D hs)
    (q : ∀ D1, Ran D (shW D.bs 0 hs) D1 → ∀ H', At F0 H0 (disk K d D1 :: pt p (il hs) :: L1) H' → Q .non H')
    (e : ∀ D1, D.run (shW D.bs 0 hs) = (false, D1) → ∀ H', At F0 H0 (disk K d D1 :: pt p (il hs) :: L1) H' → E (.ref (c_Fallen K)) none H') : sp_send_home K [.ref d, .ref p] H Q E :=
  ⟨d, p, D, hs, rfl, o, h.call s (fun v L' H' ⟨e1, e2, e3⟩ h => by subst e1 e3; exact q _ (.of e2) H' h) fun c dd L' H' ⟨e1, e2, e3, e4⟩ h => by subst e1 e2 e4; exact e _ (Prod.ext e3 rfl) H' h⟩
end
set_option Elab.async false
set_option linter.all false
set_option maxRecDepth 100000
set_option maxHeartbeats 1000000
section
variable {K : PySem.W.Frag} {F0 : FP} {H0 H : Hp} {L L1 : List HP} {d p c : Addr} {D : Dk} {n m : Int} {r hs : List Int} {Q : VK} {E : XK} {vs : List V}
theorem pure_commit (h : sp_commit K vs H Q E) : Goal (t_commit K (WD E)) n_commit vs H Q := by
  obtain ⟨d, c, D, m, as, rfl, ⟨ml, m0, mn, mk, h3, h4⟩, t⟩ := h
  obtain ⟨F, h, hq, he⟩ := t.open
  unfold Goal t_commit; wtm_at "z_start"
  wtm_at "z_st"
  refine s_sortedC h (by wtm_at "z_sel") (by omega) fun hs b H hh h => ?_
  have hl : hs.length = m.length := by simpa using hh.1.length_eq
  have hm : ∀ x ∈ hs, x ∈ m.map (·.1) := fun x q => hh.1.mem_iff.mp q
  have hk : ∀ x ∈ hs, 28 ≤ x ∧ x < D.bs.length := fun x q => by
    obtain ⟨y, hy, rfl⟩ := List.mem_map.mp (hm x q)
    exact mk y hy
  wtm_at "z_st"
  refine s_enum (xs := hs.map V.int) (by wtm_at "z_sql") ?_
  refine s_forE (xs := hs.map V.int) (fun j σ L => ∃ D1 u v, Ran D (jW m 0 (hs.take j)) D1 ∧ σ = [some (.ref d), some (.ref c), some (.ref b), u, v, none] ∧ L = [disk K d D1, pt b (il hs), chgA c m as]) (h.only (by wtm_at "z_arr")) ⟨D, none, none, .nil, rfl, rfl⟩
    (fun j σ L H ⟨D1, u, v, _, _, e⟩ h => by subst e; exact sqL_at h (by wtm_at "z_sel")) (fun j x p σ L H ex ⟨D1, u, v, R, e1, e2⟩ h => ?_) (fun σ L H ⟨D1, u, v, R, e1, e2⟩ h => ?_)
  · subst e1 e2
    obtain ⟨y, ey, rfl⟩ : ∃ y, hs[j]? = some y ∧ .int y = x := by simpa using ex
    obtain ⟨jl, ey2⟩ := List.getElem?_eq_some_iff.mp ey
    have hy : y ∈ hs := by rw [← ey2]; exact List.getElem_mem jl
    have hl1 := R.len
    wtm_at "z_in"
    refine s_mdisk h (by wtm_at "z_sel") (fun _ => by wtm_at "z_no") ?_
    wtm_at "z_in"
    obtain ⟨al, h⟩ := h.chgAE (by wtm_at "z_sel")
    obtain ⟨i, a, i1, i2, i3⟩ := look_at al (hm y hy)
    refine s_getI h (by wtm_at "z_sel") i2 ?_
    have h := h.rowsPop (by wtm_at "z_sel") i1 i3
    refine c_write (k := 3 + j) (r := look m y) (D := D1) (by omega) h (by wtm_at "z_arr") (by omega) (fun f H h => ?_) (fun f H h => ?_)
    · have h := h.rowsBack (rs := m.map (·.2)) (by wtm_at "z_arr") i1 i3 (by simpa using al)
      have h := h.chgAI (m := m) (as := as) (by wtm_at "z_arr")
      refine ⟨_, ⟨_, _, _, ?_, rfl, rfl⟩, h.only (by wtm_at "z_arr")⟩
      have := R.wr (n := 3 + j) (r := look m hs[j]) f
      rw [← (jW_cut jl).1] at this
      simpa [ey2] using this
    · have h := h.rowsBack (rs := m.map (·.2)) (by wtm_at "z_arr") i1 i3 (by simpa using al)
      have h := h.chgAI (m := m) (as := as) (by wtm_at "z_arr")
      obtain ⟨vs, e, -⟩ := (jW_cut (m := m) jl).2
      have := R.stop (n := 3 + j) (r := look m hs[j]) (vs := vs ++ ([(1, (hs ++ List.replicate 32 0).take 16), (2, ((hs ++ List.replicate 32 0).drop 16).take 16), (0, (hs.length : Int) :: List.replicate 15 0)] ++ (hW m hs ++ [(0, 0 :: List.replicate 15 0)]))) f
      rw [← List.cons_append, ← List.append_assoc, ← e] at this
      refine he _ _ _ _ ⟨rfl, rfl, hs, hh, ?_, rfl⟩ ?_
      · rw [cmW, this]
      · rw [cmW, this]
        exact h.only (by wtm_at "z_arr")
  · subst e1 e2
    rw [List.length_map, List.take_of_length_le (Nat.le_refl _)] at R
    have hl1 := R.len
    wtm_at "z_st"
    rw [show hs.map V.int ++ List.replicate (Int.toNat 32) (V.int 0) = (hs ++ List.replicate 32 0).map V.int by simp] at h
    wtm_at "z_st"
    refine s_mdisk h (by wtm_at "z_sel") (fun _ => by wtm_at "z_no") ?_
    wtm_at "z_in"
    have e16 : cutV ((hs ++ List.replicate 32 0).map V.int) none (some 16) = ((hs ++ List.replicate 32 0).take 16).map V.int := by rw [List.map_take]; exact cut_to
    rw [e16] at h
    refine c_write (k := 1) (r := (hs ++ List.replicate 32 0).take 16) (D := D1) rfl h (by wtm_at "z_arr") (by omega) (fun f H h => ?_) (fun f H h => ?_)
    rotate_left
    · have := R.stop (n := 1) (r := (hs ++ List.replicate 32 0).take 16) (vs := [(2, ((hs ++ List.replicate 32 0).drop 16).take 16), (0, (hs.length : Int) :: List.replicate 15 0)] ++ (hW m hs ++ [(0, 0 :: List.replicate 15 0)])) f
      refine he _ _ _ _ ⟨rfl, rfl, hs, hh, ?_, rfl⟩ ?_
      · rw [cmW]; exact congrArg Prod.fst this
      · rw [show (D.run (cmW m hs)).2 = _ from congrArg Prod.snd this]
        exact h.only (by wtm_at "z_arr")
    have R := R.wr (n := 1) (r := (hs ++ List.replicate 32 0).take 16) f
    clear f
    have hl1 := R.len
    wtm_at "z_st"
    refine s_mdisk h (by wtm_at "z_sel") (fun _ => by wtm_at "z_no") ?_
    wtm_at "z_in"
    have e32 : cutV ((hs ++ List.replicate 32 0).map V.int) (some 16) (some 32) = (((hs ++ List.replicate 32 0).drop 16).take 16).map V.int := by rw [List.map_take, List.map_drop]; exact cut_ft
    rw [e32] at h
    refine c_write (k := 2) (r := ((hs ++ List.replicate 32 0).drop 16).take 16) rfl h (by wtm_at "z_arr") (by omega) (fun f H h => ?_) (fun f H h => ?_)
    rotate_left
    · have := R.stop (n := 2) (r := ((hs ++ List.replicate 32 0).drop 16).take 16) (vs := [(0, (hs.length : Int) :: List.replicate 15 0)] ++ (hW m hs ++ [(0, 0 :: List.replicate 15 0)])) f
      rw [List.append_assoc] at this
      refine he _ _ _ _ ⟨rfl, rfl, hs, hh, ?_, rfl⟩ ?_
      · rw [cmW]; exact congrArg Prod.fst this
      · rw [show (D.run (cmW m hs)).2 = _ from congrArg Prod.snd this]
        exact h.only (by wtm_at "z_arr")
    have R := R.wr (n := 2) (r := ((hs ++ List.replicate 32 0).drop 16).take 16) f
    clear f
    have hl1 := R.len
    wtm_at "z_st"
    refine c_mark (m := (hs.length : Int)) h (by wtm_at "z_sel") (by omega) (fun f H h => ?_) (fun f H h => ?_)
    rotate_left
    · have := R.stop (n := 0) (r := (hs.length : Int) :: List.replicate 15 0) (vs := (hW m hs ++ [(0, 0 :: List.replicate 15 0)])) f
      rw [List.append_assoc, List.append_assoc] at this
      refine he _ _ _ _ ⟨rfl, rfl, hs, hh, ?_, rfl⟩ ?_
      · rw [cmW]; exact congrArg Prod.fst this
      · rw [show (D.run (cmW m hs)).2 = _ from congrArg Prod.snd this]
        exact h.only (by wtm_at "z_arr")
    have R1 := R
    have R := R.wr (n := 0) (r := (hs.length : Int) :: List.replicate 15 0) f
    clear f R1
    have hl1 := R.len
    have ld : ∀ j (e : j < hs.length), ∀ {D4 : Dk}, Ran D (jW m 0 hs ++ [(1, (hs ++ List.replicate 32 0).take 16)] ++ [(2, ((hs ++ List.replicate 32 0).drop 16).take 16)] ++ [(0, (hs.length : Int) :: List.replicate 15 0)]) D4 → D4.bs[3 + (0 + j)]? = some (look m hs[j]) := by
      intro j e D4 R
      rw [List.append_assoc, List.append_assoc] at R
      obtain ⟨D2, R1, R2⟩ := R.cut
      rw [Nat.zero_add, R2.ne (fun p q => by
        have : p.1 ≤ 2 := by
          simp at q
          rcases q with rfl | rfl | rfl <;> simp
        omega)]
      exact R1.log (by omega) e
    have cmE : cmW m hs = (jW m 0 hs ++ [(1, (hs ++ List.replicate 32 0).take 16)] ++ [(2, ((hs ++ List.replicate 32 0).drop 16).take 16)] ++ [(0, (hs.length : Int) :: List.replicate 15 0)]) ++ hW m hs ++ [(0, 0 :: List.replicate 15 0)] := by simp [cmW]
    have hW4 := shW_of fun j e => ld j e R
    have up := R.up
    have hk4 := fun (D4 : Dk) (e : D4.bs.length = D.bs.length) (u : D4.down = D.down) => (show okHomes D4 hs from ⟨by omega, fun x q => by rw [e]; exact hk x q, by omega, by rw [u]; exact h4⟩)
    wtm_at "z_st"
    refine c_send_home h (by wtm_at "z_arr") (hk4 _ hl1 up) (fun D5 R5 H h => ?_) (fun D5 e5 H h => ?_)
    rotate_left
    · rw [hW4] at e5
      have : D.run (cmW m hs) = (false, D5) := by
        have e6 := R.ok
        simp only [List.append_assoc] at e6
        rw [cmW, ← List.append_assoc, run_app]
        simp only [List.append_assoc, List.cons_append, List.nil_append] at e6 ⊢
        rw [e6]
        simp only [if_true]
        rw [run_app, e5]
        simp
      refine he _ _ _ _ ⟨rfl, rfl, hs, hh, by rw [this], rfl⟩ ?_
      rw [this]
      exact h.only (by wtm_at "z_arr")
    rw [hW4] at R5
    have R := R.more R5
    have hl1 := R.len
    wtm_at "z_in"
    refine c_mark (m := 0) h (by wtm_at "z_sel") (by omega) (fun f H h => ?_) (fun f H h => ?_)
    · have R := R.wr (n := 0) (r := 0 :: List.replicate 15 0) f
      rw [← cmE] at R
      refine hq _ _ _ ⟨rfl, hs, hh, by rw [R.ok], rfl⟩ ?_
      rw [R.ok]
      exact h.only (by wtm_at "z_arr")
    · have := R.stop (n := 0) (r := 0 :: List.replicate 15 0) (vs := []) f
      rw [← cmE] at this
      refine he _ _ _ _ ⟨rfl, rfl, hs, hh, by rw [this], rfl⟩ ?_
      rw [this]
      exact h.only (by wtm_at "z_arr")
theorem c_commit {m : List (Int × List Int)} {as : List Addr} (h : At F0 H0 L H) (s : Arr [disk K d D, chgA c m as] L L1) (o : okChg D m)
    (q : ∀ hs D1, isHomes m hs → Ran D (cmW m hs) D1 → ∀ H', At F0 H0 (disk K d D1 :: chgA c m as :: L1) H' → Q .non H')
    (e : ∀ hs D1, isHomes m hs → D.run (cmW m hs) = (false, D1) → ∀ H', At F0 H0 (disk K d D1 :: chgA c m as :: L1) H' → E (.ref (c_Fallen K)) none H') : sp_commit K [.ref d, .ref c] H Q E :=
  ⟨d, c, D, m, as, rfl, o, h.call s (fun v L' H' ⟨e1, hs, e2, e3, e4⟩ h => by subst e1 e4; exact q hs _ e2 (.of e3) H' h) fun c dd L' H' ⟨e1, e2, hs, e3, e4, e5⟩ h => by subst e1 e2 e5; exact e hs _ e3 (Prod.ext e4 rfl) H' h⟩
end
set_option Elab.async false
set_option linter.all false
set_option maxRecDepth 100000
set_option maxHeartbeats 1000000
section
variable {K : PySem.W.Frag} {F0 : FP} {H0 H : Hp} {L L1 : List HP} {d p c : Addr} {D : Dk} {n m : Int} {r hs : List Int} {Q : VK} {E : XK} {vs : List V}
theorem pure_recover (h : sp_recover K vs H Q E) : Goal (t_recover K (WD E)) n_recover vs H Q := by
  obtain ⟨d, D, k, tl, hs, rfl, dn, b0, kk, t⟩ := h
  obtain ⟨F, h, hq, -⟩ := t.open
  have l0 : 0 < D.bs.length := (List.getElem?_eq_some_iff.mp b0).1
  unfold Goal t_recover; wtm_at "z_start"
  wtm_at "z_st"
  refine s_mdisk h (by wtm_at "z_sel") (fun _ => by wtm_at "z_no") ?_
  wtm_at "z_in"
  refine c_read (D := D) (r := k :: tl) h (by wtm_at "z_sel") (by decide) b0 dn fun p H h => ?_
  simp only [il, List.map_cons] at h
  wtm_at "z_in"
  wtm_at "z_st"
  wtm_at "z_if"
  · obtain ⟨lf, o, kl, r1, r2, e1, e2, l1, l2, e3⟩ := kk (by assumption)
    wtm_at "z_st"
    refine s_mdisk h (by wtm_at "z_sel") (fun _ => by wtm_at "z_no") ?_
    wtm_at "z_in"
    refine c_read (D := D) (r := r1) h (by wtm_at "z_sel") (by decide) e1 dn fun p1 H h => ?_
    wtm_at "z_in"
    refine s_mdisk h (by wtm_at "z_sel") (fun _ => by wtm_at "z_no") ?_
    wtm_at "z_in"
    refine c_read (D := D) (r := r2) h (by wtm_at "z_sel") (by decide) e2 dn fun p2 H h => ?_
    wtm_at "z_in"
    rw [← List.map_append] at h
    wtm_at "z_st"
    have e4 : cutV ((r1 ++ r2).map V.int) none (some k) = hs.map V.int := by
      rw [← e3, List.map_take, ← cut_to]
      congr 2
      omega
    rw [e4] at h
    refine c_send_home h (by wtm_at "z_arr") o (fun D5 R5 H h => ?_) (fun D5 e5 H h => ?_)
    rotate_left
    · have := (run_calm (ws := shW D.bs 0 hs) lf dn).1
      rw [e5] at this
      cases this
    have lf5 := R5.calm lf dn
    have dn5 := R5.up
    have len5 := R5.len
    wtm_at "z_in"
    refine c_mark (m := 0) h (by wtm_at "z_sel") (by omega) (fun f H h => ?_) (fun f H h => ?_)
    · wtm_at "z_go"
      have R := R5.wr (n := 0) (r := 0 :: List.replicate 15 0) f
      refine hq _ _ _ ⟨rfl, rfl⟩ ?_
      rw [recD, if_neg (by omega), R.ok]
      exact h.only (by wtm_at "z_arr")
    · simp [Dk.falls, lf5, dn5, dn] at f
  · wtm_at "z_go"
    refine hq _ _ _ ⟨rfl, rfl⟩ ?_
    rw [recD, if_pos (by omega)]
    exact h.only (by wtm_at "z_arr")
theorem c_recover {k : Int} {tl : List Int} (h : At F0 H0 L H) (s : Sel (disk K d D) L L1) (dn : D.down = false) (b0 : D.bs[0]? = some (k :: tl))
    (kk : 0 < k → D.left = none ∧ okHomes D hs ∧ k.toNat = hs.length ∧ ∃ r1 r2, D.bs[1]? = some r1 ∧ D.bs[2]? = some r2 ∧ r1.length = 16 ∧ r2.length = 16 ∧ (r1 ++ r2).take k.toNat = hs)
    (q : ∀ H', At F0 H0 (disk K d (recD D k hs) :: L1) H' → Q (.int k) H') : sp_recover K [.ref d] H Q E :=
  ⟨d, D, k, tl, hs, rfl, dn, b0, kk, h.call (.cons s .nil) (fun v L' H' ⟨e1, e2⟩ h => by subst e1 e2; exact q H' h) fun _ _ _ _ z => z.elim⟩
/-- nothing to recover -/
theorem c_recover0 {tl : List Int} (h : At F0 H0 L H) (s : Sel (disk K d D) L L1) (dn : D.down = false) (b0 : D.bs[0]? = some (0 :: tl))
    (q : ∀ H', At F0 H0 (disk K d D :: L1) H' → Q (.int 0) H') : sp_recover K [.ref d] H Q E :=
  c_recover (hs := []) h s dn b0 (fun z => by omega) q
theorem c_writes (h : At F0 H0 L H) (s : Sel (disk K d D) L L1) (q : ∀ H', At F0 H0 (disk K d D :: L1) H' → Q (.int D.done) H') : sp_Disk_writes K [.ref d] H Q E :=
  ⟨d, D, rfl, h.call (.cons s .nil) (fun v L' H' ⟨e1, e2⟩ h => by subst e1 e2; exact q H' h) fun _ _ _ _ z => z.elim⟩
theorem c_fall (h : At F0 H0 L H) (s : Sel (disk K d D) L L1) (q : ∀ H', At F0 H0 (disk K d { D with left := some n } :: L1) H' → Q .non H') : sp_Disk_fall K [.ref d, .int n] H Q E :=
  ⟨d, D, n, rfl, h.call (.cons s .nil) (fun v L' H' ⟨e1, e2⟩ h => by subst e1 e2; exact q H' h) fun _ _ _ _ z => z.elim⟩
theorem c_rise (h : At F0 H0 L H) (s : Sel (disk K d D) L L1) (q : ∀ H', At F0 H0 (disk K d { D with left := none, down := false } :: L1) H' → Q .non H') : sp_Disk_rise K [.ref d] H Q E :=
  ⟨d, D, rfl, h.call (.cons s .nil) (fun v L' H' ⟨e1, e2⟩ h => by subst e1 e2; exact q H' h) fun _ _ _ _ z => z.elim⟩
theorem c_image (h : At F0 H0 L H) (s : Sel (disk K d D) L L1) (l : D.bs.length ≤ 1000) (q : ∀ p as H', At F0 H0 (pt p (.lst (as.map V.ref)) :: rows as D.bs :: disk K d D :: L1) H' → Q (.ref p) H') : sp_Disk_image K [.ref d] H Q E :=
  ⟨d, D, rfl, l, h.call (.cons s .nil) (fun v L' H' ⟨p, as, e1, e2⟩ h => by subst e1 e2; exact q p as H' h) fun _ _ _ _ z => z.elim⟩
theorem c_tape {a : Addr} {ns : List Int} {k : Int} (h : At F0 H0 L H) (s : Sel (S.scr K a ns) L L1) (k0 : 0 ≤ k) (k1 : k < 2 ^ 20) (q : ∀ p H', At F0 H0 (tape p 0 :: S.scr K a ns :: L1) H' → Q (.ref p) H') : sp__law_tape K [.ref a, .int k] H Q E :=
  ⟨a, ns, k, rfl, k0, k1, h.call (.cons s .nil) (fun v L' H' ⟨p, e1, e2⟩ h => by subst e1 e2; exact q p H' h) fun _ _ _ _ z => z.elim⟩
theorem c_init {x : Addr} (h : At F0 H0 L H) (s : Sel (obj (c_Disk K) x []) L L1) (k0 : 0 ≤ n) (k1 : n ≤ 1000) (q : ∀ H', At F0 H0 (disk K x ⟨List.replicate n.toNat (List.replicate 16 0), 0, none, false⟩ :: L1) H' → Q .non H') : sp_Disk___init__ K [.ref x, .int n] H Q E :=
  ⟨x, n, rfl, k0, k1, h.call (.cons s .nil) (fun v L' H' ⟨e1, e2⟩ h => by subst e1 e2; exact q H' h) fun _ _ _ _ z => z.elim⟩
end
set_option Elab.async false
set_option linter.all false
set_option maxRecDepth 100000
set_option maxHeartbeats 1000000
theorem putC : ∀ {m : List (Int × List Int)} {as : List Addr} {y : Int} {p : Addr} {r : List Int}, as.length = m.length → (m.map (·.1)).Nodup →
    ∃ m' as', putK (kvC m as) (Sum.inl y : Key) (.ref p) = kvC m' as' ∧ as'.length = m'.length ∧ m'.length ≤ m.length + 1 ∧ 0 < m'.length ∧ (m'.map (·.1)).Nodup ∧ (∀ q ∈ m', q ∈ m ∨ q = (y, r)) ∧
      ∀ {F0 : FP} {H0 H : Hp} {L : List HP}, At F0 H0 (pt p (il r) :: rows as (m.map (·.2)) :: L) H → At F0 H0 (rows as' (m'.map (·.2)) :: L) H := by
  intro m as y p r l nd
  by_cases h : y ∈ m.map (·.1)
  · obtain ⟨i, il, ie⟩ := List.mem_iff_getElem.mp h
    have il' : i < m.length := by simpa using il
    refine ⟨m.set i (y, r), as.set i p, ?_, by simpa using l, by simp, by simp; omega, ?_, ?_, ?_⟩
    · have a1 : ((kvC m as).any fun kv => decide (kv.1 = (Sum.inl y : Key))) = true := by
        rw [List.any_eq_true]
        refine ⟨(kvC m as)[i]'(by simp [kvC, l]; exact il'), List.getElem_mem _, ?_⟩
        simp [kvC] at ie ⊢
        exact ie
      rw [putK, if_pos a1]
      apply List.ext_getElem
      · simp [kvC]
      · intro j j1 j2
        have jm : j < m.length := by simp [kvC, l] at j1; omega
        have ja : j < as.length := by omega
        simp only [kvC, List.getElem_map, List.getElem_zipWith, List.getElem_set] at ie ⊢
        by_cases e : i = j
        · subst e
          simp [ie]
        · have : ¬ m[j].1 = y := fun z => e ((List.getElem_inj (h₀ := il) (h₁ := by simpa using jm) nd).mp (by rw [List.getElem_map, List.getElem_map, ie, z]))
          simp [e, this]
    · rw [List.map_set]
      rw [show (m.map (·.1)).set i (y, r).1 = m.map (·.1) by
        apply List.ext_getElem (by simp)
        intro j j1 j2
        rw [List.getElem_set]
        split
        · next e => subst e; exact ie.symm
        · rfl]
      exact nd
    · intro q hq
      exact List.mem_or_eq_of_mem_set hq
    · intro F0 H0 H L h
      rw [List.map_set]
      exact h.rowsPut (by simpa using il')
  · refine ⟨m ++ [(y, r)], as ++ [p], ?_, by simpa using l, by simp, by simp, ?_, ?_, ?_⟩
    · have a1 : ¬ ((kvC m as).any fun kv => decide (kv.1 = (Sum.inl y : Key))) = true := by
        rw [List.any_eq_true]
        rintro ⟨x, hx, e⟩
        have e : x.1 = Sum.inl y := by simpa using e
        have : x.1 ∈ (kvC m as).map (·.1) := List.mem_map.mpr ⟨x, hx, rfl⟩
        rw [kvC_keys l, e] at this
        simp at this
        exact h (by simpa using this)
      rw [putK, if_neg a1, kvC, kvC, List.zipWith_append l.symm]
      rfl
    · rw [List.map_append, List.nodup_append]
      refine ⟨nd, by simp, ?_⟩
      intro a ha b hb
      simp at hb
      subst hb
      rintro rfl
      exact h ha
    · intro q hq
      simpa using hq
    · intro F0 H0 H L h
      rw [List.map_append]
      exact h.rowsSnoc
theorem mergeC : ∀ {kvs acc : List (Key × V)}, ((acc ++ kvs).map (·.1)).Nodup → mergeK acc kvs = acc ++ kvs
  | [], acc, _ => by simp [mergeK]
  | (k, v) :: kvs, acc, h => by
    have a1 : ¬ (acc.any fun kv => decide (kv.1 = k)) = true := by
      rw [List.any_eq_true]
      rintro ⟨x, hx, e⟩
      have e : x.1 = k := by simpa using e
      rw [List.map_append, List.nodup_append] at h
      exact h.2.2 x.1 (List.mem_map.mpr ⟨x, hx, rfl⟩) k (by simp) e
    have := mergeC (kvs := kvs) (acc := acc ++ [(k, v)]) (by simpa using h)
    show mergeK (putK acc k v) kvs = _
    rw [putK, if_neg a1, this]
    simp
theorem valV_get : ∀ {kvs : List (Key × V)} {k : Key} {v : V} {j : Nat}, (kvs.map (·.1)).Nodup → kvs[j]? = some (k, v) → valV kvs k = some v
  | p :: kvs, k, v, 0, _, h => by
    obtain rfl : p = (k, v) := by simpa using h
    exact valV_pos rfl
  | p :: kvs, k, v, j + 1, nd, h => by
    have nd := List.nodup_cons.mp nd
    rw [List.getElem?_cons_succ] at h
    rw [valV_neg]
    · exact valV_get nd.2 h
    · rintro rfl
      exact nd.1 (List.mem_map.mpr ⟨_, List.mem_of_getElem? h, rfl⟩)
  | [], _, _, _, _, h => by simp at h
def tupsP (ts : List Addr) (kvs : List (Key × V)) : HP := ⟨fun _ H => PySem.Paired (fun p (kv : Key × V) => H p = some (.tup [kV kv.1, kv.2])) ts kvs, fun {F H H'} h k => by
  induction h with
  | nil => exact .nil
  | cons h1 _ ih => exact .cons (k _ _ (.inr rfl) h1) ih⟩
theorem pairedT {K : PySem.W.Frag} {H : Hp} {ts : List Addr} {kvs : List (Key × V)} (e : PySem.Paired (fun p (kv : Key × V) => H p = some (.tup [kV kv.1, kv.2])) ts kvs) : PySem.Paired (fun p (kv : Key × V) => SqT K H p [kV kv.1, kv.2]) ts kvs := by
  induction e with
  | nil => exact .nil
  | cons h1 _ ih => exact .cons (.of h1) ih
section
variable {K : PySem.W.Frag} {F0 : FP} {H0 H : Hp} {L L1 : List HP} {t a : Addr} {ts : List Addr} {kvs : List (Key × V)} {k : Key} {v : V}
theorem At.tupsNil (h : At F0 H0 L H) : At F0 H0 (tupsP [] [] :: L) H := by
  obtain ⟨F, h1, h2, h3, h4⟩ := h.ex
  exact ⟨F, ⟨fun _ => False, F, fun _ q => q.elim, fun _ q => q, fun _ q _ => q, .nil, h1⟩, h2, h3, h4⟩
theorem At.tupsSnoc (h : At F0 H0 L H) (s : Sel (tp t [kV k, v]) L L1) {L2 : List HP} (s2 : Sel (tupsP ts kvs) L1 L2) : At F0 H0 (tupsP (ts ++ [t]) (kvs ++ [(k, v)]) :: L2) H := by
  have e := h.getX s
  have h := ((h.sel s).drop).sel s2
  exact h.conv fun F q => PySem.Paired.snoc q e
theorem At.tupsSnocI {y : Int} (h : At F0 H0 L H) (s : Sel (tp t [.int y, v]) L L1) {L2 : List HP} (s2 : Sel (tupsP ts kvs) L1 L2) : At F0 H0 (tupsP (ts ++ [t]) (kvs ++ [((Sum.inl y : Key), v)]) :: L2) H :=
  h.tupsSnoc (k := (Sum.inl y : Key)) s s2
theorem s_dictP {Q : VK} (h : At F0 H0 L H) (s : Sel (pt a (.lst (ts.map V.ref))) L L1) {L2 : List HP} (s2 : Sel (tupsP ts kvs) L L2) (nd : (kvs.map (·.1)).Nodup) (q : ∀ p H', At F0 H0 (pt p (.dK kvs) :: L) H' → Q (.ref p) H') : rDictP K [.ref a] H Q := by
  have e := h.know s2 fun _ k => k
  refine ⟨a, ts, kvs, rfl, .of (h.get s), ?_, fun p hp => ?_⟩
  · exact pairedT e
  · rw [mergeC (by simpa using nd)]
    exact q p _ (h.new hp)
end
section
variable {K : PySem.W.Frag} {F0 : FP} {H0 H : Hp} {L L1 : List HP} {d p c : Addr} {D : Dk} {n m : Int} {r hs : List Int} {Q : VK} {E : XK} {vs : List V}
theorem pure__law_block (h : sp__law_block K vs H Q E) : Goal (t__law_block K (WD E)) n__law_block vs H Q := by
  obtain ⟨a, n, rfl, n1, t⟩ := h
  obtain ⟨F, h, hq, -⟩ := t.open
  unfold Goal t__law_block; wtm_at "z_start"
  wtm_at "z_st"
  refine c_draw h (by wtm_at "z_sel") (by decide) (by decide) (by omega) fun r H r0 r1 h => ?_
  wtm_at "z_in"
  wtm_at "z_if"
  · refine c_draw h (by wtm_at "z_sel") (by decide) (by decide) (by omega) fun r H r0 r1 h => ?_
    wtm_at "z_in"
    have h := h.tapeUp (m := n + 17) (by wtm_at "z_sel") (by omega)
    rw [show List.replicate (Int.toNat 16) (V.int r) = (List.replicate 16 r).map V.int by simp] at h
    exact hq _ _ _ ⟨_, List.replicate 16 r, rfl, by simp, rfl⟩ (h.only (by wtm_at "z_arr"))
  · wtm_at "z_go"
    refine s_rng1 (by decide) (by decide) ?_
    refine s_lcR (fun j acc L => ∃ r : List Int, acc = r.map V.int ∧ r.length = j ∧ L = [tape a (n + 1 + j)]) h ⟨[], rfl, rfl, rfl⟩ (fun j acc L D H j1 ⟨r, e1, e2, e3⟩ h => ?_) (fun acc L D H ⟨r, e1, e2, e3⟩ h => ?_)
    · subst e1 e3
      have j2 : j < 16 := j1
      wtm_at "z_in"
      refine c_draw h (by wtm_at "z_sel") (by decide) (by decide) (by omega) fun x H r0 r1 h => ?_
      have h : At F _ [tape a (n + 1 + (j + 1)), pt D (.lst (r.map V.int))] H := h
      exact s_acc h (.there .here) (by simp [sizeLine_eq]; omega) ⟨r ++ [x], by simp, by simp [e2], rfl⟩
    · subst e1 e3
      have h := h.tapeUp (m := n + 17) (by wtm_at "z_sel") (by simp)
      exact hq _ _ _ ⟨_, r, rfl, e2, rfl⟩ (h.only (by wtm_at "z_arr"))
theorem c_block {a : Addr} {n : Nat} (h : At F0 H0 L H) (s : Sel (tape a n) L L1) (n1 : n + 17 < 2 ^ 40) (q : ∀ p r H', r.length = 16 → At F0 H0 (pt p (il r) :: tape a (n + 17) :: L1) H' → Q (.ref p) H') : sp__law_block K [.ref a] H Q E :=
  ⟨a, n, rfl, n1, h.call (.cons s .nil) (fun v L' H' ⟨p, r, e1, e2, e3⟩ h => by subst e1 e3; exact q p r H' e2 h) fun _ _ _ _ z => z.elim⟩
theorem pure__law_changes (h : sp__law_changes K vs H Q E) : Goal (t__law_changes K (WD E)) n__law_changes vs H Q := by
  obtain ⟨a, n, many, rfl, n1, m1, m2, t⟩ := h
  obtain ⟨F, h, hq, -⟩ := t.open
  unfold Goal t__law_changes; wtm_at "z_start"
  wtm_at "z_st"
  rename_i c _
  wtm_at "z_st"
  refine c_draw h (by wtm_at "z_sel") (by decide) (by decide) (by omega) fun x H x0 x1 h => ?_
  wtm_at "z_in"
  refine s_rng1 (by omega) (by omega) ?_
  refine s_forR (fun j σ L => ∃ u v m as, σ = [some (.ref a), some (.int many), some (.ref c), u, v] ∧ as.length = m.length ∧ m.length ≤ j ∧ (0 < j → 0 < m.length) ∧ (m.map (·.1)).Nodup ∧ (∀ q ∈ m, 28 ≤ q.1 ∧ q.1 < many ∧ q.2.length = 16) ∧ L = [pt c (.dK (kvC m as)), rows as (m.map (·.2)), tape a (n + 1 + 18 * j)])
    (show At F _ [pt c (.dK (kvC [] [])), rows [] (([] : List (Int × List Int)).map (·.2)), tape a (n + 1 + 18 * 0)] H from h.rowsNil.only (M := [pt c (.dK []), rows [] [], tape a (n + 1)]) (by wtm_at "z_arr")) ⟨none, none, [], [], rfl, rfl, Nat.le_refl _, id, .nil, by simp, rfl⟩ (fun j σ L H j1 ⟨u, v, m, as, e1, al, ml, m0, nd, mb, e2⟩ h => ?_) (fun σ L H ⟨u, v, m, as, e1, al, ml, m0, nd, mb, e2⟩ h => ?_)
  · subst e1 e2
    have j2 : j < 24 := by omega
    wtm_at "z_in"
    refine c_block h (by wtm_at "z_sel") (by omega) fun p r H rl h => ?_
    wtm_at "z_in"
    refine c_draw h (by wtm_at "z_sel") (by omega) (by omega) (by omega) fun y H y0 y1 h => ?_
    wtm_at "z_in"
    refine s_putI h (by wtm_at "z_sel") (by simp [kvC, sizeLine_eq]; omega) fun H h => ?_
    obtain ⟨m', as', e, l1, l2, l3, l4, l5, k⟩ := putC (y := 28 + y) (p := p) (r := r) al nd
    rw [e] at h
    have h := k (h.arr (M := [pt p (il r), rows as (m.map (·.2))]) (by wtm_at "z_arr"))
    have h : At F _ [rows as' (m'.map (·.2)), pt c (.dK (kvC m' as')), tape a (n + 1 + 18 * (j + 1))] H := h
    refine ⟨_, ⟨_, _, m', as', rfl, l1, by omega, fun _ => l3, l4, fun q hq => ?_, rfl⟩, h.only (by wtm_at "z_arr")⟩
    rcases l5 q hq with z | rfl
    · exact mb q z
    · exact ⟨by simp; omega, by simp; omega, rl⟩
  · subst e1 e2
    have m24 : m.length ≤ 24 := by omega
    have m0 := m0 (by omega)
    have kl : (kvC m as).length = m.length := by simp [kvC, al]
    wtm_at "z_go"
    refine s_listD h (by wtm_at "z_sel") fun p H h => ?_
    wtm_at "z_go"
    rename_i q _
    have e1 : cutV ((kvC m as).map fun kv => kV kv.1) none (some 24) = (m.map (·.1)).map V.int := by
      rw [show (24 : Int) = ((24 : Nat) : Int) from rfl, cut_to, List.take_of_length_le (by simp [kl]; omega)]
      rw [show (fun kv : Key × V => kV kv.1) = kV ∘ (·.1) from rfl, ← List.map_map, kvC_keys al, List.map_map]
      rfl
    rw [e1] at h
    refine s_list (xs := (m.map (·.1)).map V.int) (by wtm_at "z_sql") ?_
    refine s_lcL (xs := (m.map (·.1)).map V.int) (fun j acc L => ∃ ts, acc = ts.map V.ref ∧ ts.length = j ∧ L = [tupsP ts ((kvC m as).take j), pt q (.lst ((m.map (·.1)).map V.int)), pt c (.dK (kvC m as)), rows as (m.map (·.2)), tape a (n + 500)])
      (by rw [List.take_zero]; exact ((h.tapeUp (m := n + 500) (by wtm_at "z_sel") (by omega)).tupsNil.only (by wtm_at "z_arr"))) ⟨[], rfl, rfl, rfl⟩ (fun j acc L D H ⟨ts, e1, e2, e3⟩ h => ?_) (fun j x acc L D H ex ⟨ts, e1, e2, e3⟩ h => ?_) (fun acc L D H ⟨ts, e1, e2, e3⟩ h => ?_)
    · subst e1 e3
      exact sqL_at h (by wtm_at "z_sel")
    · subst e1 e3
      obtain ⟨y, ey, rfl⟩ : ∃ y, (m.map (·.1))[j]? = some y ∧ V.int y = x := by rw [List.getElem?_map] at ex; simpa using ex
      have jl : j < m.length := by simpa using (List.getElem?_eq_some_iff.mp ey).1
      have ek : (kvC m as)[j]'(by omega) = ((Sum.inl y : Key), V.ref (as[j]'(by omega))) := by
        have : m[j].1 = y := by simpa [jl] using ey
        simp [kvC, this]
      have ev : valV (kvC m as) (Sum.inl y : Key) = some (V.ref (as[j]'(by omega))) := by
        have nk : ((kvC m as).map (·.1)).Nodup := by rw [kvC_keys al]; exact List.Pairwise.map _ (fun a b h e => h (by simpa using e)) nd
        exact valV_get nk (j := j) (by rw [← ek]; simp)
      wtm_at "z_in"
      refine s_getI h (by wtm_at "z_sel") ev ?_
      wtm_at "z_in"
      have h := h.tupsSnocI (y := y) (v := V.ref (as[j]'(by omega))) (by wtm_at "z_sel") (by wtm_at "z_sel")
      rw [show (kvC m as).take j ++ [((Sum.inl y : Key), V.ref (as[j]'(by omega)))] = (kvC m as).take (j + 1) by rw [← ek, List.take_append_getElem]] at h
      exact s_acc (h.arr (M := [pt D (.lst (ts.map V.ref))]) (by wtm_at "z_arr")) .here (by simp [sizeLine_eq]; omega) ⟨ts ++ [_], by simp, by simp [e2], rfl⟩
    · subst e1 e3
      rw [List.length_map, List.length_map, List.take_of_length_le (by omega)] at h
      wtm_at "z_in"
      refine s_dictP h (by wtm_at "z_sel") (by wtm_at "z_sel") (by rw [kvC_keys al]; exact List.Pairwise.map _ (fun a b h e => h (by simpa using e)) nd) fun p H h => ?_
      have h := h.chgI (c := p) (m := m) (as := as) (by wtm_at "z_arr")
      exact hq _ _ _ ⟨p, m, rfl, m24, m0, nd, mb, rfl⟩ (h.only (by wtm_at "z_arr"))
end
set_option Elab.async false
set_option linter.all false
set_option maxRecDepth 100000
set_option maxHeartbeats 1000000
section
variable {K : PySem.W.Frag} {F0 : FP} {H0 H : Hp} {L L1 M2 : List HP} {d p c : Addr} {D : Dk} {n m : Int} {r hs : List Int} {Q : VK} {E : XK} {vs : List V} {rs : List (List Int)} {as : List Addr}
/-- image() == a list with the same rows -/
theorem s_isNotBool {i : Int} (q : Q (.bl false) H) : rIsi K [.int i, .ty "bool"] H Q := ⟨.int i, .ty "bool", .type "int", .type "bool", false, rfl, .ty _, .base (.int i), rfl, q⟩
theorem dp_two {a : Addr} {i j : Int} (h : At F0 H0 L H) (s : Sel (pt a (.lst [.int i, .int j])) L L1) : Dp K H (.ref a) (dr [i, j]) := dp_row (.of (h.get s))
theorem pure__law_idle_right (h : sp__law_idle_right K vs H Q E) : Goal (t__law_idle_right K (WD E)) n__law_idle_right vs H Q := by
  obtain ⟨d, D, rfl, ⟨i1, i2, i3, ⟨tl, i4⟩, i5⟩, t⟩ := h
  obtain ⟨F, h, hq, -⟩ := t.open
  unfold Goal t__law_idle_right; wtm_at "z_start"
  wtm_at "z_st"
  refine s_mdisk h (by wtm_at "z_sel") (fun _ => by wtm_at "z_no") ?_
  wtm_at "z_in"
  refine c_image h (by wtm_at "z_sel") i3 fun p as H h => ?_
  wtm_at "z_in"
  refine s_mdisk h (by wtm_at "z_sel") (fun _ => by wtm_at "z_no") ?_
  wtm_at "z_in"
  refine c_writes h (by wtm_at "z_sel") fun H h => ?_
  wtm_at "z_in"
  wtm_at "z_st"
  refine c_recover0 h (by wtm_at "z_sel") i1 i4 fun H h => ?_
  wtm_at "z_in"
  refine c_recover0 h (by wtm_at "z_sel") i1 i4 fun H h => ?_
  wtm_at "z_go"
  refine s_eqD1 (dp_two h (by wtm_at "z_sel")) (dp_two h (by wtm_at "z_sel")) ?_
  rw [decide_eq_true rfl]
  wtm_at "z_go"
  refine s_isNotBool ?_
  wtm_at "z_go"
  refine s_mdisk h (by wtm_at "z_sel") (fun _ => by wtm_at "z_no") ?_
  wtm_at "z_in"
  refine c_image h (by wtm_at "z_sel") i3 fun p2 as2 H h => ?_
  wtm_at "z_in"
  refine s_eqD2 (h.dR (rs := D.bs) (as := as2) (by wtm_at "z_sel") (by wtm_at "z_sel")) (h.dR (rs := D.bs) (as := as) (by wtm_at "z_sel") (by wtm_at "z_sel")) ?_
  rw [decide_eq_true rfl]
  wtm_at "z_go"
  refine s_mdisk h (by wtm_at "z_sel") (fun _ => by wtm_at "z_no") ?_
  wtm_at "z_in"
  refine c_writes h (by wtm_at "z_sel") fun H h => ?_
  wtm_at "z_in"
  refine hq _ _ _ ⟨by simp, rfl⟩ (h.only (by wtm_at "z_arr"))
theorem c_idle (h : At F0 H0 L H) (s : Sel (disk K d D) L L1) (i : idle D) (q : ∀ H', At F0 H0 (disk K d D :: L1) H' → Q (.bl true) H') : sp__law_idle_right K [.ref d] H Q E :=
  ⟨d, D, rfl, i, h.call (.cons s .nil) (fun v L' H' ⟨e1, e2⟩ h => by subst e1 e2; exact q H' h) fun _ _ _ _ z => z.elim⟩
theorem mem_set16 {bs : List (List Int)} {k : Nat} {r : List Int} (h : ∀ r ∈ bs, r.length = 16) (l : r.length = 16) : ∀ x ∈ bs.set k r, x.length = 16 := fun x q => by
  rcases List.mem_or_eq_of_mem_set q with q | q
  · exact h x q
  · rw [q]; exact l
theorem idle.wr {k : Nat} (i : idle D) (k0 : 0 < k) (l : r.length = 16) : idle (D.wr k r) := by
  obtain ⟨i1, i2, i3, ⟨tl, i4⟩, i5⟩ := i
  refine ⟨i1, by simpa using i2, by simpa using i3, ⟨tl, ?_⟩, mem_set16 i5 l⟩
  rw [List.getElem?_set_ne (by omega)]; exact i4
theorem idle.left (i : idle D) (l : Option Int) : idle { D with left := l } := i
theorem pure__law_falls_right (X : PySem.W.exmOne K (.ref (c_Fallen K)) (.ref (c_Fallen K)) = some true) (h : sp__law_falls_right K vs H Q E) : Goal (t__law_falls_right K (WD E)) n__law_falls_right vs H Q := by
  obtain ⟨a, d, D, n, rfl, n1, ⟨i, lf, -⟩, t⟩ := h
  obtain ⟨F, h, hq, -⟩ := t.open
  have i2 := i.2.1
  have i3 := i.2.2.1
  unfold Goal t__law_falls_right; wtm_at "z_start"
  wtm_at "z_st"
  refine c_draw h (by wtm_at "z_sel") (by decide) (by decide) (by omega) fun k H k0 k1 h => ?_
  wtm_at "z_in"
  wtm_at "z_st"
  refine s_mdisk h (by wtm_at "z_sel") (fun _ => by wtm_at "z_no") ?_
  wtm_at "z_in"
  refine c_image h (by wtm_at "z_sel") i3 fun p as H h => ?_
  wtm_at "z_in"
  refine s_mdisk h (by wtm_at "z_sel") (fun _ => by wtm_at "z_no") ?_
  wtm_at "z_in"
  refine c_writes h (by wtm_at "z_sel") fun H h => ?_
  wtm_at "z_in"
  wtm_at "z_st"
  refine s_mdisk h (by wtm_at "z_sel") (fun _ => by wtm_at "z_no") ?_
  wtm_at "z_in"
  refine c_fall h (by wtm_at "z_sel") fun H h => ?_
  wtm_at "z_in"
  wtm_at "z_st"
  obtain ⟨tl, i4⟩ := i.2.2.2.1
  refine c_recover0 (D := { D with left := some k }) h (by wtm_at "z_sel") i.1 i4 fun H h => ?_
  wtm_at "z_in"
  refine s_mdisk h (by wtm_at "z_sel") (fun _ => by wtm_at "z_no") ?_
  wtm_at "z_in"
  refine c_image (D := { D with left := some k }) h (by wtm_at "z_sel") i3 fun p2 as2 H h => ?_
  wtm_at "z_in"
  refine s_neD2 (h.dR (rs := D.bs) (as := as2) (by wtm_at "z_sel") (by wtm_at "z_sel")) (h.dR (rs := D.bs) (as := as) (by wtm_at "z_sel") (by wtm_at "z_sel")) ?_
  rw [decide_eq_true rfl]
  wtm_at "z_in"
  refine s_mdisk h (by wtm_at "z_sel") (fun _ => by wtm_at "z_no") ?_
  wtm_at "z_in"
  refine c_writes h (by wtm_at "z_sel") fun H h => ?_
  wtm_at "z_in"
  wtm_at "z_st"
  refine s_rng1 (by omega) (by omega) ?_
  refine s_forR (fun j σ L => ∃ D1 u, idle D1 ∧ D1.left = some (k - j) ∧ D1.done = D.done + j ∧ D1.bs.length = D.bs.length ∧ σ = [some (.ref a), some (.ref d), some (.int D.bs.length), some (.int k), some (.ref p), some (.int D.done), u, none] ∧ L = [disk K d D1, tape a (n + 1 + 18 * j)])
    (h.only (by wtm_at "z_arr")) ⟨{ D with left := some k }, none, i, by simp, by simp, rfl, rfl, rfl⟩ (fun j σ L H j1 ⟨D1, u, q1, q2, q3, q4, e1, e2⟩ h => ?_) (fun σ L H ⟨D1, u, q1, q2, q3, q4, e1, e2⟩ h => ?_)
  · subst e1 e2
    wtm_at "z_in"
    refine s_mdisk h (by wtm_at "z_sel") (fun _ => by wtm_at "z_no") ?_
    wtm_at "z_in"
    refine c_draw h (by wtm_at "z_sel") (by omega) (by omega) (by omega) fun y H y0 y1 h => ?_
    wtm_at "z_in"
    refine c_block h (by wtm_at "z_sel") (by omega) fun b r H rl h => ?_
    wtm_at "z_in"
    refine c_write (k := (28 + y).toNat) (r := r) (D := D1) (by omega) h (by wtm_at "z_arr") (by omega) (fun f H h => ?_) (fun f H h => ?_)
    · have h := h.tapeUp (m := n + 1 + 18 * (j + 1)) (by wtm_at "z_sel") (by omega)
      refine ⟨_, ⟨D1.wr (28 + y).toNat r, _, q1.wr (by omega) rl, ?_, ?_, ?_, rfl, rfl⟩, h.only (by wtm_at "z_arr")⟩
      · simp [q2]; omega
      · simp [q3]; omega
      · simpa using q4
    · simp [Dk.falls, q1.1, q2] at f
      omega
  · subst e1 e2
    have ke : ((k.toNat : Nat) : Int) = k := by omega
    rw [ke] at q2 q3
    have q22 := q1.2.1
    have q23 := q1.2.2.1
    wtm_at "z_st"
    refine s_mdisk h (by wtm_at "z_sel") (fun _ => by wtm_at "z_no") ?_
    wtm_at "z_in"
    refine c_image h (by wtm_at "z_sel") q23 fun p3 as3 H h => ?_
    wtm_at "z_in"
    refine s_seq ?_
    refine s_try ?_
    wtm_at "z_in"
    refine s_mdisk h (by wtm_at "z_sel") (fun _ => by wtm_at "z_no") ?_
    wtm_at "z_in"
    refine c_draw h (by wtm_at "z_sel") (by omega) (by omega) (by omega) fun y H y0 y1 h => ?_
    wtm_at "z_in"
    refine c_block h (by wtm_at "z_sel") (by omega) fun b r H rl h => ?_
    wtm_at "z_in"
    refine c_write (k := (28 + y).toNat) (r := r) (D := D1) (by omega) h (by wtm_at "z_arr") (by omega) (fun f H h => ?_) (fun f H h => ?_)
    · simp [Dk.falls, q2] at f
    · refine ⟨true, X, fun _ e _ => ?_, fun z => by cases z⟩
      wtm_at "z_in"
      wtm_at "z_st"
      refine s_mdisk h (by wtm_at "z_sel") (fun _ => by wtm_at "z_no") ?_
      wtm_at "z_in"
      refine c_rise h (by wtm_at "z_sel") fun H h => ?_
      obtain ⟨tl2, i6⟩ := q1.2.2.2.1
      wtm_at "z_go"
      refine c_recover0 (D := { D1 with left := none, down := false }) h (by wtm_at "z_sel") rfl i6 fun H h => ?_
      wtm_at "z_go"
      refine s_mdisk h (by wtm_at "z_sel") (fun _ => by wtm_at "z_no") ?_
      wtm_at "z_in"
      refine c_image (D := { D1 with left := none, down := false }) h (by wtm_at "z_sel") q23 fun p4 as4 H h => ?_
      wtm_at "z_in"
      refine s_eqD2 (h.dR (rs := D1.bs) (as := as4) (by wtm_at "z_sel") (by wtm_at "z_sel")) (h.dR (rs := D1.bs) (as := as3) (by wtm_at "z_sel") (by wtm_at "z_sel")) ?_
      rw [decide_eq_true rfl]
      wtm_at "z_go"
      refine s_mdisk h (by wtm_at "z_sel") (fun _ => by wtm_at "z_no") ?_
      wtm_at "z_in"
      refine c_writes h (by wtm_at "z_sel") fun H h => ?_
      wtm_at "z_go"
      have h := h.tapeUp (m := n + 200) (by wtm_at "z_sel") (by omega)
      refine hq _ _ _ ⟨by simp [q3], { D1 with left := none, down := false }, ⟨⟨rfl, q1.2⟩, rfl, q4⟩, rfl⟩ (h.only (by wtm_at "z_arr"))
theorem c_falls {a : Addr} {n N : Nat} (h : At F0 H0 L H) (s : Arr [tape a n, disk K d D] L L1) (n1 : n + 200 < 2 ^ 40) (i : calmD D N) (e : m = (N : Int)) (q : ∀ D' H', calmD D' N → At F0 H0 (tape a (n + 200) :: disk K d D' :: L1) H' → Q (.bl true) H') : sp__law_falls_right K [.ref a, .ref d, .int m] H Q E :=
  ⟨a, d, D, n, by rw [e, ← i.2.2], n1, ⟨i.1, i.2.1, rfl⟩, h.call s (fun v L' H' ⟨e1, D', i', e2⟩ h => by subst e1 e2; exact q D' H' ⟨i'.1, i'.2.1, by rw [i'.2.2, i.2.2]⟩ h) fun _ _ _ _ z => z.elim⟩
end
set_option Elab.async false
set_option linter.all false
set_option maxRecDepth 100000
set_option maxHeartbeats 1000000
section
variable {K : PySem.W.Frag} {F0 : FP} {H0 H : Hp} {L L1 M2 : List HP} {d p c : Addr} {D : Dk} {n m : Int} {r hs : List Int} {Q : VK} {E : XK} {vs : List V} {rs : List (List Int)} {as : List Addr}
theorem s_in2 {i a b : Int} (h : SqT K H p [.int a, .int b]) (q : Q (.bl (decide (i = a ∨ i = b))) H) : rIn K false (.int i) (.ref p) H Q := by
  refine ⟨p, _, rfl, .inr h, rfl, rfl, ?_⟩
  have e : inV (.int i) [.int a, .int b] = decide (i = a ∨ i = b) := by
    show ((a == i) || ((b == i) || false)) = _
    rw [Bool.or_false, Bool.eq_iff_iff]
    simp
    omega
  rw [e]; exact q
theorem dp_one {a : Addr} {i : Int} (h : At F0 H0 L H) (s : Sel (pt a (.lst [.int i])) L L1) : Dp K H (.ref a) (dr [i]) := dp_row (.of (h.get s))
theorem s_accRowO {a D : Addr} {L0 : List HP} {rs' : List (List Int)} (h : At F0 H0 L H) (s : Arr (pt p (il r) :: rows as rs :: pt D (.lst (as.map V.ref)) :: L0) L L1) (z : rs.length < sizeLine) (e : rs' = rs ++ [r]) : accK F0 H0 D (rowI rs' L0) (.ref p) H :=
  s_accRow (h.only s) (.cons .here (.cons .here (.cons .here .nil))) z e
theorem take_snoc {bs : List (List Int)} {j : Nat} (h : bs[j]? = some r) : bs.take (j + 1) = bs.take j ++ [r] := by simp [List.take_add_one, h]
theorem pure__law_lists_right (h : sp__law_lists_right K vs H Q E) : Goal (t__law_lists_right K (WD E)) n__law_lists_right vs H Q := by
  obtain ⟨a, d, D, n, rfl, n1, ⟨i, lf, -⟩, t⟩ := h
  obtain ⟨F, h, hq, -⟩ := t.open
  have i2 := i.2.1
  have i3 := i.2.2.1
  unfold Goal t__law_lists_right; wtm_at "z_start"
  wtm_at "z_st"
  refine c_block h (by wtm_at "z_sel") (by omega) fun w r H rl h => ?_
  wtm_at "z_in"
  refine s_mdisk h (by wtm_at "z_sel") (fun _ => by wtm_at "z_no") ?_
  wtm_at "z_in"
  refine c_image h (by wtm_at "z_sel") i3 fun p as H h => ?_
  wtm_at "z_in"
  wtm_at "z_st"
  refine c_draw h (by wtm_at "z_sel") (by omega) (by omega) (by omega) fun o H o0 o1 h => ?_
  wtm_at "z_in"
  refine c_draw h (by wtm_at "z_sel") (by omega) (by omega) (by omega) fun t H t0 t1 h => ?_
  wtm_at "z_in"
  wtm_at "z_st"
  refine s_mdisk h (by wtm_at "z_sel") (fun _ => by wtm_at "z_no") ?_
  wtm_at "z_in"
  refine c_write (k := (28 + o).toNat) (r := r) (D := D) (by omega) h (by wtm_at "z_arr") (by omega) (fun f H h => ?_) (fun f H h => ?_)
  rotate_left
  · simp [Dk.falls, i.1, lf] at f
  clear f
  wtm_at "z_in"
  wtm_at "z_st"
  refine s_mdisk h (by wtm_at "z_sel") (fun _ => by wtm_at "z_no") ?_
  wtm_at "z_in"
  refine c_write (k := (28 + t).toNat) (r := r) (D := D.wr (28 + o).toNat r) (by omega) h (by wtm_at "z_arr") (by simp; omega) (fun f H h => ?_) (fun f H h => ?_)
  rotate_left
  · simp [Dk.falls, i.1, lf] at f
  clear f
  have ii := (i.wr (k := (28 + o).toNat) (by omega) rl).wr (k := (28 + t).toNat) (by omega) rl
  have ll : ((D.wr (28 + o).toNat r).wr (28 + t).toNat r).left = none := by simp [lf]
  have nn : ((D.wr (28 + o).toNat r).wr (28 + t).toNat r).bs.length = D.bs.length := by simp
  have be : ∀ j (_ : j < D.bs.length), ((D.wr (28 + o).toNat r).wr (28 + t).toNat r).bs[j]? = some (if ((j : Int) = 28 + o ∨ (j : Int) = 28 + t) then r else D.bs[j]) := by
    intro j jl
    simp only [Dk.wr, List.getElem?_set, List.length_set]
    by_cases h1 : (28 + t).toNat = j
    · have : (j : Int) = 28 + t := by omega
      simp [h1, this, jl]
    · have : ¬ (j : Int) = 28 + t := by omega
      by_cases h2 : (28 + o).toNat = j
      · have : (j : Int) = 28 + o := by omega
        simp [h1, h2, this, jl]
      · have : ¬ (j : Int) = 28 + o := by omega
        simp [h1, h2, *, jl]
  revert be nn ll ii h
  generalize (D.wr (28 + o).toNat r).wr (28 + t).toNat r = D2
  intro h ii ll nn be
  wtm_at "z_in"
  wtm_at "z_st"
  refine s_enum (xs := as.map V.ref) (by wtm_at "z_sql") ?_
  refine s_lcE (xs := as.map V.ref) (fun j => rowI (D2.bs.take j) [rows (as.drop j) (D.bs.drop j), pt p (.lst (as.map V.ref)), pt w (il r), disk K d D2, tape a (n + 17 + 1 + 1)])
    (by rw [List.take_zero, List.drop_zero, List.drop_zero]; exact h.rowsNil.only (by wtm_at "z_arr")) ⟨[], rfl, rfl⟩ (fun j acc L D' H ⟨ds, e1, e2⟩ h => ?_) (fun j x acc L D' H ex ⟨ds, e1, e2⟩ h => ?_) (fun acc L D' H ⟨ds, e1, e2⟩ h => ?_)
  · subst e1 e2
    exact sqL_at h (by wtm_at "z_sel")
  · subst e1 e2
    obtain ⟨b, eb, rfl⟩ : ∃ b, as[j]? = some b ∧ V.ref b = x := by rw [List.getElem?_map] at ex; simpa using ex
    have al := h.rowsLen (as := as.drop j) (rs := D.bs.drop j) (by wtm_at "z_sel")
    have jl0 : j < as.length := (List.getElem?_eq_some_iff.mp eb).1
    have jl : j < D.bs.length := by
      simp at al; omega
    have h := h.rowsPop (n := 0) (a := b) (r := D.bs[j]) (as := as.drop j) (rs := D.bs.drop j) (by wtm_at "z_sel") (by simpa using eb) (by simp [jl])
    rw [List.eraseIdx_zero, List.eraseIdx_zero, List.tail_drop, List.tail_drop] at h
    have bj := be j jl
    wtm_at "z_in"
    refine s_in2 (by wtm_at "z_sqt") ?_
    wtm_at "z_in"
    refine s_ifd (fun z => ?_) (fun z => ?_)
    · rw [if_pos z] at bj
      wtm_at "z_in"
      exact s_accRowO (a := a) (rs := D2.bs.take j) (r := r) (as := ds) h (by wtm_at "z_arr") (by simp [sizeLine_eq]; omega) (take_snoc bj)
    · rw [if_neg z] at bj
      wtm_at "z_in"
      exact s_accRowO (a := a) (rs := D2.bs.take j) (r := D.bs[j]) (as := ds) h (by wtm_at "z_arr") (by simp [sizeLine_eq]; omega) (take_snoc bj)
  · subst e1 e2
    have al := h.rowsLen (as := as.drop (as.map V.ref).length) (rs := D.bs.drop (as.map V.ref).length) (by wtm_at "z_sel")
    rw [List.length_map] at h al
    have hl : D2.bs.take as.length = D2.bs := List.take_of_length_le (by simp at al; omega)
    rw [hl] at h
    clear hl al be
    wtm_at "z_in"
    wtm_at "z_st"
    wtm_at "z_st"
    refine s_setLn h (by wtm_at "z_sel") (by decide) (by simp) fun H h => ?_
    wtm_at "z_in"
    wtm_at "z_st"
    refine c_draw h (by wtm_at "z_sel") (by omega) (by omega) (by omega) fun y H y0 y1 h => ?_
    wtm_at "z_in"
    rename_i q _
    refine s_tupI (xs := [.int 0, .int (28 + o), .int (28 + t), .int y, .int (D.bs.length - 1)]) (by wtm_at "z_sqt") ?_
    refine s_forT (xs := [.int 0, .int (28 + o), .int (28 + t), .int y, .int (D.bs.length - 1)]) (fun j σ L => ∃ u v b, σ = [some (.ref a), some (.ref d), some (.int D.bs.length), some (.ref w), some (.ref p), some (.int (28 + o)), some (.int (28 + t)), some (.ref D'), u, v, b, none] ∧
       L = [disk K d D2, pt D' (.lst (ds.map V.ref)), rows ds D2.bs, tp q [.int 0, .int (28 + o), .int (28 + t), .int y, .int (D.bs.length - 1)], tape a (n + 17 + 1 + 1 + 1)])
      (h.only (by wtm_at "z_arr")) ⟨none, none, none, rfl, rfl⟩ (fun j σ L H ⟨u, v, b, e1, e2⟩ h => ?_) (fun j x σ L H ex ⟨u, v, b, e1, e2⟩ h => ?_) (fun σ L H ⟨u, v, b, e1, e2⟩ h => ?_)
    · subst e1 e2
      exact sqT_at h (by wtm_at "z_sel")
    · subst e1 e2
      obtain ⟨k, rfl, k0, k1⟩ : ∃ k : Int, V.int k = x ∧ 0 ≤ k ∧ k < D.bs.length := by
        rcases j with _ | _ | _ | _ | _ | j <;> simp at ex <;> exact ⟨_, ex, by omega, by omega⟩
      have i3' := ii.2.2.1
      obtain ⟨x, xs, ek⟩ : ∃ x xs, D2.bs[k.toNat]? = some (x :: xs) := by
        have kl : k.toNat < D2.bs.length := by omega
        have := ii.2.2.2.2 D2.bs[k.toNat] (List.getElem_mem kl)
        cases e : D2.bs[k.toNat] with
        | nil => rw [e] at this; cases this
        | cons x xs => exact ⟨x, xs, by simp [kl, e]⟩
      have xl : xs.length = 15 := by
        have := ii.2.2.2.2 (x :: xs) (List.mem_of_getElem? ek)
        simpa using this
      wtm_at "z_in"
      wtm_at "z_st"
      refine s_mdisk h (by wtm_at "z_sel") (fun _ => by wtm_at "z_no") ?_
      wtm_at "z_in"
      refine c_image h (by wtm_at "z_sel") i3' fun p1 a1 H h => ?_
      wtm_at "z_in"
      refine s_mdisk h (by wtm_at "z_sel") (fun _ => by wtm_at "z_no") ?_
      wtm_at "z_in"
      refine c_image h (by wtm_at "z_sel") i3' fun p2 a2 H h => ?_
      wtm_at "z_in"
      rename_i tl _
      wtm_at "z_st"
      have l1 := h.rowsLen (as := a1) (rs := D2.bs) (by wtm_at "z_sel")
      obtain ⟨b1, eb, -⟩ := h.rowsAt (as := a1) (rs := D2.bs) (by wtm_at "z_sel") ek
      have h := h.rowsPop (as := a1) (rs := D2.bs) (by wtm_at "z_sel") eb ek
      simp only [il, List.map_cons] at h
      have eb2 : (a1.map V.ref)[k.toNat]? = some (.ref b1) := by simp [eb]
      refine s_ixLn (by wtm_at "z_sql") k0 eb2 ?_
      wtm_at "z_in"
      simp only [List.cons_append] at h
      wtm_at "z_st"
      refine s_ixLn (by wtm_at "z_sql") k0 eb2 ?_
      wtm_at "z_in"
      refine s_ixLn (by wtm_at "z_sql") k0 eb2 ?_
      wtm_at "z_in"
      have e9 : V.int (1 - if x < 1 then x else 1) :: (xs.map V.int ++ [V.int 9]) = ((1 - if x < 1 then x else 1) :: (xs ++ [9])).map V.int := by simp
      rw [e9] at h
      clear e9
      revert h
      generalize e17 : (1 - if x < 1 then x else 1) :: (xs ++ [9]) = r2
      intro h
      have r2l : r2.length = 17 := by rw [← e17]; simp [xl]
      have kl1 : k.toNat < D2.bs.length := by omega
      rw [← List.eraseIdx_set_eq (a := r2)] at h
      have h := h.rowsBack (as := a1) (rs := D2.bs.set k.toNat r2) (a := b1) (r := r2) (n := k.toNat) (by wtm_at "z_arr") eb (by simp [kl1]) (by simpa using l1)
      have bk : ∀ j (jl : j < D2.bs.length), ∃ r3, (D2.bs.set k.toNat r2)[j]? = some r3 ∧ ((k : Int) = j → r3.length = 17) ∧ (¬ (k : Int) = j → D2.bs[j]? = some r3) := by
        intro j jl
        by_cases z : k.toNat = j
        · exact ⟨r2, by rw [List.getElem?_set]; simp [z, jl], fun _ => r2l, fun z => by omega⟩
        · exact ⟨D2.bs[j], by rw [List.getElem?_set]; simp [z, jl], fun z => by omega, fun _ => by simp [jl]⟩
      revert h bk
      generalize D2.bs.set k.toNat r2 = B2
      intro h bk
      wtm_at "z_st"
      refine s_neD2 (h.dR (rs := D2.bs) (as := a2) (by wtm_at "z_sel") (by wtm_at "z_sel")) (h.dR (rs := D2.bs) (as := ds) (by wtm_at "z_sel") (by wtm_at "z_sel")) ?_
      rw [decide_eq_true rfl]
      wtm_at "z_in"
      refine s_rng1 (by omega) (by omega) ?_
      refine s_lcRT (fun j acc L => acc = (if k < j then [V.int k] else []) ∧ L = [rows a1 B2, pt p1 (.lst (a1.map V.ref)), pt tl (.lst [.ref p1, .ref p2]), disk K d D2, pt D' (.lst (ds.map V.ref)), rows ds D2.bs, tp q [.int 0, .int (28 + o), .int (28 + t), .int y, .int (D.bs.length - 1)], tape a (n + 17 + 1 + 1 + 1)])
        (h.only (by wtm_at "z_arr")) ⟨by simp; omega, rfl⟩ (fun i acc L D3 H i1 ⟨e1, e2⟩ h => ?_) (fun acc L D3 H ⟨e1, e2⟩ h => ?_)
      · subst e1 e2
        have i9 : i < D2.bs.length := by omega
        obtain ⟨r3, e3, f1, f2⟩ := bk i i9
        obtain ⟨c3, ec3, hc3⟩ := h.rowsAt (as := a1) (rs := B2) (by wtm_at "z_sel") e3
        obtain ⟨c4, ec4, hc4⟩ := h.rowsAt (as := ds) (rs := D2.bs) (n := i) (r := D2.bs[i]) (by wtm_at "z_sel") (by simp [i9])
        have r4l := ii.2.2.2.2 D2.bs[i] (List.getElem_mem i9)
        have ze : (0 + (i : Int)).toNat = i := by omega
        wtm_at "z_in"
        refine s_ixLn (v := .ref c3) (by wtm_at "z_sql") (by omega) (by rw [ze]; simp [ec3]) ?_
        wtm_at "z_in"
        refine s_ixLn (v := .ref c4) (by wtm_at "z_sql") (by omega) (by rw [ze]; simp [ec4]) ?_
        refine s_neD1 (dp_row (.of hc3)) (dp_row (.of hc4)) ?_
        wtm_at "z_in"
        unfold tstK
        by_cases z : k = i
        · have f1 := f1 z
          refine s_ifnT (fun e => by rw [e, r4l] at f1; cases f1) ?_
          wtm_at "z_in"
          refine s_acc h .here (by split <;> simp [sizeLine_eq]) ⟨?_, rfl⟩
          rw [if_neg (by omega), if_pos (by omega), z]
          simp
        · have f2 := f2 z
          refine s_ifnF ?_ ?_
          · have : some r3 = some D2.bs[i] := by rw [← f2]; simp [i9]
            exact Option.some.inj this
          · refine ⟨_, _, ⟨?_, rfl⟩, h⟩
            by_cases z2 : k < i
            · rw [if_pos z2, if_pos (by omega)]
            · rw [if_neg z2, if_neg (by omega)]
      · subst e1 e2
        rw [if_pos (by omega)] at h
        wtm_at "z_in"
        refine s_neD1 (dp_one h (by wtm_at "z_sel")) (dp_one h (by wtm_at "z_sel")) ?_
        rw [decide_eq_true rfl]
        wtm_at "z_in"
        wtm_at "z_st"
        refine s_mdisk h (by wtm_at "z_sel") (fun _ => by wtm_at "z_no") ?_
        wtm_at "z_in"
        refine c_read (D := D2) h (by wtm_at "z_sel") k0 ek ii.1 fun b5 H h => ?_
        wtm_at "z_in"
        wtm_at "z_st"
        refine s_reverse h (by wtm_at "z_sel") fun H h => ?_
        wtm_at "z_in"
        wtm_at "z_st"
        refine s_mdisk h (by wtm_at "z_sel") (fun _ => by wtm_at "z_no") ?_
        wtm_at "z_in"
        refine c_read (D := D2) h (by wtm_at "z_sel") k0 ek ii.1 fun b6 H h => ?_
        wtm_at "z_in"
        obtain ⟨c4, ec4, hc4⟩ := h.rowsAt (as := ds) (rs := D2.bs) (by wtm_at "z_sel") ek
        refine s_ixLn (v := .ref c4) (by wtm_at "z_sql") k0 (by simp [ec4]) ?_
        refine s_neD1 (dp_row (sqL_at h (by wtm_at "z_sel"))) (dp_row (.of hc4)) ?_
        rw [decide_eq_true rfl]
        wtm_at "z_in"
        exact ⟨_, ⟨_, _, _, rfl, rfl⟩, h.only (by wtm_at "z_arr")⟩
    · subst e1 e2
      wtm_at "z_in"
      have h := h.tapeUp (m := n + 100) (by wtm_at "z_sel") (by omega)
      exact hq _ _ _ ⟨rfl, D2, ⟨ii, ll, nn⟩, rfl⟩ (h.only (by wtm_at "z_arr"))
end
set_option Elab.async false
set_option linter.all false
set_option maxRecDepth 100000
set_option maxHeartbeats 1000000
section
variable {K : PySem.W.Frag} {F0 : FP} {H0 H : Hp} {L L1 M2 M3 : List HP} {d p c a : Addr} {D D1 : Dk} {n : Int} {r hs : List Int} {Q : VK} {E : XK} {vs : List V} {rs bs bs' : List (List Int)} {as cas es : List Addr} {σ : L2.St} {m : List (Int × List Int)} {N : Nat}
def dispK (p : Addr) (i : Int) (Q : VK) (v : V) (H : Hp) : Prop := H p = some (.dK []) ∧ Q (.ref p) (upd H p (.dK [((Sum.inl i : Key), v)]))
theorem s_disp1 {tv : TE} {i : Int} (h : At F0 H0 L H) (q : ∀ p H', At F0 H0 (pt p (.dK []) :: L) H' → tv σ H' (dispK p i Q)) : tDisp [(tC (.int i), tv)] σ H Q := by
  intro p hp
  have := q p _ (h.new hp)
  show tv σ (upd H p (.dK [])) fun v H2 => H2 p = some (.dK []) ∧ ∃ kvs : List (Key × V), [(V.int i, v)] = kvs.map (fun kv => (kV kv.1, kv.2)) ∧ kvs.length ≤ 15 ∧ Q (.ref p) (upd H2 p (.dK (mergeK [] kvs)))
  have e : (fun v H2 => H2 p = some (.dK []) ∧ ∃ kvs : List (Key × V), [(V.int i, v)] = kvs.map (fun kv => (kV kv.1, kv.2)) ∧ kvs.length ≤ 15 ∧ Q (.ref p) (upd H2 p (.dK (mergeK [] kvs)))) = dispK p i Q := by
    funext v H2
    refine propext ⟨fun ⟨e1, kvs, e2, _, e3⟩ => ⟨e1, ?_⟩, fun ⟨e1, e2⟩ => ⟨e1, [((Sum.inl i : Key), v)], rfl, by simp, e2⟩⟩
    rcases kvs with _ | ⟨⟨k, w⟩, _ | ⟨x, kvs⟩⟩
    · cases e2
    · simp at e2
      obtain ⟨e4, rfl⟩ := e2
      obtain rfl : k = Sum.inl i := by
        cases k with
        | inl j => cases e4; rfl
        | inr j => cases e4
      exact e3
    · simp at e2
  rw [e]
  exact this
theorem s_dispK {i : Int} {v : V} (h : At F0 H0 L H) (s : Sel (pt p (.dK [])) L L1) (q : ∀ H', At F0 H0 (pt p (.dK [((Sum.inl i : Key), v)]) :: L1) H' → Q (.ref p) H') : dispK p i Q v H := ⟨h.get s, q _ (h.set s)⟩
theorem At.dRdrop {k : Nat} (h : At F0 H0 L H) (s1 : Sel (pt p (.lst ((as.drop k).map V.ref))) L L1) (s2 : Sel (rows as rs) L M2) : Dp K H (.ref p) (S.dR (rs.drop k)) :=
  .lst (.of (h.get s1)) (dp_rowsA (by have := h.rowsLen s2; simp [this]) fun n b r e1 e2 => h.rowsAll s2 (k + n) b r (by simpa using e1) (by simpa using e2))
def behL (m : List (Int × List Int)) (bs : List (List Int)) : List (List Int) := (bs.drop 28).mapIdx fun k r => if (28 + (k : Int)) ∈ m.map (·.1) then look m (28 + k) else r
theorem behL_get {k : Nat} (h : 28 + k < bs.length) : (behL m bs)[k]? = some (if (28 + (k : Int)) ∈ m.map (·.1) then look m (28 + k) else bs[28 + k]) := by
  simp [behL, List.getElem?_mapIdx, h]
theorem behL_len : (behL m bs).length = bs.length - 28 := by simp [behL]
theorem fin_drop (o : HsOk m hs N) (F : Fin m hs bs bs') : bs'.drop 28 = behL m bs := by
  apply List.ext_getElem?
  intro k
  by_cases l : 28 + k < bs.length
  · rw [behL_get l, List.getElem?_drop]
    by_cases q : (28 + (k : Int)) ∈ m.map (·.1)
    · rw [if_pos q]
      have := F.home _ ((o.mem _).mpr q)
      rwa [show (28 + (k : Int)).toNat = 28 + k by omega] at this
    · rw [if_neg q, F.rest (28 + k) (by omega) (fun z => q ((o.mem _).mp (by simpa using z)))]
      simp [l]
  · rw [List.getElem?_eq_none (by rw [List.length_drop, F.len]; omega), List.getElem?_eq_none (by rw [behL_len]; omega)]
def eOk (m : List (Int × List Int)) (bs : List (List Int)) (as cas es : List Addr) : Prop := ∀ (k : Nat) (e : Addr), es[k]? = some e → (∃ (i : Nat), cas[i]? = some e ∧ (m.map (·.2))[i]? = (behL m bs)[k]?) ∨ (as[28 + k]? = some e ∧ bs[28 + k]? = (behL m bs)[k]?)
theorem At.dBeh (h : At F0 H0 L H) (o : eOk m bs as cas es) (l : es.length = (behL m bs).length) (s1 : Sel (pt p (.lst (es.map V.ref))) L L1) (s2 : Sel (rows as bs) L M2) (s3 : Sel (rows cas (m.map (·.2))) L M3) : Dp K H (.ref p) (S.dR (behL m bs)) :=
  .lst (.of (h.get s1)) (dp_rowsA l fun n b r e1 e2 => by
    rcases o n b e1 with ⟨i, q1, q2⟩ | ⟨q1, q2⟩
    · exact h.rowsAll s3 i b r q1 (by rw [q2, e2])
    · exact h.rowsAll s2 (28 + n) b r q1 (by rw [q2, e2]))
theorem s_notInTD {x x1 x2 : V} {t u v : List (List Int)} (ht : SqT K H p [x1, x2]) (h1 : Dp K H x (dR t)) (h2 : Dp K H x1 (dR u)) (h3 : Dp K H x2 (dR v)) (q : Q (.bl (!decide (u = t ∨ v = t))) H) : rInTD K true x (.ref p) H Q := by
  have cR : ∀ w : List (List Int), (dR w).canLay0 = true := fun w => by rw [dR, PyData.canLay0, dR_can]
  refine ⟨dR t, [dR u, dR v], h1, .tup ht (.cons h2 (.cons h3 .nil)), by rw [PyData.canLayAll0, PyData.canLayAll0, PyData.canLayAll0, cR, cR]; rfl, cR _, ?_, ?_⟩
  · have := dR_dep t
    rw [dR, PyData.depth]; omega
  · have e : ([dR u, dR v].any fun y => PyData.eqv y (dR t)) = decide (u = t ∨ v = t) := by
      simp only [List.any_cons, List.any_nil, dR_eq]
      by_cases h1 : u = t <;> by_cases h2 : v = t <;> simp [h1, h2]
    simpa [e] using q
theorem c_changes {n : Nat} {many : Int} (h : At F0 H0 L H) (s : Sel (tape a n) L L1) (n1 : n + 500 < 2 ^ 40) (m1 : 29 ≤ many) (m2 : many ≤ 1000)
    (q : ∀ p m H', mOk m many.toNat → At F0 H0 (chg p m :: tape a (n + 500) :: L1) H' → Q (.ref p) H') : sp__law_changes K [.ref a, .int many] H Q E :=
  ⟨a, n, many, rfl, n1, m1, m2, h.call (.cons s .nil) (fun v L' H' ⟨p, m, e1, e2, e3, e4, e5, e6⟩ h => by subst e1 e6; exact q p m H' ⟨e2, e3, e4, fun z hz => by have := e5 z hz; omega⟩ h) fun _ _ _ _ z => z.elim⟩
theorem cut28 {as : List Addr} : cutV (as.map V.ref) (some 28) none = (as.drop 28).map V.ref := by rw [List.map_drop]; exact cut_from (k := 28)
theorem valV_off {m : List (Int × List Int)} {cas : List Addr} (l : cas.length = m.length) {x : Int} (h : ¬ x ∈ m.map (·.1)) : valV (kvC m cas) (Sum.inl x : Key) = none := by
  rw [valV, List.find?_eq_none.mpr]
  · rfl
  · intro kv hk e
    have e : kv.1 = Sum.inl x := by simpa using e
    have : kv.1 ∈ (kvC m cas).map (·.1) := List.mem_map.mpr ⟨kv, hk, rfl⟩
    rw [kvC_keys l, e] at this
    simp at this
    exact h (by simpa using this)
theorem okChg.of {m : List (Int × List Int)} (o : mOk m D.bs.length) (n0 : 28 ≤ D.bs.length) (u : D.down = false) : okChg D m := ⟨o.1, o.2.1, o.2.2.1, fun p hp => by have := o.2.2.2 p hp; omega, n0, u⟩
/-- recover, behind a commit that fell and a rise -/
theorem c_recoverX {D0 D2 : Dk} {j : Nat} (h : At F0 H0 L H) (s : Sel (disk K d { D2 with left := none, down := false }) L L1) (o : HsOk m hs D.bs.length) (e0 : D0.bs = D.bs) (R : Ran D0 ((cmW m hs).take j) D2) (j1 : j < (cmW m hs).length) (i : idle D)
    (q : ∀ k D4 H', idle D4 → D4.left = none → D4.bs.length = D.bs.length → (D.bs.drop 28 = D4.bs.drop 28 ∨ behL m D.bs = D4.bs.drop 28) → At F0 H0 (disk K d D4 :: L1) H' → Q (.int k) H') : sp_recover K [.ref d] H Q E := by
  have i2 := i.2.1
  have i3 := i.2.2.1
  obtain ⟨a16, ln, z⟩ := cm_cut o R j1 (by rw [e0]) (by omega) (by rw [e0]; exact i.2.2.2.2) (by rw [e0]; exact i.2.2.2.1)
  rw [e0] at z
  rcases z with ⟨⟨tl, mk⟩, old⟩ | ⟨mk, r1, r2, lg, rest⟩
  · refine c_recover0 h s rfl mk fun H' h => q 0 { D2 with left := none, down := false } H' ⟨rfl, by show 29 ≤ D2.bs.length; omega, by show D2.bs.length ≤ 1000; omega, ⟨tl, mk⟩, a16⟩ rfl ln (.inl ?_) h
    apply List.ext_getElem?
    intro k
    rw [List.getElem?_drop, List.getElem?_drop]
    exact (old (28 + k) (by omega)).symm
  · have l0 := o.l0
    have l24 := o.l24
    have f := rec_fin (D2 := { D2 with left := none, down := false }) (bs := D.bs) o lg rest a16 ln rfl (by omega) rfl rfl
    refine c_recover (hs := hs) h s rfl mk (fun _ => ⟨rfl, ⟨l24, fun x hx => by have := o.bd x hx; show 28 ≤ x ∧ x < (D2.bs.length : Int); omega, by show 28 ≤ D2.bs.length; omega, rfl⟩, by omega, rA hs, rB hs, r1, r2, rA16, rB16, by rw [Int.toNat_natCast]; exact rAB o⟩) fun H' h => ?_
    refine q _ _ H' ⟨f.2.2, by rw [f.1.len]; omega, by rw [f.1.len]; omega, f.1.mark, f.1.s16⟩ f.2.1 f.1.len (.inr (fin_drop o f.1).symm) h
theorem beh1 {bs : List (List Int)} {r0 : List Int} (h : bs[28]? = some r0) : behL [(28, r0)] bs = bs.drop 28 := by
  apply List.ext_getElem?
  intro k
  by_cases l : 28 + k < bs.length
  · rw [behL_get l, List.getElem?_drop]
    by_cases q : (28 + (k : Int)) ∈ ([(28, r0)] : List (Int × List Int)).map (·.1)
    · have : k = 0 := by simp at q; omega
      subst this
      rw [if_pos q, h]
      rfl
    · rw [if_neg q]; simp [l]
  · rw [List.getElem?_eq_none (by rw [behL_len]; omega), List.getElem?_eq_none (by rw [List.length_drop]; omega)]
theorem pure__law_fallen_right (X : PySem.W.exmOne K (.ref (c_Fallen K)) (.ref (c_Fallen K)) = some true) (h : sp__law_fallen_right K vs H Q E) : Goal (t__law_fallen_right K (WD E)) n__law_fallen_right vs H Q := by
  obtain ⟨a, d, D, n, rfl, n1, ⟨i, lf, -⟩, t⟩ := h
  obtain ⟨F, h, hq, -⟩ := t.open
  have i2 := i.2.1
  have i3 := i.2.2.1
  unfold Goal t__law_fallen_right; wtm_at "z_start"
  wtm_at "z_st"
  refine s_mdisk h (by wtm_at "z_sel") (fun _ => by wtm_at "z_no") ?_
  wtm_at "z_in"
  refine c_image h (by wtm_at "z_sel") i3 fun p as H h => ?_
  wtm_at "z_in"
  rename_i ah _
  rw [cut28] at h
  refine c_changes h (by wtm_at "z_sel") (by omega) (by omega) (by omega) fun c m H mo h => ?_
  rw [Int.toNat_natCast] at mo
  wtm_at "z_in"
  obtain ⟨cas, h⟩ := h.chgE (by wtm_at "z_sel")
  obtain ⟨cl, h⟩ := h.chgAE (by wtm_at "z_sel")
  have al := h.rowsLen (as := as) (rs := D.bs) (by wtm_at "z_sel")
  have mo4 := mo.2.2.2
  have ml := mo.1
  wtm_at "z_st"
  refine s_enum (xs := (as.drop 28).map V.ref) (by wtm_at "z_sql") ?_
  refine s_lcE (xs := (as.drop 28).map V.ref) (fun j acc L => ∃ es, acc = es.map V.ref ∧ es.length = j ∧ eOk m D.bs as cas es ∧ L = [pt c (.dK (kvC m cas)), rows cas (m.map (·.2)), pt ah (.lst ((as.drop 28).map V.ref)), rows as D.bs, disk K d D, tape a (n + 500)])
    (h.only (by wtm_at "z_arr")) ⟨[], rfl, rfl, fun k e z => by simp at z, rfl⟩ (fun j acc L D' H ⟨es, e1, e2, e3, e4⟩ h => ?_) (fun j x acc L D' H ex ⟨es, e1, e2, e3, e4⟩ h => ?_) (fun acc L D' H ⟨es, e1, e2, e3, e4⟩ h => ?_)
  · subst e1 e4
    exact sqL_at h (by wtm_at "z_sel")
  · subst e1 e4
    obtain ⟨b, eb, rfl⟩ : ∃ b, as[28 + j]? = some b ∧ V.ref b = x := by rw [List.getElem?_map, List.getElem?_drop] at ex; simpa using ex
    have jl : 28 + j < D.bs.length := by rw [← al]; exact (List.getElem?_eq_some_iff.mp eb).1
    have bg := behL_get (m := m) jl
    have sn : ∀ e, ((∃ (i : Nat), cas[i]? = some e ∧ (m.map (·.2))[i]? = (behL m D.bs)[j]?) ∨ (as[28 + j]? = some e ∧ D.bs[28 + j]? = (behL m D.bs)[j]?)) → eOk m D.bs as cas (es ++ [e]) := by
      intro e he k e' hk
      by_cases z : k < es.length
      · rw [List.getElem?_append_left z] at hk
        exact e3 k e' hk
      · rw [List.getElem?_append_right (by omega)] at hk
        have z2 : k - es.length = 0 := by
          have := (List.getElem?_eq_some_iff.mp hk).1
          simp at this; omega
        rw [z2] at hk
        obtain rfl : e = e' := by simpa using hk
        obtain rfl : k = j := by omega
        exact he
    wtm_at "z_in"
    refine s_isDv h (by wtm_at "z_sel") ?_
    wtm_at "z_in"
    refine s_getOI h (by wtm_at "z_sel") ?_
    by_cases q : (28 + (j : Int)) ∈ m.map (·.1)
    · obtain ⟨i, c3, q1, q2, q3⟩ := look_at cl q
      rw [q2]
      rw [if_pos q] at bg
      exact s_acc h .here (by simp [sizeLine_eq, e2]; omega) ⟨es ++ [c3], by simp, by simp [e2], sn c3 (.inl ⟨i, q1, by rw [q3, bg]⟩), rfl⟩
    · rw [valV_off cl q]
      rw [if_neg q] at bg
      exact s_acc h .here (by simp [sizeLine_eq, e2]; omega) ⟨es ++ [b], by simp, by simp [e2], sn b (.inr ⟨eb, by rw [bg]; simp [jl]⟩), rfl⟩
  · subst e1 e4
    have el : es.length = (behL m D.bs).length := by rw [e2, behL_len]; simp [al]
    have kl : (kvC m cas).length = m.length := by simp [kvC, cl]
    wtm_at "z_in"
    wtm_at "z_st"
    refine s_mdisk h (by wtm_at "z_sel") (fun _ => by wtm_at "z_no") ?_
    wtm_at "z_in"
    rw [kl]
    refine c_draw h (by wtm_at "z_sel") (by omega) (by omega) (by omega) fun f H f0 f1 h => ?_
    wtm_at "z_in"
    refine c_fall h (by wtm_at "z_sel") fun H h => ?_
    wtm_at "z_in"
    wtm_at "z_st"
    refine s_seq ?_
    refine s_try ?_
    wtm_at "z_in"
    have h := h.chgAI (c := c) (m := m) (as := cas) (by wtm_at "z_arr")
    refine c_commit (D := { D with left := some f }) h (by wtm_at "z_arr") (.of mo (by show 28 ≤ D.bs.length; omega) i.1) (fun hs D1 hh R H h => ?_) (fun hs D1 hh e H h => ?_)
    · have o := HsOk.of mo hh
      have fn := cm_fin o R rfl (by omega) i.2.2.2.2
      have fl : D1.bs.length = D.bs.length := fn.len
      wtm_at "z_in"
      wtm_at "z_st"
      refine s_mdisk h (by wtm_at "z_sel") (fun _ => by wtm_at "z_no") ?_
      wtm_at "z_in"
      refine c_rise h (by wtm_at "z_sel") fun H h => ?_
      wtm_at "z_in"
      wtm_at "z_st"
      refine s_mdisk h (by wtm_at "z_sel") (fun _ => by wtm_at "z_no") ?_
      wtm_at "z_in"
      refine c_image (D := { D1 with left := none, down := false }) h (by wtm_at "z_sel") (by show D1.bs.length ≤ 1000; omega) fun p3 as3 H h => ?_
      wtm_at "z_in"
      rw [cut28] at h
      obtain ⟨-, h⟩ := h.chgAE (c := c) (m := m) (as := cas) (by wtm_at "z_sel")
      refine s_eqD2 (h.dRdrop (k := 28) (rs := D1.bs) (as := as3) (by wtm_at "z_sel") (by wtm_at "z_sel")) (h.dBeh e3 el (by wtm_at "z_sel") (by wtm_at "z_sel") (by wtm_at "z_sel")) ?_
      rw [decide_eq_true (fin_drop o fn)]
      wtm_at "z_in"
      refine c_idle (D := { D1 with left := none, down := false }) h (by wtm_at "z_sel") ⟨rfl, by show 29 ≤ D1.bs.length; omega, by show D1.bs.length ≤ 1000; omega, fn.mark, fn.s16⟩ fun H h => ?_
      have h := h.tapeUp (m := n + 600) (by wtm_at "z_sel") (by omega)
      exact hq _ _ _ ⟨rfl, _, rfl⟩ (h.only (by wtm_at "z_arr"))
    · have o := HsOk.of mo hh
      obtain ⟨j, D2, j1, R, rfl⟩ := run_false e
      refine ⟨true, X, fun _ e _ => ?_, fun z => by cases z⟩
      wtm_at "z_in"
      wtm_at "z_st"
      refine s_mdisk h (by wtm_at "z_sel") (fun _ => by wtm_at "z_no") ?_
      wtm_at "z_in"
      refine c_rise h (by wtm_at "z_sel") fun H h => ?_
      wtm_at "z_in"
      wtm_at "z_st"
      wtm_at "z_st"
      refine c_recoverX (D0 := { D with left := some f }) (D := D) h (by wtm_at "z_sel") o rfl R j1 i fun k D4 H ii ll nn eo h => ?_
      have ii2 := ii.2.1
      have ii3 := ii.2.2.1
      wtm_at "z_in"
      wtm_at "z_st"
      refine s_mdisk h (by wtm_at "z_sel") (fun _ => by wtm_at "z_no") ?_
      wtm_at "z_in"
      refine c_image h (by wtm_at "z_sel") ii3 fun p3 as3 H h => ?_
      wtm_at "z_in"
      rename_i th _
      rw [cut28] at h
      obtain ⟨-, h⟩ := h.chgAE (c := c) (m := m) (as := cas) (by wtm_at "z_sel")
      wtm_at "z_st"
      refine s_notInTD (sqT_at h (by wtm_at "z_sel")) (h.dRdrop (k := 28) (rs := D4.bs) (as := as3) (by wtm_at "z_sel") (by wtm_at "z_sel")) (h.dRdrop (k := 28) (rs := D.bs) (as := as) (by wtm_at "z_sel") (by wtm_at "z_sel")) (h.dBeh e3 el (by wtm_at "z_sel") (by wtm_at "z_sel") (by wtm_at "z_sel")) ?_
      rw [decide_eq_true eo]
      wtm_at "z_in"
      obtain ⟨tl, mk⟩ := ii.2.2.2.1
      refine c_recover0 h (by wtm_at "z_sel") ii.1 mk fun H h => ?_
      wtm_at "z_in"
      refine s_mdisk h (by wtm_at "z_sel") (fun _ => by wtm_at "z_no") ?_
      wtm_at "z_in"
      refine c_image h (by wtm_at "z_sel") ii3 fun p5 as5 H h => ?_
      wtm_at "z_in"
      rw [cut28] at h
      refine s_neD2 (h.dRdrop (k := 28) (rs := D4.bs) (as := as5) (by wtm_at "z_sel") (by wtm_at "z_sel")) (h.dRdrop (k := 28) (rs := D4.bs) (as := as3) (by wtm_at "z_sel") (by wtm_at "z_sel")) ?_
      rw [decide_eq_true rfl]
      wtm_at "z_in"
      wtm_at "z_st"
      have k28 : 28 < D4.bs.length := by omega
      obtain ⟨t0, et, -⟩ := h.rowsAt (as := as3) (rs := D4.bs) (n := 28) (r := D4.bs[28]) (by wtm_at "z_sel") (by simp [k28])
      have r16 := ii.2.2.2.2 D4.bs[28] (List.getElem_mem k28)
      refine s_disp1 h fun c2 H h => ?_
      wtm_at "z_in"
      refine s_ixLn (v := .ref t0) (by wtm_at "z_sql") (by decide) (by rw [List.getElem?_map, List.getElem?_drop]; simp [et]) ?_
      refine s_dispK h (by wtm_at "z_sel") fun H h => ?_
      wtm_at "z_in"
      have l3 := h.rowsLen (as := as3) (rs := D4.bs) (by wtm_at "z_sel")
      have h := (h.rowsPop (as := as3) (rs := D4.bs) (n := 28) (a := t0) (r := D4.bs[28]) (by wtm_at "z_sel") et (by simp [k28])).rowsNil
      have h := At.rowsSnoc (p := t0) (r := D4.bs[28]) (as := []) (rs := []) (h.arr (M := [pt t0 (il D4.bs[28]), rows [] []]) (by wtm_at "z_arr"))
      have h := h.chgAI (c := c2) (m := [(28, D4.bs[28])]) (as := [t0]) (.cons (.there (.there .here)) (.cons .here .nil))
      have mo2 : mOk [(28, D4.bs[28])] D4.bs.length := ⟨by simp, by simp, by simp, fun q hq => by simp at hq; subst hq; exact ⟨by simp, by simp; omega, r16⟩⟩
      refine c_commit (D := D4) h (by wtm_at "z_arr") (.of mo2 (by omega) ii.1) (fun hs2 D5 hh2 R2 H h => ?_) (fun hs2 D5 hh2 e5 H h => ?_)
      rotate_left
      · have := (run_calm (ws := cmW [(28, D4.bs[28])] hs2) ll ii.1).1
        rw [e5] at this
        cases this
      have o2 := HsOk.of mo2 hh2
      have fn := cm_fin o2 R2 rfl (by omega) ii.2.2.2.2
      have fl : D5.bs.length = D4.bs.length := fn.len
      have fd := fin_drop o2 fn
      rw [beh1 (by simp [k28])] at fd
      have u5 : D5.down = false := by rw [R2.up]; exact ii.1
      wtm_at "z_in"
      refine s_mdisk h (by wtm_at "z_sel") (fun _ => by wtm_at "z_no") ?_
      wtm_at "z_in"
      refine c_image (D := D5) h (by wtm_at "z_sel") (by omega) fun p6 as6 H h => ?_
      wtm_at "z_in"
      rw [cut28] at h
      obtain ⟨-, h⟩ := h.chgAE (c := c2) (m := [(28, D4.bs[28])]) (as := [t0]) (by wtm_at "z_sel")
      have h := h.rowsPop (as := [t0]) (rs := [(28, D4.bs[28])].map (·.2)) (n := 0) (a := t0) (r := D4.bs[28]) (.there .here) rfl rfl
      have h := h.rowsBack (as := as3) (rs := D4.bs) (n := 28) (a := t0) (r := D4.bs[28]) (by wtm_at "z_arr") et (by simp [k28]) l3
      refine s_eqD2 (h.dRdrop (k := 28) (rs := D5.bs) (as := as6) (by wtm_at "z_sel") (by wtm_at "z_sel")) (h.dRdrop (k := 28) (rs := D4.bs) (as := as3) (by wtm_at "z_sel") (by wtm_at "z_sel")) ?_
      rw [decide_eq_true fd]
      wtm_at "z_in"
      refine c_idle (D := D5) h (by wtm_at "z_sel") ⟨u5, by omega, by omega, fn.mark, fn.s16⟩ fun H h => ?_
      have h := h.tapeUp (m := n + 600) (by wtm_at "z_sel") (by omega)
      exact hq _ _ _ ⟨rfl, _, rfl⟩ (h.only (by wtm_at "z_arr"))
end
set_option Elab.async false
set_option linter.all false
set_option maxRecDepth 100000
set_option maxHeartbeats 1000000
section
variable {K : PySem.W.Frag} {F0 : FP} {H0 H : Hp} {L L1 : List HP} {d p c a : Addr} {D D1 : Dk} {n : Nat} {m : Int} {N : Nat} {Q : VK} {E : XK} {vs : List V}
theorem c_lists (h : At F0 H0 L H) (s : Arr [tape a n, disk K d D] L L1) (n1 : n + 100 < 2 ^ 40) (i : calmD D N) (e : m = (N : Int)) (q : ∀ D' H', calmD D' N → At F0 H0 (tape a (n + 100) :: disk K d D' :: L1) H' → Q (.bl true) H') : sp__law_lists_right K [.ref a, .ref d, .int m] H Q E :=
  ⟨a, d, D, n, by rw [e, ← i.2.2], n1, ⟨i.1, i.2.1, rfl⟩, h.call s (fun v L' H' ⟨e1, D', i', e2⟩ h => by subst e1 e2; exact q D' H' ⟨i'.1, i'.2.1, by rw [i'.2.2, i.2.2]⟩ h) fun _ _ _ _ z => z.elim⟩
theorem c_fallen (h : At F0 H0 L H) (s : Arr [tape a n, disk K d D] L L1) (n1 : n + 600 < 2 ^ 40) (i : calmD D N) (e : m = (N : Int)) (q : ∀ D' H', At F0 H0 (tape a (n + 600) :: disk K d D' :: L1) H' → Q (.bl true) H') : sp__law_fallen_right K [.ref a, .ref d, .int m] H Q E :=
  ⟨a, d, D, n, by rw [e, ← i.2.2], n1, ⟨i.1, i.2.1, rfl⟩, h.call s (fun v L' H' ⟨e1, D', e2⟩ h => by subst e1 e2; exact q D' H' h) fun _ _ _ _ z => z.elim⟩
theorem pure_law (h : sp_law K vs H Q E) : Goal (t_law K (WD E)) n_law vs H Q := by
  obtain ⟨a, ns, rfl, nl, t⟩ := h
  obtain ⟨F, h, hq, -⟩ := t.open
  have hs := h.scr .here
  unfold Goal t_law; wtm_at "z_start"
  wtm_at "z_st"
  refine s_rng1 (by split <;> (try split) <;> omega) (by split <;> (try split) <;> omega) ?_
  have nb : (if (if 4 < ((List.map V.int ns).length : Int) then 4 else ((List.map V.int ns).length : Int)) > 2 then (if 4 < ((List.map V.int ns).length : Int) then 4 else ((List.map V.int ns).length : Int)) else 2) ≤ 4 := by split <;> (try split) <;> omega
  simp only [List.length_map] at nb
  revert nb
  generalize (if (if 4 < (ns.length : Int) then 4 else (ns.length : Int)) > 2 then (if 4 < (ns.length : Int) then 4 else (ns.length : Int)) else 2) = tn
  intro nb
  refine s_forR (fun j σ L => ∃ u1 u2 u3 u4 u5, σ = [some (.ref a), u1, u2, u3, u4, u5] ∧ L = [S.scr K a ns]) h ⟨_, _, _, _, _, rfl, rfl⟩ (fun j σ L H j1 ⟨u1, u2, u3, u4, u5, e1, e2⟩ h => ?_) (fun σ L H ⟨u1, u2, u3, u4, u5, e1, e2⟩ h => ?_)
  · subst e1 e2
    wtm_at "z_in"
    wtm_at "z_st"
    refine c_tape h (by wtm_at "z_sel") (by omega) (by omega) fun b H h => ?_
    wtm_at "z_in"
    wtm_at "z_st"
    refine c_draw h (by wtm_at "z_sel") (by decide) (by decide) (by omega) fun r H r0 r1 h => ?_
    wtm_at "z_in"
    obtain ⟨w, ew, w0, w1⟩ : ∃ w : Int, [V.int 4, V.int 60][r.toNat]? = some (.int w) ∧ 0 < w ∧ w ≤ 60 := by
      rcases (show r = 0 ∨ r = 1 by omega) with rfl | rfl
      · exact ⟨4, rfl, by decide, by decide⟩
      · exact ⟨60, rfl, by decide, by decide⟩
    refine s_ixLn (by wtm_at "z_sql") r0 ew ?_
    wtm_at "z_in"
    refine c_draw h (by wtm_at "z_sel") w0 (by omega) (by omega) fun y H y0 y1 h => ?_
    wtm_at "z_in"
    wtm_at "z_st"
    rename_i x _
    refine c_init h (by wtm_at "z_sel") (by omega) (by omega) fun H h => ?_
    obtain ⟨N, hN⟩ : ∃ N : Nat, 29 + y = (N : Int) := ⟨(29 + y).toNat, by omega⟩
    have i0 : calmD ⟨List.replicate (29 + y).toNat (List.replicate 16 0), 0, none, false⟩ N := by
      refine ⟨⟨rfl, by simp; omega, by simp; omega, ⟨List.replicate 15 0, ?_⟩, fun r hr => ?_⟩, rfl, by simp; omega⟩
      · rw [List.getElem?_replicate, if_pos (by omega)]; rfl
      · rw [List.eq_of_mem_replicate hr]; simp
    revert h i0
    generalize Dk.mk (List.replicate (29 + y).toNat (List.replicate 16 0)) 0 none false = D0
    intro h i0
    refine ⟨rfl, ?_⟩
    wtm_at "z_in"
    wtm_at "z_st"
    refine c_idle h (by wtm_at "z_sel") i0.1 fun H h => ?_
    wtm_at "z_in"
    refine c_falls (N := N) h (by wtm_at "z_arr") (by omega) i0 hN fun D1 H i1 h => ?_
    wtm_at "z_in"
    wtm_at "z_st"
    refine c_lists (N := N) h (by wtm_at "z_arr") (by omega) i1 hN fun D2 H i2 h => ?_
    wtm_at "z_in"
    wtm_at "z_st"
    refine c_draw h (by wtm_at "z_sel") (by decide) (by decide) (by omega) fun q H q0 q1 h => ?_
    wtm_at "z_in"
    refine s_rng1 (by omega) (by omega) ?_
    refine s_forR (fun i σ L => ∃ D3 u, calmD D3 N ∧ σ = [some (.ref a), some (.int (0 + (j : Int))), some (.ref b), some (.int (29 + y)), some (.ref x), u] ∧ L = [tape b (303 + 700 * i), disk K x D3, S.scr K a ns]) (h.tapeUp (m := 303 + 700 * 0) (by wtm_at "z_sel") (by omega) |>.only (by wtm_at "z_arr")) ⟨_, _, i2, rfl, rfl⟩ (fun i σ L H i1 ⟨D3, u, i3, e1, e2⟩ h => ?_) (fun σ L H ⟨D3, u, i3, e1, e2⟩ h => ?_)
    · subst e1 e2
      have i31 := i3.1.2.1
      have i32 := i3.1.2.2.1
      have i33 := i3.2.2
      wtm_at "z_in"
      wtm_at "z_st"
      refine c_changes h (by wtm_at "z_sel") (by omega) (by omega) (by omega) fun c m H mo h => ?_
      rw [show (29 + y).toNat = D3.bs.length by omega] at mo
      obtain ⟨cas, h⟩ := h.chgE (by wtm_at "z_sel")
      refine c_commit (D := D3) h (by wtm_at "z_arr") (.of mo (by omega) i3.1.1) (fun hs2 D5 hh2 R2 H h => ?_) (fun hs2 D5 hh2 e5 H h => ?_)
      rotate_left
      · have := (run_calm (ws := cmW m hs2) i3.2.1 i3.1.1).1
        rw [e5] at this
        cases this
      have fn := cm_fin (HsOk.of mo hh2) R2 rfl (by omega) i3.1.2.2.2.2
      have fl : D5.bs.length = D3.bs.length := fn.len
      have i5 : calmD D5 N := ⟨⟨by rw [R2.up]; exact i3.1.1, by omega, by omega, fn.mark, fn.s16⟩, R2.calm i3.2.1 i3.1.1, by omega⟩
      wtm_at "z_in"
      refine c_idle h (by wtm_at "z_sel") i5.1 fun H h => ?_
      wtm_at "z_in"
      refine c_falls (N := N) h (by wtm_at "z_arr") (by omega) i5 hN fun D6 H i6 h => ?_
      wtm_at "z_in"
      have h := h.tapeUp (m := 303 + 700 * (i + 1)) (by wtm_at "z_sel") (by omega)
      exact ⟨_, ⟨D6, _, i6, rfl, rfl⟩, h.only (by wtm_at "z_arr")⟩
    · subst e1 e2
      wtm_at "z_in"
      refine c_fallen (N := N) h (by wtm_at "z_arr") (by omega) i3 hN fun D7 H h => ?_
      wtm_at "z_in"
      exact ⟨_, ⟨_, _, _, _, _, rfl, rfl⟩, h.only (by wtm_at "z_arr")⟩
  · subst e1 e2
    wtm_at "z_in"
    exact hq _ _ _ rfl h
end
set_option Elab.async false
set_option linter.all false
set_option maxRecDepth 100000
set_option maxHeartbeats 0
def dd_Disk___init__ : He.DefD := ⟨("Disk", some "__init__"), "__init__", "Disk.__init__", defArgs st_Disk___init__, defBody st_Disk___init__, defScope st_Disk___init__, [], []⟩
def dd_Disk_look : He.DefD := ⟨("Disk", some "look"), "look", "Disk.look", defArgs st_Disk_look, defBody st_Disk_look, defScope st_Disk_look, [], []⟩
def dd_Disk_writes : He.DefD := ⟨("Disk", some "writes"), "writes", "Disk.writes", defArgs st_Disk_writes, defBody st_Disk_writes, defScope st_Disk_writes, [], []⟩
def dd_Disk_fall : He.DefD := ⟨("Disk", some "fall"), "fall", "Disk.fall", defArgs st_Disk_fall, defBody st_Disk_fall, defScope st_Disk_fall, [], []⟩
def dd_Disk_rise : He.DefD := ⟨("Disk", some "rise"), "rise", "Disk.rise", defArgs st_Disk_rise, defBody st_Disk_rise, defScope st_Disk_rise, [], []⟩
def dd_Disk_image : He.DefD := ⟨("Disk", some "image"), "image", "Disk.image", defArgs st_Disk_image, defBody st_Disk_image, defScope st_Disk_image, [], []⟩
def dd__law_tape : He.DefD := ⟨("_law_tape", none), "_law_tape", "_law_tape", defArgs st__law_tape, defBody st__law_tape, defScope st__law_tape, [], []⟩
def dd__law_draw : He.DefD := ⟨("_law_draw", none), "_law_draw", "_law_draw", defArgs st__law_draw, defBody st__law_draw, defScope st__law_draw, [], []⟩
def dd_Disk_read : He.DefD := ⟨("Disk", some "read"), "read", "Disk.read", defArgs st_Disk_read, defBody st_Disk_read, defScope st_Disk_read, [], []⟩
def dd_Disk_write : He.DefD := ⟨("Disk", some "write"), "write", "Disk.write", defArgs st_Disk_write, defBody st_Disk_write, defScope st_Disk_write, [], []⟩
def dd__law_block : He.DefD := ⟨("_law_block", none), "_law_block", "_law_block", defArgs st__law_block, defBody st__law_block, defScope st__law_block, [], []⟩
def dd_send_home : He.DefD := ⟨("send_home", none), "send_home", "send_home", defArgs st_send_home, defBody st_send_home, defScope st_send_home, [], []⟩
def dd_mark : He.DefD := ⟨("mark", none), "mark", "mark", defArgs st_mark, defBody st_mark, defScope st_mark, [], []⟩
def dd__law_changes : He.DefD := ⟨("_law_changes", none), "_law_changes", "_law_changes", defArgs st__law_changes, defBody st__law_changes, defScope st__law_changes, [], []⟩
def dd__law_lists_right : He.DefD := ⟨("_law_lists_right", none), "_law_lists_right", "_law_lists_right", defArgs st__law_lists_right, defBody st__law_lists_right, defScope st__law_lists_right, [], []⟩
def dd_commit : He.DefD := ⟨("commit", none), "commit", "commit", defArgs st_commit, defBody st_commit, defScope st_commit, [], []⟩
def dd_recover : He.DefD := ⟨("recover", none), "recover", "recover", defArgs st_recover, defBody st_recover, defScope st_recover, [], []⟩
def dd__law_idle_right : He.DefD := ⟨("_law_idle_right", none), "_law_idle_right", "_law_idle_right", defArgs st__law_idle_right, defBody st__law_idle_right, defScope st__law_idle_right, [], []⟩
def dd__law_falls_right : He.DefD := ⟨("_law_falls_right", none), "_law_falls_right", "_law_falls_right", defArgs st__law_falls_right, defBody st__law_falls_right, defScope st__law_falls_right, [], []⟩
def dd__law_fallen_right : He.DefD := ⟨("_law_fallen_right", none), "_law_fallen_right", "_law_fallen_right", defArgs st__law_fallen_right, defBody st__law_fallen_right, defScope st__law_fallen_right, [], []⟩
def dd_law : He.DefD := ⟨("law", none), "law", "law", defArgs st_law, defBody st_law, defScope st_law, [], []⟩
def hfn0 : List He.DefD := [dd_Disk___init__, dd_Disk_look, dd_Disk_writes, dd_Disk_fall, dd_Disk_rise, dd_Disk_image, dd__law_tape, dd__law_draw, dd_Disk_read, dd_Disk_write, dd__law_block, dd_send_home, dd_mark, dd__law_changes, dd__law_lists_right, dd_commit, dd_recover, dd__law_idle_right, dd__law_falls_right, dd__law_fallen_right, dd_law]
def hfn : List He.DefD := hfn0
def hfa0 : List He.Fa := [.free "abs", .free "bool", .free "dict", .free "enumerate", .free "int", .free "isinstance", .free "len", .free "list", .free "max", .free "min", .free "range", .free "sorted", .cls "Disk", .glo "Fallen", .exc "Fallen", .glo "NoBlock", .exc "NoBlock", .int "BLOCK" 16, .int "COPIES" 3, .int "HOMES" 1, .int "MARK" 0, .noat "Disk" "blocks", .noat "Disk" "done", .noat "Disk" "down", .noat "Disk" "left", .exm "Fallen" "Fallen" true, .glo "Disk", .mkr "Disk", .meth "Disk" "look", .meth "Disk" "writes"]
def hfa1 : List He.Fa := [.meth "Disk" "fall", .meth "Disk" "rise", .meth "Disk" "image", .glo "_law_tape", .glo "_law_draw", .meth "Disk" "read", .meth "Disk" "write", .glo "_law_block", .glo "send_home", .glo "mark", .glo "_law_changes", .glo "_law_lists_right", .glo "commit", .glo "recover", .glo "_law_idle_right", .glo "_law_falls_right", .glo "_law_fallen_right", .glo "law"]
def hfa : List He.Fa := hfa0 ++ hfa1
def hloose0 : List Str := ["MARK", "HOMES", "COPIES", "send_home", "mark", "commit", "recover", "KernelError", "NoBlock", "Fallen", "BLOCK", "Disk", "_law_tape", "_law_draw", "_law_block", "_law_changes", "_law_idle_right", "_law_falls_right", "_law_fallen_right", "_law_lists_right"]
def hloose : List Str := hloose0
set_option hygiene false in
local macro_rules | `(tactic| wtm_at "z_len") => `(tactic| repeat (first | exact congrArg List.length h.1 | (obtain ⟨_, h⟩ := h)))
set_option hygiene false in
local macro_rules | `(tactic| wtm_at "z_zero") => `(tactic| repeat (first | exact Tri.zero h | (obtain ⟨x, h⟩ := h; refine ⟨x, ?_⟩)))
theorem len_Disk___init__ {K : PySem.W.Frag} : ∀ vs H Q E, sp_Disk___init__ K vs H Q E → vs.length = 2 := by
  intro vs H Q E h
  wtm_at "z_len"
theorem zero_Disk___init__ {K : PySem.W.Frag} : ∀ vs H Q E, sp_Disk___init__ K vs H Q E → sp_Disk___init__ K vs H Q (fun _ _ _ => False) := by
  intro vs H Q E h
  wtm_at "z_zero"
theorem len_Disk_look {K : PySem.W.Frag} : ∀ vs H Q E, sp_Disk_look K vs H Q E → vs.length = 2 := by
  intro vs H Q E h
  wtm_at "z_len"
theorem len_Disk_writes {K : PySem.W.Frag} : ∀ vs H Q E, sp_Disk_writes K vs H Q E → vs.length = 1 := by
  intro vs H Q E h
  wtm_at "z_len"
theorem zero_Disk_writes {K : PySem.W.Frag} : ∀ vs H Q E, sp_Disk_writes K vs H Q E → sp_Disk_writes K vs H Q (fun _ _ _ => False) := by
  intro vs H Q E h
  wtm_at "z_zero"
theorem len_Disk_fall {K : PySem.W.Frag} : ∀ vs H Q E, sp_Disk_fall K vs H Q E → vs.length = 2 := by
  intro vs H Q E h
  wtm_at "z_len"
theorem zero_Disk_fall {K : PySem.W.Frag} : ∀ vs H Q E, sp_Disk_fall K vs H Q E → sp_Disk_fall K vs H Q (fun _ _ _ => False) := by
  intro vs H Q E h
  wtm_at "z_zero"
theorem len_Disk_rise {K : PySem.W.Frag} : ∀ vs H Q E, sp_Disk_rise K vs H Q E → vs.length = 1 := by
  intro vs H Q E h
  wtm_at "z_len"
theorem zero_Disk_rise {K : PySem.W.Frag} : ∀ vs H Q E, sp_Disk_rise K vs H Q E → sp_Disk_rise K vs H Q (fun _ _ _ => False) := by
  intro vs H Q E h
  wtm_at "z_zero"
theorem len_Disk_image {K : PySem.W.Frag} : ∀ vs H Q E, sp_Disk_image K vs H Q E → vs.length = 1 := by
  intro vs H Q E h
  wtm_at "z_len"
theorem zero_Disk_image {K : PySem.W.Frag} : ∀ vs H Q E, sp_Disk_image K vs H Q E → sp_Disk_image K vs H Q (fun _ _ _ => False) := by
  intro vs H Q E h
  wtm_at "z_zero"
theorem len__law_tape {K : PySem.W.Frag} : ∀ vs H Q E, sp__law_tape K vs H Q E → vs.length = 2 := by
  intro vs H Q E h
  wtm_at "z_len"
theorem zero__law_tape {K : PySem.W.Frag} : ∀ vs H Q E, sp__law_tape K vs H Q E → sp__law_tape K vs H Q (fun _ _ _ => False) := by
  intro vs H Q E h
  wtm_at "z_zero"
theorem len__law_draw {K : PySem.W.Frag} : ∀ vs H Q E, sp__law_draw K vs H Q E → vs.length = 2 := by
  intro vs H Q E h
  wtm_at "z_len"
theorem zero__law_draw {K : PySem.W.Frag} : ∀ vs H Q E, sp__law_draw K vs H Q E → sp__law_draw K vs H Q (fun _ _ _ => False) := by
  intro vs H Q E h
  wtm_at "z_zero"
theorem len_Disk_read {K : PySem.W.Frag} : ∀ vs H Q E, sp_Disk_read K vs H Q E → vs.length = 2 := by
  intro vs H Q E h
  wtm_at "z_len"
theorem len_Disk_write {K : PySem.W.Frag} : ∀ vs H Q E, sp_Disk_write K vs H Q E → vs.length = 3 := by
  intro vs H Q E h
  wtm_at "z_len"
theorem len__law_block {K : PySem.W.Frag} : ∀ vs H Q E, sp__law_block K vs H Q E → vs.length = 1 := by
  intro vs H Q E h
  wtm_at "z_len"
theorem zero__law_block {K : PySem.W.Frag} : ∀ vs H Q E, sp__law_block K vs H Q E → sp__law_block K vs H Q (fun _ _ _ => False) := by
  intro vs H Q E h
  wtm_at "z_zero"
theorem len_send_home {K : PySem.W.Frag} : ∀ vs H Q E, sp_send_home K vs H Q E → vs.length = 2 := by
  intro vs H Q E h
  wtm_at "z_len"
theorem len_mark {K : PySem.W.Frag} : ∀ vs H Q E, sp_mark K vs H Q E → vs.length = 2 := by
  intro vs H Q E h
  wtm_at "z_len"
theorem len__law_changes {K : PySem.W.Frag} : ∀ vs H Q E, sp__law_changes K vs H Q E → vs.length = 2 := by
  intro vs H Q E h
  wtm_at "z_len"
theorem zero__law_changes {K : PySem.W.Frag} : ∀ vs H Q E, sp__law_changes K vs H Q E → sp__law_changes K vs H Q (fun _ _ _ => False) := by
  intro vs H Q E h
  wtm_at "z_zero"
theorem len__law_lists_right {K : PySem.W.Frag} : ∀ vs H Q E, sp__law_lists_right K vs H Q E → vs.length = 3 := by
  intro vs H Q E h
  wtm_at "z_len"
theorem zero__law_lists_right {K : PySem.W.Frag} : ∀ vs H Q E, sp__law_lists_right K vs H Q E → sp__law_lists_right K vs H Q (fun _ _ _ => False) := by
  intro vs H Q E h
  wtm_at "z_zero"
theorem len_commit {K : PySem.W.Frag} : ∀ vs H Q E, sp_commit K vs H Q E → vs.length = 2 := by
  intro vs H Q E h
  wtm_at "z_len"
theorem len_recover {K : PySem.W.Frag} : ∀ vs H Q E, sp_recover K vs H Q E → vs.length = 1 := by
  intro vs H Q E h
  wtm_at "z_len"
theorem len__law_idle_right {K : PySem.W.Frag} : ∀ vs H Q E, sp__law_idle_right K vs H Q E → vs.length = 1 := by
  intro vs H Q E h
  wtm_at "z_len"
theorem zero__law_idle_right {K : PySem.W.Frag} : ∀ vs H Q E, sp__law_idle_right K vs H Q E → sp__law_idle_right K vs H Q (fun _ _ _ => False) := by
  intro vs H Q E h
  wtm_at "z_zero"
theorem len__law_falls_right {K : PySem.W.Frag} : ∀ vs H Q E, sp__law_falls_right K vs H Q E → vs.length = 3 := by
  intro vs H Q E h
  wtm_at "z_len"
theorem zero__law_falls_right {K : PySem.W.Frag} : ∀ vs H Q E, sp__law_falls_right K vs H Q E → sp__law_falls_right K vs H Q (fun _ _ _ => False) := by
  intro vs H Q E h
  wtm_at "z_zero"
theorem len__law_fallen_right {K : PySem.W.Frag} : ∀ vs H Q E, sp__law_fallen_right K vs H Q E → vs.length = 3 := by
  intro vs H Q E h
  wtm_at "z_len"
theorem zero__law_fallen_right {K : PySem.W.Frag} : ∀ vs H Q E, sp__law_fallen_right K vs H Q E → sp__law_fallen_right K vs H Q (fun _ _ _ => False) := by
  intro vs H Q E h
  wtm_at "z_zero"
theorem len_law {K : PySem.W.Frag} : ∀ vs H Q E, sp_law K vs H Q E → vs.length = 1 := by
  intro vs H Q E h
  wtm_at "z_len"
theorem zero_law {K : PySem.W.Frag} : ∀ vs H Q E, sp_law K vs H Q E → sp_law K vs H Q (fun _ _ _ => False) := by
  intro vs H Q E h
  wtm_at "z_zero"
theorem all_ok {P : Program} {w : World} {K : PySem.W.Frag} {h : Heap} {mg : Str → Option Value} {f : Addr} (X : K.In h) (G : h.Ns mainGlobals mg) (hlw : mg ("law" : Str) = some (.ref f)) (c : He.SaysD hfa hfn K) :
    ∃ fd : FuncData, (∀ (s : Shared) (v : Value), BindsTo s fd ⟨[v], []⟩ [("script", v)]) ∧ ∀ base : Heap, K.In base → base.Ns mainGlobals mg → FnOk P w K mg base (L2.CX P w) 7 f fd ["script"] (sp_law K) := by
  have T : Txt K mg := ⟨He.free_ok X G (c.fact 0 (f := .free "abs") rfl), He.free_ok X G (c.fact 1 (f := .free "bool") rfl), He.free_ok X G (c.fact 2 (f := .free "dict") rfl), He.free_ok X G (c.fact 3 (f := .free "enumerate") rfl), He.free_ok X G (c.fact 4 (f := .free "int") rfl), He.free_ok X G (c.fact 5 (f := .free "isinstance") rfl), He.free_ok X G (c.fact 6 (f := .free "len") rfl), He.free_ok X G (c.fact 7 (f := .free "list") rfl), He.free_ok X G (c.fact 8 (f := .free "max") rfl), He.free_ok X G (c.fact 9 (f := .free "min") rfl), He.free_ok X G (c.fact 10 (f := .free "range") rfl), He.free_ok X G (c.fact 11 (f := .free "sorted") rfl), He.cls_ok (c.fact 12 (f := .cls "Disk") rfl), (exc_of X G (c.fact 13 (f := .glo "Fallen") rfl) (c.fact 14 (f := .exc "Fallen") rfl)), (exc_of X G (c.fact 15 (f := .glo "NoBlock") rfl) (c.fact 16 (f := .exc "NoBlock") rfl)), He.int_ok X G (c.fact 17 (f := .int "BLOCK" 16) rfl), He.int_ok X G (c.fact 18 (f := .int "COPIES" 3) rfl), He.int_ok X G (c.fact 19 (f := .int "HOMES" 1) rfl), He.int_ok X G (c.fact 20 (f := .int "MARK" 0) rfl), He.noat_ok (c.fact 21 (f := .noat "Disk" "blocks") rfl), He.noat_ok (c.fact 22 (f := .noat "Disk" "done") rfl), He.noat_ok (c.fact 23 (f := .noat "Disk" "down") rfl), He.noat_ok (c.fact 24 (f := .noat "Disk" "left") rfl), He.exm_ok (c.fact 25 (f := .exm "Fallen" "Fallen" true) rfl)⟩
  obtain ⟨fd0, F0⟩ := c.def_ 20 (d := dd_law) rfl
  have e := hlw.symm.trans (He.glo_ok X G (c.fact 47 (f := .glo "law") rfl))
  cases e
  have b := FunD.bindsA (ps := ["script"]) F0 fun _ _ _ _ _ _ us hl => match us, hl with | [_], _ => rfl
  refine ⟨fd0, fun s v => b s [v] rfl, fun base _ _ => ?_⟩
  obtain ⟨fd_Disk___init__, F_Disk___init__⟩ := c.def_ 0 (d := dd_Disk___init__) rfl
  obtain ⟨fd_Disk_look, F_Disk_look⟩ := c.def_ 1 (d := dd_Disk_look) rfl
  obtain ⟨fd_Disk_writes, F_Disk_writes⟩ := c.def_ 2 (d := dd_Disk_writes) rfl
  obtain ⟨fd_Disk_fall, F_Disk_fall⟩ := c.def_ 3 (d := dd_Disk_fall) rfl
  obtain ⟨fd_Disk_rise, F_Disk_rise⟩ := c.def_ 4 (d := dd_Disk_rise) rfl
  obtain ⟨fd_Disk_image, F_Disk_image⟩ := c.def_ 5 (d := dd_Disk_image) rfl
  obtain ⟨fd__law_tape, F__law_tape⟩ := c.def_ 6 (d := dd__law_tape) rfl
  obtain ⟨fd__law_draw, F__law_draw⟩ := c.def_ 7 (d := dd__law_draw) rfl
  obtain ⟨fd_Disk_read, F_Disk_read⟩ := c.def_ 8 (d := dd_Disk_read) rfl
  obtain ⟨fd_Disk_write, F_Disk_write⟩ := c.def_ 9 (d := dd_Disk_write) rfl
  obtain ⟨fd__law_block, F__law_block⟩ := c.def_ 10 (d := dd__law_block) rfl
  obtain ⟨fd_send_home, F_send_home⟩ := c.def_ 11 (d := dd_send_home) rfl
  obtain ⟨fd_mark, F_mark⟩ := c.def_ 12 (d := dd_mark) rfl
  obtain ⟨fd__law_changes, F__law_changes⟩ := c.def_ 13 (d := dd__law_changes) rfl
  obtain ⟨fd__law_lists_right, F__law_lists_right⟩ := c.def_ 14 (d := dd__law_lists_right) rfl
  obtain ⟨fd_commit, F_commit⟩ := c.def_ 15 (d := dd_commit) rfl
  obtain ⟨fd_recover, F_recover⟩ := c.def_ 16 (d := dd_recover) rfl
  obtain ⟨fd__law_idle_right, F__law_idle_right⟩ := c.def_ 17 (d := dd__law_idle_right) rfl
  obtain ⟨fd__law_falls_right, F__law_falls_right⟩ := c.def_ 18 (d := dd__law_falls_right) rfl
  obtain ⟨fd__law_fallen_right, F__law_fallen_right⟩ := c.def_ 19 (d := dd__law_fallen_right) rfl
  obtain ⟨fd_law, F_law⟩ := c.def_ 20 (d := dd_law) rfl
  have O_Disk___init__ := ok_Disk___init__ (P := P) (w := w) (base := base) F_Disk___init__ T  len_Disk___init__ (fun _ _ _ _ => pure_Disk___init__)
  have B_Disk___init__ := FunD.bindsN (ps := ["self", "many"]) F_Disk___init__ fun _ _ _ _ _ _ us hl => match us, hl with | [_, _], _ => rfl
  have A_Disk___init__ : MkAt P w K mg base (L2.CX P w) 1 "Disk" (c_Disk K) (sp_Disk___init__ K) := ⟨_, _, _, He.glo_ok X G (c.fact 26 (f := .glo "Disk") rfl), He.mkr_ok (c.fact 27 (f := .mkr "Disk") rfl), B_Disk___init__, O_Disk___init__⟩
  have D_Disk___init__ := A_Disk___init__.to0 (sp' := sp_Disk___init__ K) zero_Disk___init__
  have O_Disk_look := ok_Disk_look (P := P) (w := w) (base := base) F_Disk_look T  len_Disk_look (fun _ _ _ _ => pure_Disk_look)
  have B_Disk_look := FunD.bindsN (ps := ["self", "n"]) F_Disk_look fun _ _ _ _ _ _ us hl => match us, hl with | [_, _], _ => rfl
  have A_Disk_look : MtAt P w K mg base (L2.CX P w) 1 (c_Disk K) "look" (sp_Disk_look K) := ⟨_, _, _, He.cls_ok (c.fact 12 (f := .cls "Disk") rfl), He.meth_ok (c.fact 28 (f := .meth "Disk" "look") rfl), B_Disk_look, O_Disk_look⟩
  have D_Disk_look := A_Disk_look
  have O_Disk_writes := ok_Disk_writes (P := P) (w := w) (base := base) F_Disk_writes T  len_Disk_writes (fun _ _ _ _ => pure_Disk_writes)
  have B_Disk_writes := FunD.bindsN (ps := ["self"]) F_Disk_writes fun _ _ _ _ _ _ us hl => match us, hl with | [_], _ => rfl
  have A_Disk_writes : MtAt P w K mg base (L2.CX P w) 1 (c_Disk K) "writes" (sp_Disk_writes K) := ⟨_, _, _, He.cls_ok (c.fact 12 (f := .cls "Disk") rfl), He.meth_ok (c.fact 29 (f := .meth "Disk" "writes") rfl), B_Disk_writes, O_Disk_writes⟩
  have D_Disk_writes := A_Disk_writes.to0 (sp' := sp_Disk_writes K) zero_Disk_writes
  have O_Disk_fall := ok_Disk_fall (P := P) (w := w) (base := base) F_Disk_fall T  len_Disk_fall (fun _ _ _ _ => pure_Disk_fall)
  have B_Disk_fall := FunD.bindsN (ps := ["self", "after"]) F_Disk_fall fun _ _ _ _ _ _ us hl => match us, hl with | [_, _], _ => rfl
  have A_Disk_fall : MtAt P w K mg base (L2.CX P w) 1 (c_Disk K) "fall" (sp_Disk_fall K) := ⟨_, _, _, He.cls_ok (c.fact 12 (f := .cls "Disk") rfl), He.meth_ok (c.fact 30 (f := .meth "Disk" "fall") rfl), B_Disk_fall, O_Disk_fall⟩
  have D_Disk_fall := A_Disk_fall.to0 (sp' := sp_Disk_fall K) zero_Disk_fall
  have O_Disk_rise := ok_Disk_rise (P := P) (w := w) (base := base) F_Disk_rise T  len_Disk_rise (fun _ _ _ _ => pure_Disk_rise)
  have B_Disk_rise := FunD.bindsN (ps := ["self"]) F_Disk_rise fun _ _ _ _ _ _ us hl => match us, hl with | [_], _ => rfl
  have A_Disk_rise : MtAt P w K mg base (L2.CX P w) 1 (c_Disk K) "rise" (sp_Disk_rise K) := ⟨_, _, _, He.cls_ok (c.fact 12 (f := .cls "Disk") rfl), He.meth_ok (c.fact 31 (f := .meth "Disk" "rise") rfl), B_Disk_rise, O_Disk_rise⟩
  have D_Disk_rise := A_Disk_rise.to0 (sp' := sp_Disk_rise K) zero_Disk_rise
  have O_Disk_image := ok_Disk_image (P := P) (w := w) (base := base) F_Disk_image T  len_Disk_image (fun _ _ _ _ => pure_Disk_image)
  have B_Disk_image := FunD.bindsN (ps := ["self"]) F_Disk_image fun _ _ _ _ _ _ us hl => match us, hl with | [_], _ => rfl
  have A_Disk_image : MtAt P w K mg base (L2.CX P w) 1 (c_Disk K) "image" (sp_Disk_image K) := ⟨_, _, _, He.cls_ok (c.fact 12 (f := .cls "Disk") rfl), He.meth_ok (c.fact 32 (f := .meth "Disk" "image") rfl), B_Disk_image, O_Disk_image⟩
  have D_Disk_image := A_Disk_image.to0 (sp' := sp_Disk_image K) zero_Disk_image
  have O__law_tape := ok__law_tape (P := P) (w := w) (base := base) F__law_tape T  len__law_tape (fun _ _ _ _ => pure__law_tape)
  have B__law_tape := FunD.bindsN (ps := ["script", "k"]) F__law_tape fun _ _ _ _ _ _ us hl => match us, hl with | [_, _], _ => rfl
  have A__law_tape : FnAt P w K mg base (L2.CX P w) 1 "_law_tape" (sp__law_tape K) := ⟨_, _, _, He.glo_ok X G (c.fact 33 (f := .glo "_law_tape") rfl), F__law_tape.kp, B__law_tape, O__law_tape⟩
  have D__law_tape := A__law_tape.to0 (sp' := sp__law_tape K) zero__law_tape
  have O__law_draw := ok__law_draw (P := P) (w := w) (base := base) F__law_draw T  len__law_draw (fun _ _ _ _ => pure__law_draw)
  have B__law_draw := FunD.bindsN (ps := ["tape", "many"]) F__law_draw fun _ _ _ _ _ _ us hl => match us, hl with | [_, _], _ => rfl
  have A__law_draw : FnAt P w K mg base (L2.CX P w) 1 "_law_draw" (sp__law_draw K) := ⟨_, _, _, He.glo_ok X G (c.fact 34 (f := .glo "_law_draw") rfl), F__law_draw.kp, B__law_draw, O__law_draw⟩
  have D__law_draw := A__law_draw.to0 (sp' := sp__law_draw K) zero__law_draw
  have O_Disk_read := ok_Disk_read (P := P) (w := w) (base := base) F_Disk_read T D_Disk_look len_Disk_read (fun _ _ _ _ => pure_Disk_read)
  have B_Disk_read := FunD.bindsN (ps := ["self", "n"]) F_Disk_read fun _ _ _ _ _ _ us hl => match us, hl with | [_, _], _ => rfl
  have A_Disk_read : MtAt P w K mg base (L2.CX P w) 2 (c_Disk K) "read" (sp_Disk_read K) := ⟨_, _, _, He.cls_ok (c.fact 12 (f := .cls "Disk") rfl), He.meth_ok (c.fact 35 (f := .meth "Disk" "read") rfl), B_Disk_read, O_Disk_read⟩
  have D_Disk_read := A_Disk_read
  have O_Disk_write := ok_Disk_write (P := P) (w := w) (base := base) F_Disk_write T D_Disk_look len_Disk_write (fun _ _ _ _ => pure_Disk_write)
  have B_Disk_write := FunD.bindsN (ps := ["self", "n", "numbers"]) F_Disk_write fun _ _ _ _ _ _ us hl => match us, hl with | [_, _, _], _ => rfl
  have A_Disk_write : MtAt P w K mg base (L2.CX P w) 2 (c_Disk K) "write" (sp_Disk_write K) := ⟨_, _, _, He.cls_ok (c.fact 12 (f := .cls "Disk") rfl), He.meth_ok (c.fact 36 (f := .meth "Disk" "write") rfl), B_Disk_write, O_Disk_write⟩
  have D_Disk_write := A_Disk_write
  have O__law_block := ok__law_block (P := P) (w := w) (base := base) F__law_block T D__law_draw len__law_block (fun _ _ _ _ => pure__law_block)
  have B__law_block := FunD.bindsN (ps := ["tape"]) F__law_block fun _ _ _ _ _ _ us hl => match us, hl with | [_], _ => rfl
  have A__law_block : FnAt P w K mg base (L2.CX P w) 2 "_law_block" (sp__law_block K) := ⟨_, _, _, He.glo_ok X G (c.fact 37 (f := .glo "_law_block") rfl), F__law_block.kp, B__law_block, O__law_block⟩
  have D__law_block := A__law_block.to0 (sp' := sp__law_block K) zero__law_block
  have O_send_home := ok_send_home (P := P) (w := w) (base := base) F_send_home T D_Disk_write D_Disk_read len_send_home (fun _ _ _ _ => pure_send_home)
  have B_send_home := FunD.bindsN (ps := ["disk", "homes"]) F_send_home fun _ _ _ _ _ _ us hl => match us, hl with | [_, _], _ => rfl
  have A_send_home : FnAt P w K mg base (L2.CX P w) 3 "send_home" (sp_send_home K) := ⟨_, _, _, He.glo_ok X G (c.fact 38 (f := .glo "send_home") rfl), F_send_home.kp, B_send_home, O_send_home⟩
  have D_send_home := A_send_home
  have O_mark := ok_mark (P := P) (w := w) (base := base) F_mark T D_Disk_write len_mark (fun _ _ _ _ => pure_mark)
  have B_mark := FunD.bindsN (ps := ["disk", "many"]) F_mark fun _ _ _ _ _ _ us hl => match us, hl with | [_, _], _ => rfl
  have A_mark : FnAt P w K mg base (L2.CX P w) 3 "mark" (sp_mark K) := ⟨_, _, _, He.glo_ok X G (c.fact 39 (f := .glo "mark") rfl), F_mark.kp, B_mark, O_mark⟩
  have D_mark := A_mark
  have O__law_changes := ok__law_changes (P := P) (w := w) (base := base) F__law_changes T D__law_draw D__law_block len__law_changes (fun _ _ _ _ => pure__law_changes)
  have B__law_changes := FunD.bindsN (ps := ["tape", "many"]) F__law_changes fun _ _ _ _ _ _ us hl => match us, hl with | [_, _], _ => rfl
  have A__law_changes : FnAt P w K mg base (L2.CX P w) 3 "_law_changes" (sp__law_changes K) := ⟨_, _, _, He.glo_ok X G (c.fact 40 (f := .glo "_law_changes") rfl), F__law_changes.kp, B__law_changes, O__law_changes⟩
  have D__law_changes := A__law_changes.to0 (sp' := sp__law_changes K) zero__law_changes
  have O__law_lists_right := ok__law_lists_right (P := P) (w := w) (base := base) F__law_lists_right T D__law_block D_Disk_image D__law_draw D_Disk_write D_Disk_read len__law_lists_right (fun _ _ _ _ => pure__law_lists_right)
  have B__law_lists_right := FunD.bindsN (ps := ["tape", "disk", "many"]) F__law_lists_right fun _ _ _ _ _ _ us hl => match us, hl with | [_, _, _], _ => rfl
  have A__law_lists_right : FnAt P w K mg base (L2.CX P w) 3 "_law_lists_right" (sp__law_lists_right K) := ⟨_, _, _, He.glo_ok X G (c.fact 41 (f := .glo "_law_lists_right") rfl), F__law_lists_right.kp, B__law_lists_right, O__law_lists_right⟩
  have D__law_lists_right := A__law_lists_right.to0 (sp' := sp__law_lists_right K) zero__law_lists_right
  have O_commit := ok_commit (P := P) (w := w) (base := base) F_commit T D_Disk_write D_mark D_send_home len_commit (fun _ _ _ _ => pure_commit)
  have B_commit := FunD.bindsN (ps := ["disk", "changes"]) F_commit fun _ _ _ _ _ _ us hl => match us, hl with | [_, _], _ => rfl
  have A_commit : FnAt P w K mg base (L2.CX P w) 4 "commit" (sp_commit K) := ⟨_, _, _, He.glo_ok X G (c.fact 42 (f := .glo "commit") rfl), F_commit.kp, B_commit, O_commit⟩
  have D_commit := A_commit
  have O_recover := ok_recover (P := P) (w := w) (base := base) F_recover T D_Disk_read D_send_home D_mark len_recover (fun _ _ _ _ => pure_recover)
  have B_recover := FunD.bindsN (ps := ["disk"]) F_recover fun _ _ _ _ _ _ us hl => match us, hl with | [_], _ => rfl
  have A_recover : FnAt P w K mg base (L2.CX P w) 4 "recover" (sp_recover K) := ⟨_, _, _, He.glo_ok X G (c.fact 43 (f := .glo "recover") rfl), F_recover.kp, B_recover, O_recover⟩
  have D_recover := A_recover
  have O__law_idle_right := ok__law_idle_right (P := P) (w := w) (base := base) F__law_idle_right T D_Disk_image D_Disk_writes D_recover len__law_idle_right (fun _ _ _ _ => pure__law_idle_right)
  have B__law_idle_right := FunD.bindsN (ps := ["disk"]) F__law_idle_right fun _ _ _ _ _ _ us hl => match us, hl with | [_], _ => rfl
  have A__law_idle_right : FnAt P w K mg base (L2.CX P w) 5 "_law_idle_right" (sp__law_idle_right K) := ⟨_, _, _, He.glo_ok X G (c.fact 44 (f := .glo "_law_idle_right") rfl), F__law_idle_right.kp, B__law_idle_right, O__law_idle_right⟩
  have D__law_idle_right := A__law_idle_right.to0 (sp' := sp__law_idle_right K) zero__law_idle_right
  have O__law_falls_right := ok__law_falls_right (P := P) (w := w) (base := base) F__law_falls_right T D__law_draw D_Disk_image D_Disk_writes D_Disk_fall D_recover D_Disk_write D__law_block D_Disk_rise len__law_falls_right (fun _ _ _ _ => pure__law_falls_right T.x_Fallen)
  have B__law_falls_right := FunD.bindsN (ps := ["tape", "disk", "many"]) F__law_falls_right fun _ _ _ _ _ _ us hl => match us, hl with | [_, _, _], _ => rfl
  have A__law_falls_right : FnAt P w K mg base (L2.CX P w) 5 "_law_falls_right" (sp__law_falls_right K) := ⟨_, _, _, He.glo_ok X G (c.fact 45 (f := .glo "_law_falls_right") rfl), F__law_falls_right.kp, B__law_falls_right, O__law_falls_right⟩
  have D__law_falls_right := A__law_falls_right.to0 (sp' := sp__law_falls_right K) zero__law_falls_right
  have O__law_fallen_right := ok__law_fallen_right (P := P) (w := w) (base := base) F__law_fallen_right T D_Disk_image D__law_changes D_Disk_fall D__law_draw D_commit D_Disk_rise D__law_idle_right D_recover len__law_fallen_right (fun _ _ _ _ => pure__law_fallen_right T.x_Fallen)
  have B__law_fallen_right := FunD.bindsN (ps := ["tape", "disk", "many"]) F__law_fallen_right fun _ _ _ _ _ _ us hl => match us, hl with | [_, _, _], _ => rfl
  have A__law_fallen_right : FnAt P w K mg base (L2.CX P w) 6 "_law_fallen_right" (sp__law_fallen_right K) := ⟨_, _, _, He.glo_ok X G (c.fact 46 (f := .glo "_law_fallen_right") rfl), F__law_fallen_right.kp, B__law_fallen_right, O__law_fallen_right⟩
  have D__law_fallen_right := A__law_fallen_right.to0 (sp' := sp__law_fallen_right K) zero__law_fallen_right
  have O_law := ok_law (P := P) (w := w) (base := base) F_law T D__law_tape D__law_draw D_Disk___init__ D__law_idle_right D__law_falls_right D__law_lists_right D_commit D__law_changes D__law_fallen_right len_law (fun _ _ _ _ => pure_law)
  have B_law := FunD.bindsN (ps := ["script"]) F_law fun _ _ _ _ _ _ us hl => match us, hl with | [_], _ => rfl
  have e2 : fd_law = fd0 := by
    obtain ⟨_, _, _, _, _, _, _, _, _, _, _, l1, _⟩ := F_law.ex
    obtain ⟨_, _, _, _, _, _, _, _, _, _, _, l2, _⟩ := F0.ex
    rw [l1] at l2
    simp at l2
    exact l2.2.2.1
  subst e2
  exact O_law
abbrev R : PySem.W.OpenRow := PySem.W.OpenLaw.row PySem.Challenge.rw_ownroom_k07_nothing_to_recover
abbrev hk : PySem.W.Hook := He.hookD 5 hfa hfn
def ob (s : PySem.W.SharedT) : He.AlD := He.obsDG 5 hfa hfn (HandSHeadRun.getT s)
theorem ob_eq (s : PySem.W.SharedT) : ob s = hk.obs s.abs := He.obsDG_eq (HandSHeadRun.getT_eq s)
theorem run (w : World) : HandSHeadRun.RunEq R (PySem.W.view R.prog [24]) hk ob 2000 hloose w := by
  intro os
  kernel_rfl
end S
set_option Elab.async false
set_option linter.all false
open PySem PySem.W PySem.Calls PyProof.Rows
set_option maxRecDepth 100000 in
set_option maxHeartbeats 0 in
theorem PySem.Challenge.cw_ownroom_k07_nothing_to_recover_holds : PySem.Challenge.rw_ownroom_k07_nothing_to_recover.Holds := by
  w_on; o_law
  refine HandSHeadRun.head_any (r := S.R) (q := view S.R.prog [24]) (H := S.hk) (ob := S.ob) (M := 2000) (loose := S.hloose) (d := HandSHeadRun.topDef S.R.prog 24) (kwd := []) S.ob_eq
    (by kernel_rfl) (fun s => by kernel_rfl) S.run (by kernel_rfl) (by kernel_rfl) (by kernel_rfl) (by rfl) (by first | assumption | decide +kernel) (by decide +kernel) ⟨rfl, rfl, rfl, rfl, rfl, by decide +kernel⟩ ?hw ?hc
  case hw => w_witness2
  case hc =>
    refine L2.walk_ofE (l := PySem.Challenge.rw_ownroom_k07_nothing_to_recover) (n := 63) (k := 7) (x := "script") (CX := L2.CX0) rfl (by decide) (by kernel_rfl) ⟨rfl, by decide, by decide⟩ ?F (fun _ _ _ _ z => z)
    intro w mg fa h Y G hmg0
    obtain ⟨K, KX, c⟩ := Y
    have hmg : mg ("law" : PySem.Str) = some (.ref fa) := by
      have e : (HandSHeadRun.topDef S.R.prog 24).name = ("law" : PySem.Str) := by kernel_rfl
      rw [← e]
      exact hmg0
    obtain ⟨fd, hb, hF⟩ := S.all_ok (P := (PySem.Challenge.rw_ownroom_k07_nothing_to_recover).prog) (w := w) KX G hmg c
    exact ⟨K, fd, S.sp_law K, KX, hb, fun H a ns hl hO hS => ⟨a, ns, rfl, hl, (S.At.law hO hS).call (.cons .here .nil) (fun _ _ _ e _ => e) fun _ _ _ _ z => z.elim⟩, fun base b1 b2 => S.FnOk.toZ (hF base b1 b2) S.zero_law⟩
