import PyProof.Rows.All
import Wide.All
import OpenK.AllK
import Wide.FinOn
import HandS.ForMost
import HandS.ForExc
import HandS.DeepEq
import HandS.Deep
import HandS.IsInst
import HandS.Conv
import HandS.ExcOwn
import HandS.TryOnly
import HandS.Defaults
import HandS.Words
import HandS.WordsExc
import HandS.Wide
import HandS.WordsDict
import HandS.SetFor
import HandS.HeadHook2
import HandS.DictTup
import HandS.SetKeys
import PyProof.DictMoreH
import KE.KTupTabMore
import HandS.Walk
import HandS.Head0
import HandS.Head1
import HandS.Head2
import HandS.HeadEnd
import HandS.HeadHook1
import PySem.Challenge.RW_ownroom_k08_last_page_stays_in_a_frame
set_option Elab.async false
set_option linter.all false
set_option maxRecDepth 100000
set_option maxHeartbeats 1000000
namespace S
open PySem PySem.Spec PyProof.Rows L2

/-! ### owned parts of the abstract heap -/
abbrev FP := Addr → Prop
def fixed : HO → Bool
  | .tup _ => true
  | .frz _ (.lst _) => true
  | .own _ => true
  | _ => false
structure HP where
  on : FP → Hp → Prop
  keep : ∀ {F : FP} {H H' : Hp}, on F H → (∀ a o, (F a ∨ fixed o = true) → H a = some o → H' a = some o) → on F H'
def Own (F : FP) (H : Hp) : Prop := ∀ a, F a → ∃ o, H a = some o ∧ fixed o = false
def sep : List HP → FP → Hp → Prop
  | [], _, _ => True
  | P :: L, F, H => ∃ F1 F2 : FP, (∀ a, F1 a → F a) ∧ (∀ a, F2 a → F a) ∧ (∀ a, F1 a → F2 a → False) ∧ P.on F1 H ∧ sep L F2 H
theorem sep.sub : ∀ {L : List HP} {F F' : FP} {H : Hp}, sep L F H → (∀ a, F a → F' a) → sep L F' H
  | [], _, _, _, _, _ => trivial
  | _ :: _, _, _, _, ⟨F1, F2, h1, h2, h3, h4, h5⟩, k => ⟨F1, F2, fun a q => k a (h1 a q), fun a q => k a (h2 a q), h3, h4, h5⟩
theorem sep.keep : ∀ {L : List HP} {F : FP} {H H' : Hp}, sep L F H → (∀ a o, (F a ∨ fixed o = true) → H a = some o → H' a = some o) → sep L F H'
  | [], _, _, _, _, _ => trivial
  | P :: _, _, _, _, ⟨F1, F2, h1, h2, h3, h4, h5⟩, k =>
    ⟨F1, F2, h1, h2, h3, P.keep h4 fun a o q => k a o (q.imp (h1 a) id), h5.keep fun a o q => k a o (q.imp (h2 a) id)⟩
theorem sep.split : ∀ {L M : List HP} {F : FP} {H : Hp}, sep (L ++ M) F H → ∃ F1 F2 : FP, (∀ a, F1 a → F a) ∧ (∀ a, F2 a → F a) ∧ (∀ a, F1 a → F2 a → False) ∧ sep L F1 H ∧ sep M F2 H
  | [], _, F, _, h => ⟨fun _ => False, F, fun _ q => q.elim, fun _ q => q, fun _ q _ => q, trivial, h⟩
  | P :: L, M, F, H, ⟨F1, F2, h1, h2, h3, h4, h5⟩ => by
    obtain ⟨G1, G2, g1, g2, g3, g4, g5⟩ := sep.split (L := L) (M := M) h5
    exact ⟨fun a => F1 a ∨ G1 a, G2, fun a q => q.elim (h1 a) fun q => h2 a (g1 a q), fun a q => h2 a (g2 a q), fun a q r => q.elim (fun q => h3 a q (g2 a r)) fun q => g3 a q r,
      ⟨F1, G1, fun _ => .inl, fun _ => .inr, fun a q r => h3 a q (g1 a r), h4, g4⟩, g5⟩
theorem sep.join : ∀ {L M : List HP} {F1 F2 : FP} {H : Hp}, (∀ a, F1 a → F2 a → False) → sep L F1 H → sep M F2 H → sep (L ++ M) (fun a => F1 a ∨ F2 a) H
  | [], _, _, _, _, _, _, h => h.sub fun _ => .inr
  | P :: L, M, F1, F2, H, d, ⟨G1, G2, h1, h2, h3, h4, h5⟩, k =>
    ⟨G1, fun a => G2 a ∨ F2 a, fun a q => .inl (h1 a q), fun a q => q.imp (h2 a) id, fun a q r => r.elim (h3 a q) fun r => d a (h1 a q) r, h4, sep.join (fun a q r => d a (h2 a q) r) h5 k⟩

/-- P is one of L; L1 the others -/
inductive Sel : HP → List HP → List HP → Prop where
  | here {P : HP} {L : List HP} : Sel P (P :: L) L
  | there {P R : HP} {L L1 : List HP} : Sel P L L1 → Sel P (R :: L) (R :: L1)
/-- Pre are some of L, L1 the others -/
inductive Arr : List HP → List HP → List HP → Prop where
  | nil {L : List HP} : Arr [] L L
  | cons {P : HP} {Pre L L1 L2 : List HP} : Sel P L L1 → Arr Pre L1 L2 → Arr (P :: Pre) L L2
theorem Sel.sep {P : HP} {L L1 : List HP} (s : Sel P L L1) : ∀ {F : FP} {H : Hp}, sep L F H → sep (P :: L1) F H := by
  induction s with
  | here => exact fun h => h
  | there s ih =>
    intro F H h
    obtain ⟨F1, F2, h1, h2, h3, h4, h5⟩ := h
    obtain ⟨G1, G2, g1, g2, g3, g4, g5⟩ := ih h5
    exact ⟨G1, fun a => F1 a ∨ G2 a, fun a q => h2 a (g1 a q), fun a q => q.elim (h1 a) fun q => h2 a (g2 a q), fun a q r => r.elim (fun r => h3 a r (g1 a q)) (g3 a q), g4,
      F1, G2, fun _ => .inl, fun _ => .inr, fun a q r => h3 a q (g2 a r), h4, g5⟩
theorem Arr.sep {Pre L L1 : List HP} (s : Arr Pre L L1) : ∀ {F : FP} {H : Hp}, sep L F H → sep (Pre ++ L1) F H := by
  induction s with
  | nil => exact fun h => h
  | cons s _ ih =>
    intro F H h
    obtain ⟨F1, F2, h1, h2, h3, h4, h5⟩ := s.sep h
    exact ⟨F1, F2, h1, h2, h3, h4, ih h5⟩

/-- from the entry (F0 owned of H0) on: L is owned of H, what was not owned is as it was -/
structure At (F0 : FP) (H0 : Hp) (L : List HP) (H : Hp) : Prop where
  ex : ∃ F : FP, sep L F H ∧ Own F H ∧ (∀ a o, H0 a = some o → ¬ F0 a → H a = some o) ∧ (∀ a, F a → F0 a ∨ H0 a = none)

def pt (a : Addr) (o : HO) : HP := ⟨fun F H => F a ∧ H a = some o, fun h k => ⟨h.1, k _ _ (.inl h.1) h.2⟩⟩
/-- a fixed object: a tuple, the script -/
def fx (a : Addr) (o : HO) : HP := ⟨fun _ H => H a = some o ∧ fixed o = true, fun h k => ⟨k _ _ (.inr h.2) h.1, h.2⟩⟩
abbrev tp (a : Addr) (xs : List V) : HP := fx a (.tup xs)
def HP.exi {α : Type} (P : α → HP) : HP := ⟨fun F H => ∃ x, (P x).on F H, fun ⟨x, h⟩ k => ⟨x, (P x).keep h k⟩⟩
def HP.pur (p : Prop) (P : HP) : HP := ⟨fun F H => p ∧ P.on F H, fun ⟨x, h⟩ k => ⟨x, P.keep h k⟩⟩
def HP.all (L : List HP) : HP := ⟨fun F H => sep L F H, fun h k => h.keep k⟩

section
variable {F0 : FP} {H0 H : Hp} {L L1 M : List HP} {a p : Addr} {o o' : HO} {xs : List V}
theorem At.start {F : FP} (h : sep L F H) (w : Own F H) : At F H L H := ⟨F, h, w, fun _ _ e _ => e, fun _ => .inl⟩
theorem At.arr (h : At F0 H0 L H) (s : Arr M L L1) : At F0 H0 (M ++ L1) H := by
  obtain ⟨F, h1, h2, h3, h4⟩ := h.ex
  exact ⟨F, s.sep h1, h2, h3, h4⟩
theorem At.sel {P : HP} (h : At F0 H0 L H) (s : Sel P L L1) : At F0 H0 (P :: L1) H := by
  obtain ⟨F, h1, h2, h3, h4⟩ := h.ex
  exact ⟨F, s.sep h1, h2, h3, h4⟩
theorem At.drop {P : HP} (h : At F0 H0 (P :: L) H) : At F0 H0 L H := by
  obtain ⟨F, ⟨F1, F2, a1, a2, a3, a4, a5⟩, h2, h3, h4⟩ := h.ex
  exact ⟨F, a5.sub a2, h2, h3, h4⟩
theorem At.nil (h : At F0 H0 L H) : At F0 H0 [] H := by
  obtain ⟨F, h1, h2, h3, h4⟩ := h.ex
  exact ⟨F, trivial, h2, h3, h4⟩
theorem At.exE {α : Type} {P : α → HP} (h : At F0 H0 (HP.exi P :: L) H) : ∃ x, At F0 H0 (P x :: L) H := by
  obtain ⟨F, ⟨F1, F2, a1, a2, a3, ⟨x, a4⟩, a5⟩, h2, h3, h4⟩ := h.ex
  exact ⟨x, F, ⟨F1, F2, a1, a2, a3, a4, a5⟩, h2, h3, h4⟩
theorem At.exI {α : Type} {P : α → HP} (x : α) (h : At F0 H0 (P x :: L) H) : At F0 H0 (HP.exi P :: L) H := by
  obtain ⟨F, ⟨F1, F2, a1, a2, a3, a4, a5⟩, h2, h3, h4⟩ := h.ex
  exact ⟨F, ⟨F1, F2, a1, a2, a3, ⟨x, a4⟩, a5⟩, h2, h3, h4⟩
theorem At.purE {q : Prop} {P : HP} (h : At F0 H0 (HP.pur q P :: L) H) : q ∧ At F0 H0 (P :: L) H := by
  obtain ⟨F, ⟨F1, F2, a1, a2, a3, ⟨x, a4⟩, a5⟩, h2, h3, h4⟩ := h.ex
  exact ⟨x, F, ⟨F1, F2, a1, a2, a3, a4, a5⟩, h2, h3, h4⟩
theorem At.purI {q : Prop} {P : HP} (x : q) (h : At F0 H0 (P :: L) H) : At F0 H0 (HP.pur q P :: L) H := by
  obtain ⟨F, ⟨F1, F2, a1, a2, a3, a4, a5⟩, h2, h3, h4⟩ := h.ex
  exact ⟨F, ⟨F1, F2, a1, a2, a3, ⟨x, a4⟩, a5⟩, h2, h3, h4⟩
theorem At.allE (h : At F0 H0 (HP.all M :: L) H) : At F0 H0 (M ++ L) H := by
  obtain ⟨F, ⟨F1, F2, a1, a2, a3, a4, a5⟩, h2, h3, h4⟩ := h.ex
  exact ⟨F, (sep.join a3 a4 a5).sub fun a q => q.elim (a1 a) (a2 a), h2, h3, h4⟩
theorem At.allI (h : At F0 H0 (M ++ L) H) : At F0 H0 (HP.all M :: L) H := by
  obtain ⟨F, h1, h2, h3, h4⟩ := h.ex
  obtain ⟨F1, F2, a1, a2, a3, a4, a5⟩ := h1.split
  exact ⟨F, ⟨F1, F2, a1, a2, a3, a4, a5⟩, h2, h3, h4⟩
theorem At.conv {P R : HP} (h : At F0 H0 (P :: L) H) (k : ∀ F, P.on F H → R.on F H) : At F0 H0 (R :: L) H := by
  obtain ⟨F, ⟨F1, F2, a1, a2, a3, a4, a5⟩, h2, h3, h4⟩ := h.ex
  exact ⟨F, ⟨F1, F2, a1, a2, a3, k _ a4, a5⟩, h2, h3, h4⟩
/-- what holds of one part -/
theorem At.know {P : HP} (h : At F0 H0 L H) (s : Sel P L L1) {q : Prop} (k : ∀ F, P.on F H → q) : q := by
  obtain ⟨F, ⟨F1, F2, a1, a2, a3, a4, a5⟩, h2, h3, h4⟩ := (h.sel s).ex
  exact k _ a4
theorem At.get (h : At F0 H0 L H) (s : Sel (pt a o) L L1) : H a = some o := h.know s fun _ k => k.2
theorem At.getX (h : At F0 H0 L H) (s : Sel (fx a o) L L1) : H a = some o := h.know s fun _ k => k.1
theorem At.set' (h : At F0 H0 (pt a o :: L) H) (d : fixed o' = false) : At F0 H0 (pt a o' :: L) (upd H a o') := by
  obtain ⟨F, ⟨F1, F2, a1, a2, a3, ⟨a4, a6⟩, a5⟩, h2, h3, h4⟩ := h.ex
  obtain ⟨u, e1, e2⟩ := h2 a (a1 a a4)
  have kk : ∀ b w, (F2 b ∨ fixed w = true) → H b = some w → upd H a o' b = some w := fun b w q e => by
    rw [upd_ne]; exact e
    rintro rfl
    rcases q with q | q
    · exact a3 _ a4 q
    · rw [e1] at e; cases e; rw [q] at e2; cases e2
  refine ⟨F, ⟨F1, F2, a1, a2, a3, ⟨a4, upd_same⟩, a5.keep kk⟩, fun b q => ?_, fun b w e n => ?_, h4⟩
  · by_cases z : b = a
    · subst z; exact ⟨o', upd_same, d⟩
    · rw [upd_ne z]; exact h2 b q
  · have e' := h3 b w e n
    rw [upd_ne]; exact e'
    rintro rfl
    rcases h4 _ (a1 _ a4) with z | z
    · exact n z
    · rw [e] at z; cases z
theorem At.set (h : At F0 H0 L H) (s : Sel (pt a o) L L1) (d : fixed o' = false := by rfl) : At F0 H0 (pt a o' :: L1) (upd H a o') := (h.sel s).set' d
theorem ext_new {h3 : ∀ a o, H0 a = some o → ¬ F0 a → H a = some o} (hp : H p = none) : F0 p ∨ H0 p = none := by
  cases e : H0 p with
  | none => exact .inr rfl
  | some u =>
    by_cases q : F0 p
    · exact .inl q
    · have := h3 p u e q
      rw [hp] at this; cases this
theorem At.new (h : At F0 H0 L H) (hp : H p = none) (d : fixed o = false := by rfl) : At F0 H0 (pt p o :: L) (upd H p o) := by
  obtain ⟨F, h1, h2, h3, h4⟩ := h.ex
  have np : ∀ b w, H b = some w → b ≠ p := fun b w e z => by subst z; rw [hp] at e; cases e
  have kk : ∀ b w, H b = some w → upd H p o b = some w := fun b w e => by rw [upd_ne (np b w e)]; exact e
  have nF : ¬ F p := fun q => by obtain ⟨u, e, _⟩ := h2 p q; rw [hp] at e; cases e
  refine ⟨fun b => b = p ∨ F b, ⟨fun b => b = p, F, fun _ => .inl, fun _ => .inr, fun b q r => nF (q ▸ r), ⟨rfl, upd_same⟩, h1.keep fun b w _ e => kk b w e⟩, fun b q => ?_, fun b w e n => kk b w (h3 b w e n), fun b q => ?_⟩
  · rcases q with rfl | q
    · exact ⟨o, upd_same, d⟩
    · obtain ⟨u, e, z⟩ := h2 b q
      exact ⟨u, kk b u e, z⟩
  · rcases q with rfl | q
    · exact ext_new (h3 := h3) hp
    · exact h4 b q
theorem At.newX (h : At F0 H0 L H) (hp : H p = none) (d : fixed o = true := by rfl) : At F0 H0 (fx p o :: L) (upd H p o) := by
  obtain ⟨F, h1, h2, h3, h4⟩ := h.ex
  have np : ∀ b w, H b = some w → b ≠ p := fun b w e z => by subst z; rw [hp] at e; cases e
  have kk : ∀ b w, H b = some w → upd H p o b = some w := fun b w e => by rw [upd_ne (np b w e)]; exact e
  refine ⟨F, ⟨fun _ => False, F, fun _ q => q.elim, fun _ q => q, fun _ q _ => q, ⟨upd_same, d⟩, h1.keep fun b w _ e => kk b w e⟩, fun b q => ?_, fun b w e n => kk b w (h3 b w e n), h4⟩
  obtain ⟨u, e, z⟩ := h2 b q
  exact ⟨u, kk b u e, z⟩
/-- an object that is not looked at any more -/
theorem At.other (h : At F0 H0 L H) (hp : H p = none) (d : fixed o = true) : At F0 H0 L (upd H p o) := (h.newX hp d).drop
/-- a fixed object may be told more than once -/
theorem At.dup (h : At F0 H0 L H) (e : H a = some o) (d : fixed o = true) : At F0 H0 (fx a o :: L) H := by
  obtain ⟨F, h1, h2, h3, h4⟩ := h.ex
  exact ⟨F, ⟨fun _ => False, F, fun _ q => q.elim, fun _ q => q, fun _ q _ => q, ⟨e, d⟩, h1⟩, h2, h3, h4⟩
theorem At.swapN {a' : Addr} {Q : Prop} (h : At F0 H0 (pt a o :: pt a' o' :: L) H) : a ≠ a' := by
  obtain ⟨F, ⟨F1, F2, a1, a2, a3, ⟨a4, _⟩, G1, G2, b1, b2, b3, ⟨b4, _⟩, b5⟩, h2, h3, h4⟩ := h.ex
  rintro rfl
  exact a3 _ a4 (b1 _ b4)
end

/-! ### what a def promises, by owned parts -/
/-- Pre is owned; R: the answer and what is owned behind; RE: an exception's class, its own dict and what is owned -/
def Tri (Pre : List HP) (R : V → List HP → Prop) (RE : Value → Option Addr → List HP → Prop) (H : Hp) (Q : VK) (E : XK) : Prop :=
  ∃ F : FP, sep Pre F H ∧ Own F H ∧ (∀ v L' H', R v L' → At F H L' H' → Q v H') ∧ (∀ c d L' H', RE c d L' → At F H L' H' → E c d H')
section
variable {F0 : FP} {H0 H : Hp} {Pre L L1 : List HP} {R : V → List HP → Prop} {RE : Value → Option Addr → List HP → Prop} {Q : VK} {E : XK}
theorem At.frame {F : FP} {F1 F2 : FP} {L' : List HP} {H' : Hp} (hd : ∀ a, F1 a → F2 a → False) (hL : sep L F2 H) (w : Own F H) (f1 : ∀ a, F1 a → F a) (f2 : ∀ a, F2 a → F a) (h3 : ∀ a o, H0 a = some o → ¬ F0 a → H a = some o) (h4 : ∀ a, F a → F0 a ∨ H0 a = none)
    (q : At F1 H L' H') : At F0 H0 (L' ++ L) H' := by
  obtain ⟨G, g1, g2, g3, g4⟩ := q.ex
  have k : ∀ a o, (F2 a ∨ fixed o = true) → H a = some o → H' a = some o := fun a o z e => g3 a o e fun n => by
    rcases z with z | z
    · exact hd a n z
    · obtain ⟨u, e1, e2⟩ := w a (f1 a n)
      rw [e] at e1; cases e1; rw [z] at e2; cases e2
  have dd : ∀ a, G a → F2 a → False := fun a z1 z2 => by
    rcases g4 a z1 with z | z
    · exact hd a z z2
    · obtain ⟨u, e1, _⟩ := w a (f2 a z2)
      rw [z] at e1; cases e1
  refine ⟨fun a => G a ∨ F2 a, sep.join dd g1 (hL.keep k), fun a z => ?_, fun a o e n => g3 a o (h3 a o e n) fun z => ?_, fun a z => ?_⟩
  · rcases z with z | z
    · exact g2 a z
    · obtain ⟨u, e1, e2⟩ := w a (f2 a z)
      exact ⟨u, k a u (.inl z) e1, e2⟩
  · rcases h4 a (f1 a z) with z | z
    · exact n z
    · rw [e] at z; cases z
  · rcases z with z | z
    · rcases g4 a z with z | z
      · exact h4 a (f1 a z)
      · exact ext_new (h3 := h3) z
    · exact h4 a (f2 a z)
/-- a call whose promise is a Tri -/
theorem At.call (h : At F0 H0 L H) (s : Arr Pre L L1) (q : ∀ v L' H', R v L' → At F0 H0 (L' ++ L1) H' → Q v H') (e : ∀ c d L' H', RE c d L' → At F0 H0 (L' ++ L1) H' → E c d H') : Tri Pre R RE H Q E := by
  obtain ⟨F, h1, h2, h3, h4⟩ := (h.arr s).ex
  obtain ⟨F1, F2, a1, a2, a3, a4, a5⟩ := h1.split
  exact ⟨F1, a4, fun a z => h2 a (a1 a z), fun v L' H' r x => q v L' H' r (At.frame a3 a5 h2 a1 a2 h3 h4 x), fun c d L' H' r x => e c d L' H' r (At.frame a3 a5 h2 a1 a2 h3 h4 x)⟩
end
end S
set_option Elab.async false
set_option linter.all false
set_option maxRecDepth 100000
set_option maxHeartbeats 1000000
namespace S
open PySem PySem.Spec L2

/-! ### readings of my own -/
/-- a field of an instance of the class at C -/
def kF (C : Addr) (f : Str) : V → Hp → VK → Prop := fun x H Q => ∃ a dx fs v, x = .ref a ∧ H a = some (.ins C dx fs) ∧ fs.lookup f = some v ∧ Q v H
def tF (C : Addr) (f : Str) (ta : TE) : TE := fun σ H Q => ta σ H fun x H1 => kF C f x H1 Q
def kS (C : Addr) (f : Str) (y : V) : V → Hp → (Hp → Prop) → Prop := fun x H Q => ∃ a dx fs, x = .ref a ∧ H a = some (.ins C dx fs) ∧ fs.length < 1000 ∧ Q (upd H a (.ins C dx (putF f y fs)))
/-- o.f = e -/
def tS (C : Addr) (f : Str) (ta tv : TE) : TS := fun D σ H => tv σ H fun y H1 => ta σ H1 fun x H2 => kS C f y x H2 fun H3 => D.nx σ H3
/-- o.f op= e -/
def tSA (C : Addr) (f : Str) (rd : R2) (ta tv : TE) : TS := fun D σ H => ta σ H fun x H1 => kF C f x H1 fun v H2 => tv σ H2 fun y H3 => rd v y H3 fun z H4 => kS C f z x H4 fun H5 => D.nx σ H5
/-- a call by a promise -/
def tK (sp : Sp) (E : St → XK) (t : TA) : TE := fun σ H Q => t σ H fun vs H1 => sp vs H1 Q (E σ)
def kIns (C : Addr) (m : Str) : V → Hp → Prop := fun x H => ∃ a dx fs, x = .ref a ∧ H a = some (.ins C dx fs) ∧ fs.lookup m = none
/-- a method's -/
def tM (C : Addr) (m : Str) (sp : Sp) (E : St → XK) (ta : TE) (t : TA) : TE := fun σ H Q => ta σ H fun x H1 => kIns C m x H1 ∧ t σ H1 fun vs H2 => sp (x :: vs) H2 Q (E σ)
/-- a class's call -/
def tN (C : Addr) (sp : Sp) (E : St → XK) (t : TA) : TE := fun σ H Q => t σ H fun vs H1 => ∀ x dx, H1 x = none → H1 dx = none → dx ≠ x →
  sp (.ref x :: vs) (upd (upd H1 dx (.own x)) x (.ins C dx [])) (fun v H2 => v = .non ∧ Q (.ref x) H2) (E σ)
def tRaise (C : Addr) (W : WX) : TS := fun _ σ H => W (.ref C) none σ H

/-! ### what stands behind the top -/
structure FnAt (P : Program) (w : World) (K : PySem.W.Frag) (mg : Str → Option Value) (base : Heap) (CX : CXT) (k : Nat) (x : Str) (sp : Sp) : Prop where
  ex : ∃ (f : Addr) (fd : FuncData) (ps : List Str), mg x = some (.ref f) ∧ PySem.W.keepIn K (.ref f) = true ∧ Binds K fd ps [] ∧ FnOk P w K mg base CX k f fd ps sp
structure MtAt (P : Program) (w : World) (K : PySem.W.Frag) (mg : Str → Option Value) (base : Heap) (CX : CXT) (k : Nat) (C : Addr) (m : Str) (sp : Sp) : Prop where
  ex : ∃ (f : Addr) (fd : FuncData) (ps : List Str), Cls K C ∧ Meth K C m f ∧ Binds K fd ps [] ∧ FnOk P w K mg base CX k f fd ps sp
structure MkAt (P : Program) (w : World) (K : PySem.W.Frag) (mg : Str → Option Value) (base : Heap) (CX : CXT) (k : Nat) (x : Str) (C : Addr) (sp : Sp) : Prop where
  ex : ∃ (f : Addr) (fd : FuncData) (ps : List Str), mg x = some (.ref C) ∧ Mk K C f ∧ Binds K fd ps [] ∧ FnOk P w K mg base CX k f fd ps sp

section
variable {P : Program} {w : World} {K : PySem.W.Frag} {mg : Str → Option Value} {base : Heap} {k : Nat} {f : Addr} {fd : FuncData} {ps : List Str} {sp : Sp} {x m : Str} {C : Addr}
theorem FnOk.to0 (F : FnOk P w K mg base (L2.CX P w) k f fd ps sp) (h : ∀ vs H Q E, sp vs H Q E → sp vs H Q (fun _ _ _ => False)) : FnOk P w K mg base CX0 k f fd ps sp := by
  refine ⟨F.len, fun A outer s H args us vs Q E hr he hb hv hs => codeAny_mono (F.run A outer s H args us vs Q (fun _ _ _ => False) hr he hb hv (h _ _ _ _ hs)) fun r s' hq => ?_⟩
  cases r with
  | error e =>
    obtain ⟨a, B, H', cls, d, _, _, _, _, _, _, _, z⟩ := (show L2.CX P w outer H s (fun _ _ _ => False) e s' from hq)
    exact z.elim
  | ok fl =>
    cases fl with
    | ret u => exact hq
    | next => exact hq
    | brk => exact hq
    | cont => exact hq
theorem FnAt.to0 {sp' : Sp} (D : FnAt P w K mg base (L2.CX P w) k x sp) (h : ∀ vs H Q E, sp' vs H Q E → sp vs H Q (fun _ _ _ => False)) : FnAt P w K mg base CX0 k x sp' := by
  obtain ⟨f, fd, ps, h1, h2, h3, F⟩ := D.ex
  refine ⟨f, fd, ps, h1, h2, h3, FnOk.to0 (sp := fun vs H Q _ => sp vs H Q (fun _ _ _ => False)) ⟨fun vs H Q E q => F.len vs H Q _ q, fun A outer s H args us vs Q E hr he hb hv hs => codeAny_mono (F.run A outer s H args us vs Q _ hr he hb hv hs) fun r s' hq => ?_⟩ (fun _ _ _ _ q => q) |>.imp h⟩
  cases r with
  | error e =>
    obtain ⟨a, B, H', cls, d, _, _, _, _, _, _, _, z⟩ := (show L2.CX P w outer H s (fun _ _ _ => False) e s' from hq)
    exact z.elim
  | ok fl => cases fl <;> exact hq
theorem MtAt.to0 {sp' : Sp} (D : MtAt P w K mg base (L2.CX P w) k C m sp) (h : ∀ vs H Q E, sp' vs H Q E → sp vs H Q (fun _ _ _ => False)) : MtAt P w K mg base CX0 k C m sp' := by
  obtain ⟨f, fd, ps, h1, h2, h3, F⟩ := D.ex
  refine ⟨f, fd, ps, h1, h2, h3, FnOk.to0 (sp := fun vs H Q _ => sp vs H Q (fun _ _ _ => False)) ⟨fun vs H Q E q => F.len vs H Q _ q, fun A outer s H args us vs Q E hr he hb hv hs => codeAny_mono (F.run A outer s H args us vs Q _ hr he hb hv hs) fun r s' hq => ?_⟩ (fun _ _ _ _ q => q) |>.imp h⟩
  cases r with
  | error e =>
    obtain ⟨a, B, H', cls, d, _, _, _, _, _, _, _, z⟩ := (show L2.CX P w outer H s (fun _ _ _ => False) e s' from hq)
    exact z.elim
  | ok fl => cases fl <;> exact hq
end

/-! ### how exceptions go -/
/-- a callee of either sort may be called where W is taken -/
structure Pass (CX : CXT) (P : Program) (w : World) : Prop where
  at_ : CX = L2.CX P w ∨ CX = CX0
theorem Pass.takes {CX : CXT} {X : Cx} {W : WX} (p : Pass CX X.prog X.w) (tk : Takes X W) (σ : St) : PassesAt CX X σ (WE W σ) := by
  rcases p.at_ with e | e
  · subst e; exact passAt tk σ
  · subst e; exact fun _ _ _ _ _ _ z => z.elim

section
variable {X : Cx} {CX : CXT} {k : Nat} {sp : Sp} {W : WX} {x m f : Str} {C : Addr} {p pos apos pos' tpos : Pos} {e o a b value : Expr} {es : List Expr} {ta tb te tv : TE} {t : TA}
theorem pe_or2 {t u : TE} (h : PE X e t) (h' : PE X e u) : PE X e (fun σ H Q => t σ H Q ∨ u σ H Q) :=
  ⟨fun pins s σ H Q I q => q.elim (h.run pins s σ H Q I) (h'.run pins s σ H Q I)⟩
theorem pe_fn (D : FnAt X.prog X.w X.K X.mg X.base CX k x sp) (tk : Takes X W) (hr : Room k X.A) (hg : Gl X x) (ha : PA X (e :: es) t) (hdb : (x == ("__debug__" : Str)) = false := by decide)
    (he : starEach (e :: es) X.env = (false, eval e X.env) :: starEach es X.env := by rfl) (hpl : (backTo pos (starEach es X.env)).any (·.1) = false := by rfl) (pp : Pass CX X.prog X.w := by first | exact ⟨.inr rfl⟩ | exact ⟨.inl rfl⟩) :
    PE X (.Call (.Name x p) (e :: es) [] pos) (tK sp (WE W) t) := by
  obtain ⟨f, fd, ps, h1, h2, h3, F⟩ := D.ex
  refine ⟨fun pins s σ H Q I h => ?_⟩
  refine wpAny_Call_Name_kw (ld_glob I hg h1 ?_ hdb)
  refine PySem.W.callWith_K (h₀ := X.base) I.ok.mod.kin h2 (thn (ha.run pos pins s σ H _ I h) fun us s1 ⟨vs, H1, I1, r, q⟩ => ⟨I1.kIn, ?_⟩) he hpl
  exact run_fnS F hr h3 (pp.takes tk σ) I1 r q
theorem pe_fn0 (D : FnAt X.prog X.w X.K X.mg X.base CX k x sp) (tk : Takes X W) (hr : Room k X.A) (hg : Gl X x) (hdb : (x == ("__debug__" : Str)) = false := by decide) (pp : Pass CX X.prog X.w := by first | exact ⟨.inr rfl⟩ | exact ⟨.inl rfl⟩) :
    PE X (.Call (.Name x p) [] [] pos) (tK sp (WE W) tNil) := by
  obtain ⟨f, fd, ps, h1, h2, h3, F⟩ := D.ex
  refine ⟨fun pins s σ H Q I h => ?_⟩
  refine wpAny_Call_Name_kw (ld_glob I hg h1 ?_ hdb)
  exact PySem.W.callWith_K0 I.kIn h2 (run_fnS (us := []) F hr h3 (pp.takes tk σ) I .nil h)
theorem pe_mt {pl : Sem Bool} (D : MtAt X.prog X.w X.K X.mg X.base CX k C m sp) (tk : Takes X W) (hr : Room k X.A) (he : PE X o ta) (ha : PA X (e :: es) t)
    (hst : starEach (e :: es) X.env = (false, eval e X.env) :: starEach es X.env := by rfl) (hpl : (backTo pos (starEach es X.env)).any (·.1) = false := by rfl)
    (ht : eval (.Call (.Attribute o m apos) (e :: es) [] pos) X.env = (do
      let ov ← eval o X.env
      standAt apos.atName
      let (f, first) ← holding [ov] (getMethod ov m pl)
      callWith pos f first (backTo pos (starEach (e :: es) X.env)) (backToKw pos (keywordEach [] X.env))) := by rfl) (pp : Pass CX X.prog X.w := by first | exact ⟨.inr rfl⟩ | exact ⟨.inl rfl⟩) :
    PE X (.Call (.Attribute o m apos) (e :: es) [] pos) (tM C m sp (WE W) ta t) := by
  obtain ⟨f, fd, ps, c, hm, h3, F⟩ := D.ex
  refine ⟨fun pins s σ H Q I h => ?_⟩
  refine PySem.W.methodCall_KW (pl := pl) (thn (he.run pins s σ H _ I h) fun u s1 ⟨x, H1, I1, rx, ⟨a, dx, fs, ex, ea, l⟩, q⟩ => ?_) ht
  subst ex
  obtain rfl : u = Value.ref a := rx
  refine getmeth_ok I1 ea c hm l ?_
  refine PySem.W.callWith_K (first := [.ref a]) (h₀ := X.base) I.ok.mod.kin hm.kp (thn (ha.run pos pins s1 σ H1 _ I1 q) fun us s2 ⟨vs, H2, I2, r, q2⟩ => ⟨I2.kIn, ?_⟩) hst hpl
  exact run_fnS (us := .ref a :: us) (vs := .ref a :: vs) F hr h3 (pp.takes tk σ) I2 (.cons rfl r) q2
theorem pe_mt0 {pl : Sem Bool} (D : MtAt X.prog X.w X.K X.mg X.base CX k C m sp) (tk : Takes X W) (hr : Room k X.A) (he : PE X o ta)
    (ht : eval (.Call (.Attribute o m apos) [] [] pos) X.env = (do
      let ov ← eval o X.env
      standAt apos.atName
      let (f, first) ← holding [ov] (getMethod ov m pl)
      callWith pos f first (backTo pos (starEach [] X.env)) (backToKw pos (keywordEach [] X.env))) := by rfl) (pp : Pass CX X.prog X.w := by first | exact ⟨.inr rfl⟩ | exact ⟨.inl rfl⟩) :
    PE X (.Call (.Attribute o m apos) [] [] pos) (tM C m sp (WE W) ta tNil) := by
  obtain ⟨f, fd, ps, c, hm, h3, F⟩ := D.ex
  refine ⟨fun pins s σ H Q I h => ?_⟩
  refine PySem.W.methodCall_KW (pl := pl) (thn (he.run pins s σ H _ I h) fun u s1 ⟨x, H1, I1, rx, ⟨a, dx, fs, ex, ea, l⟩, q⟩ => ?_) ht
  subst ex
  obtain rfl : u = Value.ref a := rx
  refine getmeth_ok I1 ea c hm l ?_
  exact PySem.W.callWith_K0 (first := [.ref a]) I1.kIn hm.kp (run_fnS (us := [.ref a]) (vs := [.ref a]) F hr h3 (pp.takes tk σ) I1 (.cons rfl .nil) q)
theorem run_mk {fi : Addr} {fd : FuncData} {ps : List Str} {pins : List (Addr × Obj)} {σ : St} {H : Hp} {s : Shared} {Q : VK} {us : List Value} {vs : List V} (M : Mk X.K C fi) (F : FnOk X.prog X.w X.K X.mg X.base CX k fi fd ps sp) (hr : Room (k + 1) X.A) (hb : Binds X.K fd ps [])
    (tk : Takes X W) (I : Inv X pins σ H s) (r : Vals vs us)
    (h : ∀ x dx, H x = none → H dx = none → dx ≠ x → sp (.ref x :: vs) (upd (upd H dx (.own x)) x (.ins C dx [])) (fun v H2 => v = .non ∧ Q (.ref x) H2) (WE W σ)) (pp : Pass CX X.prog X.w) :
    wpAny (model X.prog X.w) X.A (call (.ref C) us) (EP X pins σ Q) X.xe s := by
  have hq := h (s.heap.objs.size + 1) s.heap.objs.size (I.hok.fresh (Nat.le_succ _)) (I.hok.fresh (Nat.le_refl _)) (Nat.ne_of_lt (Nat.lt_succ_self _))
  have I2 := Inv.made (C := C) I
  have r2 : Vals (V.ref (s.heap.objs.size + 1) :: vs) (Value.ref (s.heap.objs.size + 1) :: us) := .cons rfl r
  have hl : (Value.ref (s.heap.objs.size + 1) :: us).length = ps.length := by
    have e := r2.length
    rw [F.len _ _ _ _ hq] at e
    exact e.symm
  have b := hb _ (Value.ref (s.heap.objs.size + 1) :: us) I2.kIn (by rw [List.append_nil]; exact hl)
  rw [List.append_nil] at b
  refine wpAny_call (make_map (f := fi) I.kIn M.makes M.init (beq_iff_eq.mp M.fn) (codeAny_mono (F.run _ X.stack _ _ ⟨Value.ref (s.heap.objs.size + 1) :: us, []⟩ (Value.ref (s.heap.objs.size + 1) :: us) _ _ (WE W σ) (hr.make C us [])
    (I2.env0.make C us []) b r2 hq) fun r s' hq' => ?_))
  cases r with
  | error e => exact pp.takes tk σ pins _ _ e s' I2 hq'
  | ok fl =>
    cases fl with
    | ret u =>
      obtain ⟨v, H', I3, rv, ev, q3⟩ := I2.after hq'
      subst ev
      exact ⟨rv, ⟨V.ref (s.heap.objs.size + 1), H', I3, rfl, q3⟩⟩
    | next => exact False.elim hq'
    | brk => exact False.elim hq'
    | cont => exact False.elim hq'
theorem pe_mk (D : MkAt X.prog X.w X.K X.mg X.base CX k x C sp) (tk : Takes X W) (hr : Room (k + 1) X.A) (hg : Gl X x) (ha : PA X (e :: es) t) (hdb : (x == ("__debug__" : Str)) = false := by decide)
    (he : starEach (e :: es) X.env = (false, eval e X.env) :: starEach es X.env := by rfl) (hpl : (backTo pos (starEach es X.env)).any (·.1) = false := by rfl) (pp : Pass CX X.prog X.w := by first | exact ⟨.inr rfl⟩ | exact ⟨.inl rfl⟩) :
    PE X (.Call (.Name x p) (e :: es) [] pos) (tN C sp (WE W) t) := by
  obtain ⟨f, fd, ps, h1, M, h3, F⟩ := D.ex
  refine ⟨fun pins s σ H Q I h => ?_⟩
  refine wpAny_Call_Name_kw (ld_glob I hg h1 ?_ hdb)
  refine PySem.W.callWith_K (h₀ := X.base) I.ok.mod.kin M.kp (thn (ha.run pos pins s σ H _ I h) fun us s1 ⟨vs, H1, I1, r, q⟩ => ⟨I1.kIn, ?_⟩) he hpl
  exact run_mk M F hr h3 tk I1 r q pp
theorem pe_mk0 (D : MkAt X.prog X.w X.K X.mg X.base CX k x C sp) (tk : Takes X W) (hr : Room (k + 1) X.A) (hg : Gl X x) (hdb : (x == ("__debug__" : Str)) = false := by decide) (pp : Pass CX X.prog X.w := by first | exact ⟨.inr rfl⟩ | exact ⟨.inl rfl⟩) :
    PE X (.Call (.Name x p) [] [] pos) (tN C sp (WE W) tNil) := by
  obtain ⟨f, fd, ps, h1, M, h3, F⟩ := D.ex
  refine ⟨fun pins s σ H Q I h => ?_⟩
  refine wpAny_Call_Name_kw (ld_glob I hg h1 ?_ hdb)
  exact PySem.W.callWith_K0 I.kIn M.kp (run_mk (us := []) M F hr h3 tk I .nil h pp)
theorem pe_f (c : Cls X.K C) (n : NoAttr X.K C f) (he : PE X e ta) (hb : attributeBase e f X.env (eval e X.env) = eval e X.env := by rfl) : PE X (.Attribute e f pos) (tF C f ta) := by
  refine ⟨fun pins s σ H Q I h => ?_⟩
  refine attr_of hb (thn (he.run pins s σ H _ I h) fun u s1 ⟨x, H1, I1, rx, a, dx, fs, v, ex, ea, l, q⟩ => ?_)
  subst ex
  obtain rfl : u = Value.ref a := rx
  exact getattr_ok I1 ea c n l fun u' s2 I2 ru => ⟨v, H1, I2, ru, q⟩
theorem ps_f (c : Cls X.K C) (n : NoAttr X.K C f) (ho : PE X o ta) (hv : PE X value tv) (hs : swapsWith value (some (.Attribute o f pos')) pos.line X.env = pure false := by rfl) : PS X (.Assign [.Attribute o f pos'] value pos) (tS C f ta tv) := by
  refine ⟨fun pins s σ H D I h => ?_⟩
  refine plainObj_wpAny_Assign_Attribute (thn (hv.run pins s σ H _ I h) fun u s1 ⟨y, H1, I1, ry, q⟩ => thn (ho.run pins s1 σ H1 _ I1 q) fun ov s2 ⟨x, H2, I2, rx, a, dx, fs, ex, ea, l, q2⟩ => ?_) hs
  subst ex
  obtain rfl : ov = Value.ref a := rx
  exact setattr_ok I2 ea c n l ry fun s3 I3 => ⟨σ, _, I3, q2⟩
theorem ps_fa {op : Operator} {rd : R2} (c : Cls X.K C) (n : NoAttr X.K C f) (ho : PE X o ta) (hv : PE X value tv) (hop : InOp X op rd) : PS X (.AugAssign (.Attribute o f tpos) op value pos) (tSA C f rd ta tv) := by
  refine ⟨fun pins s σ H D I h => ?_⟩
  refine wpAny_AugAssign_AttributeAny (thn (ho.run pins s σ H _ I h) fun ov s1 ⟨x, H1, I1, rx, a, dx, fs, v, ex, ea, l, q⟩ => ?_)
  subst ex
  obtain rfl : ov = Value.ref a := rx
  refine getattr_ok I1 ea c n l fun u s2 I2 ru => thn (hv.run pins s2 σ H1 _ I2 q) fun w3 s3 ⟨y, H2, I3, ry, q3⟩ => thn (hop pins s3 σ H2 v y u w3 _ I3 ru ry q3) fun w4 s4 ⟨z, H3, I4, rz, a', dx', fs', ex', ea', l', q4⟩ => ?_
  cases ex'
  exact setattr_ok I4 ea' c n l' rz fun s5 I5 => ⟨σ, _, I5, q4⟩
theorem pe_gint {i : Int} (hg : Gl X x) (hm : ∃ t, X.mg x = some (.int i t)) (hd : (x == ("__debug__" : Str)) = false := by decide) : PE X (.Name x pos) (tC (.int i)) := by
  obtain ⟨t, e⟩ := hm
  exact pe_glob hg e ⟨t, rfl⟩ hd
theorem pe_gstr {z : Str} (hg : Gl X x) (hm : ∃ t, X.mg x = some (.str z t)) (hd : (x == ("__debug__" : Str)) = false := by decide) : PE X (.Name x pos) (tC (.str z)) := by
  obtain ⟨t, e⟩ := hm
  exact pe_glob hg e ⟨t, rfl⟩ hd
theorem pe_gref {a : Addr} (hg : Gl X x) (hm : X.mg x = some (.ref a)) (hd : (x == ("__debug__" : Str)) = false := by decide) : PE X (.Name x pos) (tC (.ref a)) := pe_glob hg hm rfl hd
/-- what is asked of an exception class to be raised, caught -/
structure ExC (K : PySem.W.Frag) (mg : Str → Option Value) (x : Str) (C : Addr) (bs : List Value) : Prop where
  g : mg x = some (.ref C)
  ex : PySem.W.excIn K C bs "ValueError.__new__" = true
  kp : PySem.W.keepIn K (.ref C) = true
  sb : PySem.W.subIn K (.ref C) (.type "BaseException") = some true
  ty : PySem.W.typeIn K (.ref C) = some (.type "type")
theorem ps_rz {msg : Str} {j : Nat} {p2 : Pos} {bs : List Value} (ec : ExC X.K X.mg x C bs) (hb : bs = [.type "ValueError", .type "Exception", .type "BaseException", .type "object"]) (hc : X.calm = true) (tk : Takes X W) (hg : Gl X x) (hdb : (x == ("__debug__" : Str)) = false := by decide) :
    PS X (.Raise (some (.Call (.Name x p) [.Constant (.str msg) j p2] [] pos')) none pos) (tRaise C W) := by
  subst hb
  exact ps_raise hc tk (pmk_own PySem.F.excBase_ValueError ec.ex ec.g ec.kp (raises_own ec.sb ec.ty) hg hdb)
end
end S
set_option Elab.async false
set_option linter.all false
set_option maxRecDepth 100000
set_option maxHeartbeats 1000000
namespace S
open PySem PySem.Spec L2

/-! ### readings by values, named -/
def rPlus : R2 := rI0 fun i j => .int (i + j)
def rMinus : R2 := rI0 fun i j => .int (i - j)
def rMul : R2 := rI CMul fun i j => .int (i * j)
def rFdiv : R2 := rI CDivW fun i j => .int (i / j)
def rMod : R2 := rI (fun _ j => 0 < j) fun i j => .int (i % j)
def rPow : R2 := rI CPow fun i j => .int (i ^ j.toNat)
def rShr : R2 := rI (fun _ j => 0 ≤ j) fun i j => .int (i / 2 ^ j.toNat)
def rShl : R2 := rI CPow fun i j => .int (i * 2 ^ j.toNat)
def rBand : R2 := rI0 fun i j => .int (Builtin.bitAnd i j)
def rBxor : R2 := rI0 fun i j => .int (Builtin.bitXor i j)
def rLt : R2 := rI0 fun i j => .bl (decide (i < j))
def rLe : R2 := rI0 fun i j => .bl (decide (i ≤ j))
def rGt : R2 := rI0 fun i j => .bl (decide (j < i))
def rGe : R2 := rI0 fun i j => .bl (decide (j ≤ i))
def rIsN : R2 := fun x y H Q => y = .non ∧ Q (.bl (decide (x = .non))) H
def rNotN : R2 := fun x y H Q => y = .non ∧ Q (.bl (!decide (x = .non))) H
def rNeg : V → Hp → VK → Prop := rU fun i => .int (-i)
def rAddS : R2 := fun x y H Q => ∃ i j, x = .str i ∧ y = .str j ∧ i.length + j.length ≤ sizeLine ∧ Q (.str (i ++ j)) H
def rAbs : List V → Hp → VK → Prop := fun xs H Q => ∃ i, xs = [.int i] ∧ Q (.int (if i < 0 then -i else i)) H
def rMin2 : List V → Hp → VK → Prop := fun xs H Q => ∃ i j, xs = [.int i, .int j] ∧ Q (.int (if j < i then j else i)) H
def rMax2 : List V → Hp → VK → Prop := fun xs H Q => ∃ i j, xs = [.int i, .int j] ∧ Q (.int (if j > i then j else i)) H
def rInt1 : List V → Hp → VK → Prop := fun xs H Q => (∃ i, xs = [.int i] ∧ Q (.int i) H) ∨ ∃ k, xs = [.bl k] ∧ Q (.int (if k then 1 else 0)) H
def rListOf (K : PySem.W.Frag) : List V → Hp → VK → Prop := fun xs H Q => ∃ p ys, xs = [.ref p] ∧ (SqL K H p ys ∨ SqT K H p ys) ∧ ∀ l, H l = none → Q (.ref l) (upd H l (.lst ys))
def rDictP (K : PySem.W.Frag) : List V → Hp → VK → Prop := fun xs H Q => ∃ (a : Addr) (ps : List Addr) (kvs : List (Key × V)), xs = [.ref a] ∧ SqL K H a (ps.map V.ref) ∧ PySem.Paired (fun p kv => SqT K H p [kV kv.1, kv.2]) ps kvs ∧
    ∀ p, H p = none → Q (.ref p) (upd H p (.dK (mergeK [] kvs)))
def rLenD : List V → Hp → VK → Prop := fun xs H Q => ∃ a kvs, xs = [V.ref a] ∧ H a = some (.dK kvs) ∧ Q (.int kvs.length) H
def rSortedDI : List V → Hp → VK → Prop := fun xs H Q => ∃ (a : Addr) (kvs : List (Key × V)) (ks : List Int), xs = [.ref a] ∧ Rd H a (.dK kvs) ∧ kvs.map (·.1) = ks.map Sum.inl ∧ ks.length < 64 ∧
    ∀ (ys : List Int) (p : Addr), ys.Perm ks → ys.Pairwise (· ≤ ·) → H p = none → Q (.ref p) (upd H p (.lst (ys.map V.int)))
def tE2 (t u : TE) : TE := fun σ H Q => t σ H Q ∨ u σ H Q
def tTry (K : PySem.W.Frag) (c : Value) (ts : Addr → Value → Option Addr → TS) (tb : WX → TS) (W : WX) : TS := fun D σ H => tb (wOnly K c ts W D) D σ H
def WF : WX := fun _ _ _ _ => False
def WD (E : XK) : WX := fun c d _ H => E c d H
theorem hu64 {A : Around} {k : Nat} (hr : Room k A) : A.units + 64 < cLine := hr.units
abbrev FnP (K : PySem.W.Frag) (nm qn : Str) (st : Stmt) (f : Addr) (fd : FuncData) : Prop := FunD K nm qn (defArgs st) (defBody st) (defScope st) [] [] f fd

/-! ### steps -/
section
variable {K : PySem.W.Frag} {F0 : FP} {H0 H : Hp} {L L1 : List HP} {D : Ends} {σ : L2.St} {Q : VK} {W : WX} {A B : Prop}
-- statements
theorem s_seq {t u : TS} (q : t ⟨u D, D.rt, D.bk, D.ct⟩ σ H) : tSeq t u D σ H := q
theorem s_asg {te : TE} {g : TG} (q : te σ H fun x H1 => g x σ H1 D.nx) : tAsg te g D σ H := q
theorem s_drop {te : TE} (q : te σ H fun _ H1 => D.nx σ H1) : tDrop te D σ H := q
theorem s_ret {te : TE} (q : te σ H D.rt) : tRet te D σ H := q
theorem s_retN (q : D.rt .non H) : tRetN D σ H := q
theorem s_ifS {c : TT} {t u : TS} (q : c σ H fun b H1 => if b = true then t D σ H1 else u D σ H1) : tIfS c t u D σ H := q
theorem s_next (q : D.nx σ H) : tNext D σ H := q
theorem s_break (q : D.bk σ H) : tBreak D σ H := q
theorem s_cont (q : D.ct σ H) : tCont D σ H := q
theorem s_raise {C : Addr} (q : W (.ref C) none σ H) : tRaise C W D σ H := q
theorem s_wd {E : XK} {c : Value} {d : Option Addr} (q : E c d H) : WD E c d σ H := q
theorem s_we {c : Value} {d : Option Addr} (q : W c d σ H) : WE W σ c d H := q
theorem s_par {i j : Nat} {ta : TA} (q : ta σ H fun vs H1 => ∃ v w, vs = [v, w] ∧ D.nx ((σ.set i (some v)).set j (some w)) H1) : tPar i j ta D σ H := q
theorem s_par2 {i j : Nat} {v w : V} {P : L2.St → Prop} (q : P ((σ.set i (some v)).set j (some w))) : ∃ v' w', [v, w] = [v', w'] ∧ P ((σ.set i (some v')).set j (some w')) := ⟨v, w, rfl, q⟩
-- ends
theorem s_nx {n b c : L2.St → Hp → Prop} {r : VK} (q : n σ H) : Ends.nx ⟨n, r, b, c⟩ σ H := q
theorem s_rt {n b c : L2.St → Hp → Prop} {r : VK} {v : V} (q : r v H) : Ends.rt ⟨n, r, b, c⟩ v H := q
theorem s_bk {n b c : L2.St → Hp → Prop} {r : VK} (q : b σ H) : Ends.bk ⟨n, r, b, c⟩ σ H := q
theorem s_ct {n b c : L2.St → Hp → Prop} {r : VK} (q : c σ H) : Ends.ct ⟨n, r, b, c⟩ σ H := q
-- targets
theorem s_gname {i : Nat} {v : V} {P : L2.St → Hp → Prop} (q : P (σ.set i (some v)) H) : gName i v σ H P := q
theorem s_gnil {P : L2.St → Hp → Prop} (q : P σ H) : gNil [] σ H P := ⟨rfl, q⟩
theorem s_gcons {g : TG} {gs : TGs} {v : V} {r : List V} {P : L2.St → Hp → Prop} (q : g v σ H fun σ' H' => gs r σ' H' P) : gCons g gs (v :: r) σ H P := ⟨v, r, rfl, q⟩
theorem s_gtup {n : Nat} {gs : TGs} {a : Addr} {xs : List V} {P : L2.St → Hp → Prop} (e : SqT K H a xs) (l : xs.length = n) (q : gs xs σ H P) : gTup K n gs (.ref a) σ H P := ⟨a, xs, rfl, e, l, q⟩
theorem s_gsub {to ti : TE} {t : TSet} {v : V} {P : L2.St → Hp → Prop} (q : to σ H fun o H1 => ti σ H1 fun i H2 => t o i v H2 fun H3 => P σ H3) : gSub to ti t v σ H P := q
-- expressions
theorem s_var {i : Nat} {v : V} (q : Q v H) (e : σ[i]? = some (some v) := by rfl) : tVar i σ H Q := ⟨v, e, q⟩
theorem s_c {v : V} (q : Q v H) : tC v σ H Q := q
theorem s_op {r : R2} {ta tb : TE} (q : ta σ H fun x H1 => tb σ H1 fun y H2 => r x y H2 Q) : tOp r ta tb σ H Q := q
theorem s_un {r : V → Hp → VK → Prop} {ta : TE} (q : ta σ H fun x H1 => r x H1 Q) : tUn r ta σ H Q := q
theorem s_nil {P : List V → Hp → Prop} (q : P [] H) : tNil σ H P := q
theorem s_cons {te : TE} {t : TA} {P : List V → Hp → Prop} (q : te σ H fun x H1 => t σ H1 fun xs H2 => P (x :: xs) H2) : tCons te t σ H P := q
theorem s_cb {r : List V → Hp → VK → Prop} {t : TA} (q : t σ H fun vs H1 => r vs H1 Q) : tCB r t σ H Q := q
theorem s_chain {r r' : R2} {ta tb tc : TE} (q : ta σ H fun x H1 => tb σ H1 fun y H2 => r x y H2 fun z H3 => ∃ k, z = .bl k ∧ (if k = true then tc σ H3 fun w' H4 => r' y w' H4 Q else Q (.bl false) H3)) : tChain r r' ta tb tc σ H Q := q
theorem s_k {spp : Sp} {E : L2.St → XK} {t : TA} (q : t σ H fun vs H1 => spp vs H1 Q (E σ)) : tK spp E t σ H Q := q
theorem s_m {C : Addr} {m : Str} {spp : Sp} {E : L2.St → XK} {ta : TE} {t : TA} (q : ta σ H fun x H1 => kIns C m x H1 ∧ t σ H1 fun vs H2 => spp (x :: vs) H2 Q (E σ)) : tM C m spp E ta t σ H Q := q
theorem s_n {C : Addr} {spp : Sp} {E : L2.St → XK} {t : TA} (q : t σ H fun vs H1 => ∀ x dx, H1 x = none → H1 dx = none → dx ≠ x →
  spp (.ref x :: vs) (upd (upd H1 dx (.own x)) x (.ins C dx [])) (fun v H2 => v = .non ∧ Q (.ref x) H2) (E σ)) : tN C spp E t σ H Q := q
theorem s_f {C : Addr} {f : Str} {ta : TE} (q : ta σ H fun x H1 => kF C f x H1 Q) : tF C f ta σ H Q := q
theorem s_s {C : Addr} {f : Str} {ta tv : TE} (q : tv σ H fun y H1 => ta σ H1 fun x H2 => kS C f y x H2 fun H3 => D.nx σ H3) : tS C f ta tv D σ H := q
theorem s_sa {C : Addr} {f : Str} {rd : R2} {ta tv : TE} (q : ta σ H fun x H1 => kF C f x H1 fun v H2 => tv σ H2 fun y H3 => rd v y H3 fun z H4 => kS C f z x H4 fun H5 => D.nx σ H5) : tSA C f rd ta tv D σ H := q
theorem s_try {c : Value} {ts : Addr → Value → Option Addr → TS} {tb : WX → TS} (q : tb (wOnly K c ts W D) D σ H) : tTry K c ts tb W D σ H := q
theorem s_tup {t : TA} (q : t σ H fun xs H1 => xs.length ≤ sizeLine ∧ ∀ p, H1 p = none → Q (.ref p) (upd H1 p (.tup xs))) : tTup t σ H Q := q
theorem s_lst {t : TA} (q : t σ H fun xs H1 => xs.length ≤ sizeLine ∧ ∀ p, H1 p = none → Q (.ref p) (upd H1 p (.lst xs))) : tLst t σ H Q := q
theorem s_sl {r : V → Option Int → Option Int → Hp → VK → Prop} {te : TE} {tl th : TO} (q : te σ H fun x H1 => tl σ H1 fun l H2 => th σ H2 fun u H3 => r x l u H3 Q) : tSl r te tl th σ H Q := q
theorem s_nopart {P : Option Int → Hp → Prop} (q : P none H) : tNoPart σ H P := q
theorem s_part {t : TE} {P : Option Int → Hp → Prop} (q : t σ H fun x H1 => ∃ i, x = .int i ∧ P (some i) H1) : tPart t σ H P := q
theorem s_exint {i : Int} {P : Int → Prop} (q : P i) : ∃ j, V.int i = .int j ∧ P j := ⟨i, rfl, q⟩
theorem s_exbl {b : Bool} {P : Bool → Prop} (q : P b) : ∃ c, V.bl b = .bl c ∧ P c := ⟨b, rfl, q⟩
theorem s_tif {c : TT} {ta tb : TE} (q : c σ H fun b H1 => if b = true then ta σ H1 Q else tb σ H1 Q) : tIf c ta tb σ H Q := q
-- tests
theorem s_test {t : TE} {P : Bool → Hp → Prop} (q : t σ H fun x H' => ∃ k, x = .bl k ∧ P k H') : tTest t σ H P := q
theorem s_B {t : TE} {P : Bool → Hp → Prop} (q : t σ H fun x H' => ∃ k, x = .bl k ∧ P k H') : tB t σ H P := q
theorem s_and {t u : TT} {P : Bool → Hp → Prop} (q : t σ H fun c H1 => if c = true then u σ H1 P else P false H1) : tAnd t u σ H P := q
theorem s_or {t u : TT} {P : Bool → Hp → Prop} (q : t σ H fun c H1 => if c = true then P true H1 else u σ H1 P) : tOr t u σ H P := q
theorem s_not {t : TT} {P : Bool → Hp → Prop} (q : t σ H fun c H1 => P (!c) H1) : tNot t σ H P := q
theorem s_andV {ta tb : TE} (q : ta σ H fun x H1 => ∃ c, x = .bl c ∧ if c = true then tb σ H1 Q else Q (.bl false) H1) : tAndV ta tb σ H Q := q
theorem s_orV {ta tb : TE} (q : ta σ H fun x H1 => ∃ c, x = .bl c ∧ if c = true then Q (.bl true) H1 else tb σ H1 Q) : tOrV ta tb σ H Q := q
theorem s_notV {ta : TE} (q : ta σ H fun x H1 => ∃ c, x = .bl c ∧ Q (.bl (!c)) H1) : tNotV ta σ H Q := q
theorem s_yes {P : Bool → Hp → Prop} (q : P true H) : tYes σ H P := q
-- branches
theorem s_iftt (q : A) : if true = true then A else B := by simpa using q
theorem s_ifff (q : B) : if false = true then A else B := by simpa using q
theorem s_ifd {p : Prop} [Decidable p] (h1 : p → A) (h2 : ¬ p → B) : if decide p = true then A else B := by
  by_cases h : p
  · simpa [h] using h1 h
  · simpa [h] using h2 h
theorem s_ifnd {p : Prop} [Decidable p] (h1 : ¬ p → A) (h2 : p → B) : if (!decide p) = true then A else B := by
  by_cases h : p
  · simpa [h] using h2 h
  · simpa [h] using h1 h
theorem s_ifb {b : Bool} (h1 : b = true → A) (h2 : b = false → B) : if b = true then A else B := by
  cases b
  · simpa using h2 rfl
  · simpa using h1 rfl
theorem s_ifnb {b : Bool} (h1 : b = false → A) (h2 : b = true → B) : if (!b) = true then A else B := by
  cases b
  · simpa using h1 rfl
  · simpa using h2 rfl
theorem s_ifeqI {i j : Int} (h1 : i = j → A) (h2 : i ≠ j → B) : if decide (V.int i = V.int j) = true then A else B := s_ifd (fun e => h1 (V.int.inj e)) fun n => h2 fun e => n (by rw [e])
theorem s_ifneI {i j : Int} (h1 : i ≠ j → A) (h2 : i = j → B) : if (!decide (V.int i = V.int j)) = true then A else B := s_ifnd (fun n => h1 fun e => n (by rw [e])) fun e => h2 (V.int.inj e)
theorem s_ifeqS {i j : Str} (h1 : i = j → A) (h2 : i ≠ j → B) : if decide (V.str i = V.str j) = true then A else B := s_ifd (fun e => h1 (V.str.inj e)) fun n => h2 fun e => n (by rw [e])
theorem s_ifno {p : Prop} [Decidable p] (h : ¬ p) (q : B) : if decide p = true then A else B := s_ifd (fun e => (h e).elim) fun _ => q
theorem s_ifyes {p : Prop} [Decidable p] (h : p) (q : A) : if decide p = true then A else B := s_ifd (fun _ => q) fun n => (n h).elim
-- ints
theorem s_plus {i j : Int} (q : Q (.int (i + j)) H) : rPlus (.int i) (.int j) H Q := ⟨i, j, rfl, rfl, q⟩
theorem s_radd {i j : Int} (q : Q (.int (i + j)) H) : rAdd (.int i) (.int j) H Q := ⟨i, j, rfl, rfl, q⟩
theorem s_rsub {i j : Int} (q : Q (.int (i - j)) H) : rSub (.int i) (.int j) H Q := ⟨i, j, rfl, rfl, q⟩
theorem s_ipI {f : Int → Int → Int} {i j : Int} (q : Q (.int (f i j)) H) : ipI f (.int i) (.int j) H Q := ⟨i, j, rfl, rfl, q⟩
theorem s_minus {i j : Int} (q : Q (.int (i - j)) H) : rMinus (.int i) (.int j) H Q := ⟨i, j, rfl, rfl, q⟩
theorem s_mul {i j : Int} (c : CMul i j) (q : Q (.int (i * j)) H) : rMul (.int i) (.int j) H Q := ⟨i, j, rfl, rfl, c, q⟩
theorem s_fdiv {i j : Int} (c : CDivW i j) (q : Q (.int (i / j)) H) : rFdiv (.int i) (.int j) H Q := ⟨i, j, rfl, rfl, c, q⟩
theorem s_mod {i j : Int} (c : 0 < j) (q : Q (.int (i % j)) H) : rMod (.int i) (.int j) H Q := ⟨i, j, rfl, rfl, c, q⟩
theorem s_pow {i j : Int} (c : CPow i j) (q : Q (.int (i ^ j.toNat)) H) : rPow (.int i) (.int j) H Q := ⟨i, j, rfl, rfl, c, q⟩
theorem s_lt {i j : Int} (q : Q (.bl (decide (i < j))) H) : rLt (.int i) (.int j) H Q := ⟨i, j, rfl, rfl, q⟩
theorem s_le {i j : Int} (q : Q (.bl (decide (i ≤ j))) H) : rLe (.int i) (.int j) H Q := ⟨i, j, rfl, rfl, q⟩
theorem s_gt {i j : Int} (q : Q (.bl (decide (j < i))) H) : rGt (.int i) (.int j) H Q := ⟨i, j, rfl, rfl, q⟩
theorem s_ge {i j : Int} (q : Q (.bl (decide (j ≤ i))) H) : rGe (.int i) (.int j) H Q := ⟨i, j, rfl, rfl, q⟩
theorem s_eq {x y : V} (c : scal x y = true) (q : Q (.bl (decide (x = y))) H) : rEq x y H Q := ⟨c, q⟩
theorem s_ne {x y : V} (c : scal x y = true) (q : Q (.bl (!decide (x = y))) H) : rNe x y H Q := ⟨c, q⟩
theorem s_isn {x : V} (q : Q (.bl (decide (x = .non))) H) : rIsN x .non H Q := ⟨rfl, q⟩
theorem s_notn {x : V} (q : Q (.bl (!decide (x = .non))) H) : rNotN x .non H Q := ⟨rfl, q⟩
theorem s_neg {i : Int} (q : Q (.int (-i)) H) : rNeg (.int i) H Q := ⟨i, rfl, q⟩
theorem s_abs {i : Int} (q : Q (.int (if i < 0 then -i else i)) H) : rAbs [.int i] H Q := ⟨i, rfl, q⟩
theorem s_min2 {i j : Int} (q : Q (.int (if j < i then j else i)) H) : rMin2 [.int i, .int j] H Q := ⟨i, j, rfl, q⟩
theorem s_max2 {i j : Int} (q : Q (.int (if j > i then j else i)) H) : rMax2 [.int i, .int j] H Q := ⟨i, j, rfl, q⟩
theorem s_int1b {b : Bool} (q : Q (.int (if b then 1 else 0)) H) : rInt1 [.bl b] H Q := .inr ⟨b, rfl, q⟩
theorem s_int1i {i : Int} (q : Q (.int i) H) : rInt1 [.int i] H Q := .inl ⟨i, rfl, q⟩
-- objects
def obj (C a : Addr) (fs : List (Str × V)) : HP := HP.exi fun dx => pt a (.ins C dx fs)
theorem At.ob {C a : Addr} {fs : List (Str × V)} (h : At F0 H0 L H) (s : Sel (obj C a fs) L L1) : ∃ dx, H a = some (.ins C dx fs) := h.know s fun _ ⟨dx, k⟩ => ⟨dx, k.2⟩
theorem s_kF {C a : Addr} {fs : List (Str × V)} {f : Str} {v : V} (h : At F0 H0 L H) (s : Sel (obj C a fs) L L1) (l : fs.lookup f = some v) (q : Q v H) : kF C f (.ref a) H Q := by
  obtain ⟨dx, e⟩ := h.ob s
  exact ⟨a, dx, fs, v, rfl, e, l, q⟩
theorem s_kS {C a : Addr} {fs fs' : List (Str × V)} {f : Str} {v : V} {P : Hp → Prop} (h : At F0 H0 L H) (s : Sel (obj C a fs) L L1) (l : putF f v fs = fs') (z : fs.length < 1000) (q : ∀ H', At F0 H0 (obj C a fs' :: L1) H' → P H') : kS C f v (.ref a) H P := by
  obtain ⟨dx, h1⟩ := (h.sel s).exE
  refine ⟨a, dx, fs, rfl, h1.get .here, z, q _ ?_⟩
  subst l
  exact (h1.set' rfl).exI dx
theorem s_kIns {C a : Addr} {fs : List (Str × V)} {m : Str} (h : At F0 H0 L H) (s : Sel (obj C a fs) L L1) (l : fs.lookup m = none) : kIns C m (.ref a) H := by
  obtain ⟨dx, e⟩ := h.ob s
  exact ⟨a, dx, fs, rfl, e, l⟩
-- new objects
theorem s_new {o : HO} (h : At F0 H0 L H) (q : ∀ p H', At F0 H0 (pt p o :: L) H' → Q (.ref p) H') (d : fixed o = false := by rfl) : ∀ p, H p = none → Q (.ref p) (upd H p o) := fun p hp => q p _ (h.new hp d)
theorem s_newZ {o : HO} {n : Nat} (h : At F0 H0 L H) (z : n ≤ sizeLine) (q : ∀ p H', At F0 H0 (pt p o :: L) H' → Q (.ref p) H') (d : fixed o = false := by rfl) : n ≤ sizeLine ∧ ∀ p, H p = none → Q (.ref p) (upd H p o) := ⟨z, s_new h q d⟩
theorem s_newT {xs : List V} {n : Nat} (h : At F0 H0 L H) (z : n ≤ sizeLine) (q : ∀ p H', At F0 H0 (tp p xs :: L) H' → Q (.ref p) H') : n ≤ sizeLine ∧ ∀ p, H p = none → Q (.ref p) (upd H p (.tup xs)) := ⟨z, fun p hp => q p _ (h.newX hp rfl)⟩
theorem s_newI {C : Addr} {P : Addr → Hp → Prop} (h : At F0 H0 L H) (q : ∀ x H', At F0 H0 (obj C x [] :: L) H' → P x H') : ∀ x dx, H x = none → H dx = none → dx ≠ x → P x (upd (upd H dx (.own x)) x (.ins C dx [])) := fun x dx hx hdx ne => by
  have h1 := h.other hdx (o := .own x) rfl
  have h2 : upd H dx (.own x) x = none := by rw [upd_ne (Ne.symm ne)]; exact hx
  exact q x _ ((h1.new h2 (o := .ins C dx []) rfl).exI dx)
theorem sqL_at {a : Addr} {xs : List V} (h : At F0 H0 L H) (s : Sel (pt a (.lst xs)) L L1) : SqL K H a xs := .of (h.get s)
theorem sqL_fz {a : Addr} {xs : List V} {o : Obj} (h : At F0 H0 L H) (s : Sel (fx a (.frz o (.lst xs))) L L1) : SqL K H a xs := .inl (.inr ⟨o, h.getX s⟩)
theorem sqT_at {a : Addr} {xs : List V} (h : At F0 H0 L H) (s : Sel (tp a xs) L L1) : SqT K H a xs := .of (h.getX s)
theorem s_ixL {a : Addr} {xs : List V} {i : Int} {v : V} (h : SqL K H a xs) (l : atI xs i = some v) (q : Q v H) : rIxL K (.ref a) (.int i) H Q := ⟨a, xs, i, v, rfl, rfl, h, l, q⟩
theorem s_ixT {a : Addr} {xs : List V} {i : Int} {v : V} (h : SqT K H a xs) (l : atI xs i = some v) (q : Q v H) : rIxT K (.ref a) (.int i) H Q := ⟨a, xs, i, v, rfl, rfl, h, l, q⟩
theorem s_setL {a : Addr} {xs : List V} {i : Int} {j : Nat} {v : V} {P : Hp → Prop} (h : At F0 H0 L H) (s : Sel (pt a (.lst xs)) L L1) (l : ixN xs.length i = some j) (q : ∀ H', At F0 H0 (pt a (.lst (xs.set j v)) :: L1) H' → P H') : rSetL (.ref a) (.int i) v H P :=
  ⟨a, xs, i, j, rfl, rfl, h.get s, l, q _ (h.set s)⟩
theorem s_append {a : Addr} {xs : List V} {y : V} (h : At F0 H0 L H) (s : Sel (pt a (.lst xs)) L L1) (z : xs.length < sizeLine) (q : ∀ H', At F0 H0 (pt a (.lst (xs ++ [y])) :: L1) H' → Q .non H') : rAppend (.ref a) [y] H Q :=
  ⟨a, xs, y, rfl, rfl, h.get s, z, q _ (h.set s)⟩
theorem s_reverse {a : Addr} {xs : List V} (h : At F0 H0 L H) (s : Sel (pt a (.lst xs)) L L1) (q : ∀ H', At F0 H0 (pt a (.lst xs.reverse) :: L1) H' → Q .non H') : rReverse (.ref a) [] H Q :=
  ⟨a, xs, rfl, rfl, h.get s, q _ (h.set s)⟩
theorem s_extend {a b : Addr} {xs zs : List V} {L2 : List HP} (h : At F0 H0 L H) (s : Sel (pt a (.lst xs)) L L1) (s2 : Sel (pt b (.lst zs)) L1 L2) (z : xs.length + zs.length ≤ sizeLine) (q : ∀ H', At F0 H0 (pt a (.lst (xs ++ zs)) :: L1) H' → Q .non H') : rExtend (.ref a) [.ref b] H Q :=
  ⟨a, b, xs, zs, rfl, rfl, h.get s, (h.sel s).get (.there s2), z, q _ (h.set s)⟩
theorem s_bm {T : String} {r : V → List V → Hp → VK → Prop} {to : TE} {t : TA} (q : to σ H fun x H1 => tyV K T x H1 ∧ t σ H1 fun xs H2 => r x xs H2 Q) : tBM K T r to t σ H Q := q
theorem s_bm0 {T : String} {r : V → List V → Hp → VK → Prop} {to : TE} (q : to σ H fun x H1 => tyV K T x H1 ∧ r x [] H1 Q) : tBM0 K T r to σ H Q := q
theorem s_tyL {a : Addr} {xs : List V} (h : SqL K H a xs) (q : A) : tyV K "list" (.ref a) H ∧ A := ⟨.inl ⟨rfl, xs, h⟩, q⟩
theorem s_tyS {z : Str} (q : A) : tyV K "str" (.str z) H ∧ A := ⟨rfl, q⟩
theorem s_len {a : Addr} {xs : List V} (h : SqL K H a xs) (q : Q (.int (xs.length : Int)) H) : rLen K [.ref a] H Q := ⟨.ref a, xs.length, rfl, .inl ⟨xs, h, rfl⟩, q⟩
theorem s_lenT {a : Addr} {xs : List V} (h : SqT K H a xs) (q : Q (.int (xs.length : Int)) H) : rLen K [.ref a] H Q := ⟨.ref a, xs.length, rfl, .inr ⟨xs, h, rfl⟩, q⟩
theorem s_lenS {z : Str} (h : z.length ≤ sizeLine) (q : Q (.int (z.length : Int)) H) : rLen K [.str z] H Q := ⟨.str z, z.length, rfl, ⟨h, rfl⟩, q⟩
theorem s_cat {a b : Addr} {xs zs : List V} {L2 : List HP} (h : At F0 H0 L H) (s : Sel (pt a (.lst xs)) L L1) (s2 : Sel (pt b (.lst zs)) L L2) (z : xs.length + zs.length ≤ sizeLine) (q : ∀ p H', At F0 H0 (pt p (.lst (xs ++ zs)) :: L) H' → Q (.ref p) H') : rCat (.ref a) (.ref b) H Q :=
  ⟨a, b, xs, zs, rfl, rfl, h.get s, h.get s2, z, s_new h q⟩
theorem s_rep {a : Addr} {k : Int} {xs : List V} (h : At F0 H0 L H) (s : Sel (pt a (.lst xs)) L L1) (k1 : -(2 ^ 63) ≤ k) (k2 : k < 2 ^ 63) (z : xs.length * k.toNat ≤ sizeLine) (q : ∀ p H', At F0 H0 (pt p (.lst (List.replicate k.toNat xs).flatten) :: L) H' → Q (.ref p) H') : rRep (.ref a) (.int k) H Q :=
  ⟨a, k, xs, rfl, rfl, h.get s, k1, k2, z, s_new h q⟩
theorem s_listOf {a : Addr} {xs : List V} (h : At F0 H0 L H) (s : SqL K H a xs ∨ SqT K H a xs) (q : ∀ p H', At F0 H0 (pt p (.lst xs) :: L) H' → Q (.ref p) H') : rListOf K [.ref a] H Q := ⟨a, xs, rfl, s, s_new h q⟩
theorem s_listD {a : Addr} {kvs : List (Key × V)} (h : At F0 H0 L H) (s : Sel (pt a (.dK kvs)) L L1) (q : ∀ p H', At F0 H0 (pt p (.lst (kvs.map fun kv => kV kv.1)) :: L) H' → Q (.ref p) H') : rListD [.ref a] H Q := ⟨a, kvs, rfl, h.get s, s_new h q⟩
theorem s_slL {a : Addr} {xs : List V} {lo hi : Option Int} (h : At F0 H0 L H) (s : SqL K H a xs) (q : ∀ p H', At F0 H0 (pt p (.lst (cutV xs lo hi)) :: L) H' → Q (.ref p) H') : rSlL K (.ref a) lo hi H Q := ⟨a, xs, rfl, s, s_new h q⟩
theorem s_dnewK (h : At F0 H0 L H) (q : ∀ p H', At F0 H0 (pt p (.dK []) :: L) H' → Q (.ref p) H') : tDNewK σ H Q := s_new h q
theorem s_dnewT (h : At F0 H0 L H) (q : ∀ p H', At F0 H0 (pt p (.dT []) :: L) H' → Q (.ref p) H') : tDNewT σ H Q := s_new h q
theorem s_dput {td ty tv : TE} (q : tv σ H fun v H1 => td σ H1 fun x H2 => ty σ H2 fun y H3 => ∃ a H4, x = .ref a ∧ DPut H3 a y v H4 ∧ D.nx σ H4) : sDPut td ty tv D σ H := q
theorem s_dputK {a : Addr} {kvs : List (Key × V)} {k : Key} {y v : V} {P : Hp → Prop} (h : At F0 H0 L H) (s : Sel (pt a (.dK kvs)) L L1) (ek : kV k = y) (z : kvs.length < sizeLine) (q : ∀ H', At F0 H0 (pt a (.dK (putK kvs k v)) :: L1) H' → P H') : ∃ a' H4, V.ref a = .ref a' ∧ DPut H a' y v H4 ∧ P H4 :=
  ⟨a, _, rfl, ek ▸ DPut.k (h.get s) z, q _ (h.set s)⟩
theorem s_dget {td ty : TE} (q : td σ H fun x H1 => ty σ H1 fun y H2 => ∃ a v, x = .ref a ∧ DGet H2 a y (some v) ∧ Q v H2) : tDGet td ty σ H Q := q
theorem s_dgetK {a : Addr} {kvs : List (Key × V)} {k : Key} {y v : V} (h : At F0 H0 L H) (s : Sel (pt a (.dK kvs)) L L1) (ek : kV k = y) (e : valV kvs k = some v) (q : Q v H) : ∃ a' v', V.ref a = .ref a' ∧ DGet H a' y (some v') ∧ Q v' H :=
  ⟨a, v, rfl, ek ▸ e ▸ DGet.k (h.get s), q⟩
theorem s_dget2 {td ty tx : TE} (q : td σ H fun x H1 => ∃ a, x = .ref a ∧ IsD H1 a ∧ ty σ H1 fun y H2 => tx σ H2 fun z H3 => ∃ o, DGet H3 a y o ∧ Q (o.getD z) H3) : tDGet2 td ty tx σ H Q := q
theorem s_isd {a : Addr} {kvs : List (Key × V)} {P : Addr → Prop} (h : At F0 H0 L H) (s : Sel (pt a (.dK kvs)) L L1) (q : P a) : ∃ a', V.ref a = .ref a' ∧ IsD H a' ∧ P a' := ⟨a, rfl, .inl ⟨kvs, .inl (h.get s)⟩, q⟩
theorem s_dgetO {a : Addr} {kvs : List (Key × V)} {k : Key} {y z : V} (h : At F0 H0 L H) (s : Sel (pt a (.dK kvs)) L L1) (ek : kV k = y) (q : Q ((valV kvs k).getD z) H) : ∃ o, DGet H a y o ∧ Q (o.getD z) H := ⟨_, ek ▸ DGet.k (h.get s), q⟩
theorem s_din {ty td : TE} (q : ty σ H fun y H1 => td σ H1 fun x H2 => ∃ a o, x = .ref a ∧ DGet H2 a y o ∧ Q (.bl o.isSome) H2) : tDIn ty td σ H Q := q
theorem s_dnotin {ty td : TE} (q : ty σ H fun y H1 => td σ H1 fun x H2 => ∃ a o, x = .ref a ∧ DGet H2 a y o ∧ Q (.bl (!o.isSome)) H2) : tDNotIn ty td σ H Q := q
theorem s_dinK {a : Addr} {kvs : List (Key × V)} {k : Key} {y : V} {P : Option V → Prop} (h : At F0 H0 L H) (s : Sel (pt a (.dK kvs)) L L1) (ek : kV k = y) (q : P (valV kvs k)) : ∃ a' o, V.ref a = .ref a' ∧ DGet H a' y o ∧ P o := ⟨a, _, rfl, ek ▸ DGet.k (h.get s), q⟩
theorem s_lenD {a : Addr} {kvs : List (Key × V)} (h : At F0 H0 L H) (s : Sel (pt a (.dK kvs)) L L1) (q : Q (.int (kvs.length : Int)) H) : rLenD [.ref a] H Q := ⟨a, kvs, rfl, h.get s, q⟩
theorem s_eqD {x y : V} {d e : PyData} (h1 : Dp K H x d) (h2 : Dp K H y e) (s1 : SeqAt.shaped d = true) (s2 : SeqAt.shaped e = true) (q : Q (.bl (PyData.eqv d e)) H) : rEqD K x y H Q := ⟨d, e, h1, h2, s1, s2, q⟩
theorem s_neD {x y : V} {d e : PyData} (h1 : Dp K H x d) (h2 : Dp K H y e) (s1 : SeqAt.shaped d = true) (s2 : SeqAt.shaped e = true) (q : Q (.bl (!PyData.eqv d e)) H) : rNeD K x y H Q := ⟨d, e, h1, h2, s1, s2, q⟩
-- loops
theorem s_for {wi : TI} {g : TG} {tb : TS} (q : wi σ H fun J H1 => ∃ W : Nat → Nat → L2.St → Hp → Prop, (∃ m, W 0 m σ H1) ∧ ∀ i m σ H, W i m σ H →
  (J.stop i H ∧ D.nx σ H) ∨ (J.go i H ∧ ∃ N : L2.St → Hp → Prop, (∀ σ' H', N σ' H' → ∃ m', m' < m ∧ W (i + 1) m' σ' H') ∧ ∀ x H', J.yld i H x H' → g x σ H' fun σ2 H2 => tb { D with nx := N, ct := N, bk := D.nx } σ2 H2)) : tFor wi g tb D σ H := q
theorem s_irng1 {ta : TA} {R : It → Hp → Prop} (q : ta σ H fun vs H1 => ∃ j : Int, vs = [.int j] ∧ -(2 ^ 62) ≤ j ∧ j < 2 ^ 62 ∧ R (Itr 0 j.toNat) H1) : iRng1 ta σ H R := q
theorem s_irng1' {i : Int} {R : It → Hp → Prop} (a : -(2 ^ 62) ≤ i) (b : i < 2 ^ 62) (q : R (Itr 0 i.toNat) H) : ∃ j : Int, [V.int i] = [.int j] ∧ -(2 ^ 62) ≤ j ∧ j < 2 ^ 62 ∧ R (Itr 0 j.toNat) H := ⟨i, rfl, a, b, q⟩
theorem s_ilist {tl : TE} {R : It → Hp → Prop} (q : tl σ H fun x H1 => ∃ a, x = .ref a ∧ (∃ xs, SqL K H1 a xs) ∧ R (Itl K a) H1) : iList K tl σ H R := q
theorem s_ilist' {a : Addr} {xs : List V} {P : Addr → Prop} (h : SqL K H a xs) (q : P a) : ∃ a', V.ref a = .ref a' ∧ (∃ xs, SqL K H a' xs) ∧ P a' := ⟨a, rfl, ⟨xs, h⟩, q⟩
theorem s_ienum {ta : TA} {R : It → Hp → Prop} (q : ta σ H fun vs H1 => ∃ a xs, vs = [.ref a] ∧ SqL K H1 a xs ∧ R (Ite K a) H1) : iEnum K ta σ H R := q
theorem s_ienum' {a : Addr} {xs : List V} {P : Addr → Prop} (h : SqL K H a xs) (q : P a) : ∃ a' xs', [V.ref a] = [.ref a'] ∧ SqL K H a' xs' ∧ P a' := ⟨a, xs, rfl, h, q⟩
theorem s_while {c : TT} {tb : TS} (q : ∃ W : Nat → L2.St → Hp → Prop, (∃ m, W m σ H) ∧ ∀ m σ H, W m σ H → c σ H fun b H1 => if b = true then ∃ N : L2.St → Hp → Prop, (∀ σ' H', N σ' H' → ∃ m', m' < m ∧ W m' σ' H') ∧ tb { D with nx := N, ct := N, bk := D.nx } σ H1 else D.nx σ H1) : tWhile c tb D σ H := q
theorem s_lc {wi : TI} {g : TG} {tt : TT} {te : TE} {vs : List Nat} (q : wi σ H fun J H1 => ∀ D, H1 D = none → ∃ W : Nat → Nat → Hp → Prop, (∃ m, W 0 m (upd H1 D (.lst []))) ∧ ∀ i m H, W i m H →
      (J.stop i H ∧ Q (.ref D) H) ∨ (J.go i H ∧ ∃ Nx : Hp → Prop, (∀ H', Nx H' → ∃ m', m' < m ∧ W (i + 1) m' H') ∧ ∀ x H', J.yld i H x H' → g x (wipe σ vs) H' fun σ2 H2 => wipe σ2 vs = wipe σ vs ∧ tt σ2 H2 fun b H3 =>
        if b = true then te σ2 H3 fun y H4 => ∃ acc, H4 D = some (.lst acc) ∧ acc.length < sizeLine ∧ Nx (upd H4 D (.lst (acc ++ [y]))) else Nx H3)) : tLc wi g tt te vs σ H Q := q
end
end S
set_option Elab.async false
set_option linter.all false
set_option maxRecDepth 100000
set_option maxHeartbeats 1000000
namespace S
open PySem PySem.Spec L2
/-! ### lists of ints at addresses -/
abbrev il (r : List Int) : HO := .lst (r.map V.int)
def rowsL : List Addr → List (List Int) → List HP
  | a :: as, r :: rs => pt a (il r) :: rowsL as rs
  | _, _ => []
theorem rowsL_sel : ∀ {as : List Addr} {rs : List (List Int)} {n : Nat} {a : Addr} {r : List Int}, as[n]? = some a → rs[n]? = some r → Sel (pt a (il r)) (rowsL as rs) (rowsL (as.eraseIdx n) (rs.eraseIdx n))
  | a :: as, r :: rs, 0, _, _, h1, h2 => by
    cases h1; cases h2; exact .here
  | a :: as, r :: rs, n + 1, _, _, h1, h2 => .there (rowsL_sel (as := as) (rs := rs) (n := n) h1 h2)
  | [], _, _, _, _, h, _ => by simp at h
  | _ :: _, [], _, _, _, _, h => by simp at h
theorem rowsL_put : ∀ {as : List Addr} {rs : List (List Int)} {n : Nat} {p : Addr} {r : List Int}, n < as.length → n < rs.length → Sel (pt p (il r)) (rowsL (as.set n p) (rs.set n r)) (rowsL (as.eraseIdx n) (rs.eraseIdx n))
  | a :: as, r :: rs, 0, _, _, h1, h2 => .here
  | a :: as, r :: rs, n + 1, _, _, h1, h2 => .there (rowsL_put (as := as) (rs := rs) (n := n) (Nat.lt_of_succ_lt_succ h1) (Nat.lt_of_succ_lt_succ h2))
  | [], _, _, _, _, h, _ => by simp at h
  | _ :: _, [], _, _, _, _, h => by simp at h
theorem Sel.back {P : HP} {L L1 : List HP} (s : Sel P L L1) : ∀ {F : FP} {H : Hp}, S.sep (P :: L1) F H → S.sep L F H := by
  induction s with
  | here => exact fun h => h
  | there s ih =>
    intro F H h
    obtain ⟨F1, F2, h1, h2, h3, h4, h5⟩ := h
    obtain ⟨G1, G2, g1, g2, g3, g4, g5⟩ := h5
    exact ⟨G1, fun a => F1 a ∨ G1 a ∧ False ∨ G2 a, fun a q => h2 a (g1 a q), fun a q => by
      rcases q with q | q | q
      · exact h1 a q
      · exact q.2.elim
      · exact h2 a (g2 a q), fun a q r => by
      rcases r with r | r | r
      · exact h3 a r (g1 a q)
      · exact r.2
      · exact g3 a q r, g4,
      ih ⟨F1, G2, fun _ => .inl, fun _ q => .inr (.inr q), fun a q r => h3 a q (g2 a r), h4, g5⟩⟩
theorem Sel.app {A B M : List HP} {P : HP} (s : Sel P A B) : Sel P (A ++ M) (B ++ M) := by
  induction s with
  | here => exact .here
  | there _ ih => exact .there ih
def rows (as : List Addr) (rs : List (List Int)) : HP := HP.pur (as.length = rs.length) (HP.all (rowsL as rs))
theorem Tri.open {Pre : List HP} {R : V → List HP → Prop} {RE : Value → Option Addr → List HP → Prop} {H : Hp} {Q : VK} {E : XK} (t : Tri Pre R RE H Q E) :
    ∃ F, At F H Pre H ∧ (∀ v L' H', R v L' → At F H L' H' → Q v H') ∧ (∀ c d L' H', RE c d L' → At F H L' H' → E c d H') := by
  obtain ⟨F, h1, h2, h3, h4⟩ := t
  exact ⟨F, At.start h1 h2, h3, h4⟩
section
variable {F0 : FP} {H0 H : Hp} {L L1 L2 : List HP} {as : List Addr} {rs : List (List Int)} {n : Nat} {a p : Addr} {r : List Int}
theorem At.rowsLen (h : At F0 H0 L H) (s : Sel (rows as rs) L L1) : as.length = rs.length := h.know s fun _ k => k.1
theorem At.rowsAt (h : At F0 H0 L H) (s : Sel (rows as rs) L L1) (h2 : rs[n]? = some r) : ∃ a, as[n]? = some a ∧ H a = some (il r) := by
  have e := h.rowsLen s
  have l : n < rs.length := (List.getElem?_eq_some_iff.mp h2).1
  have l2 : n < as.length := by omega
  exact ⟨as[n], by simp [l2], (h.sel s).purE.2.allE.get (rowsL_sel (by simp [l2]) h2).app⟩
theorem At.rowsPut (h : At F0 H0 (pt p (il r) :: rows as rs :: L) H) (h1 : n < rs.length) : At F0 H0 (rows (as.set n p) (rs.set n r) :: L) H := by
  obtain ⟨F, ⟨F1, F2, a1, a2, a3, a4, G1, G2, b1, b2, b3, ⟨b4, b5⟩, b6⟩, h2, h3, h4⟩ := h.ex
  have l1 : n < as.length := by rw [b4]; exact h1
  obtain ⟨a, ha⟩ : ∃ a, as[n]? = some a := ⟨as[n], by simp [l1]⟩
  obtain ⟨r0, hr⟩ : ∃ r0, rs[n]? = some r0 := ⟨rs[n], by simp [h1]⟩
  obtain ⟨g1, g2, c1, c2, c3, c4, c5⟩ := (rowsL_sel ha hr).sep b5
  have z : S.sep (rowsL (as.set n p) (rs.set n r)) (fun a => F1 a ∨ G1 a) H := (rowsL_put l1 h1).back ⟨F1, g2, fun _ => .inl, fun x q => .inr (c2 x q), fun x q q2 => a3 x q (b1 x (c2 x q2)), a4, c5⟩
  exact ⟨F, ⟨fun a => F1 a ∨ G1 a, G2, fun x q => q.elim (a1 x) fun q => a2 x (b1 x q), fun x q => a2 x (b2 x q), fun x q q2 => q.elim (fun q => a3 x q (b2 x q2)) fun q => b3 x q q2, ⟨by simpa using b4, z⟩, b6⟩, h2, h3, h4⟩
theorem At.rowsNil (h : At F0 H0 L H) : At F0 H0 (rows [] [] :: L) H := by
  obtain ⟨F, h1, h2, h3, h4⟩ := h.ex
  exact ⟨F, ⟨fun _ => False, F, fun _ q => q.elim, fun _ q => q, fun _ q _ => q, ⟨rfl, trivial⟩, h1⟩, h2, h3, h4⟩
theorem rowsL_snoc : ∀ {as : List Addr} {rs : List (List Int)}, as.length = rs.length → rowsL (as ++ [p]) (rs ++ [r]) = rowsL as rs ++ [pt p (il r)]
  | [], [], _ => rfl
  | a :: as, r :: rs, h => by
    show pt a (il r) :: rowsL (as ++ [p]) (rs ++ [_]) = _
    rw [rowsL_snoc (by simpa using h)]; rfl
  | [], _ :: _, h => by simp at h
  | _ :: _, [], h => by simp at h
theorem At.rowsSnoc (h : At F0 H0 (pt p (il r) :: rows as rs :: L) H) : At F0 H0 (rows (as ++ [p]) (rs ++ [r]) :: L) H := by
  obtain ⟨F, ⟨F1, F2, a1, a2, a3, a4, G1, G2, b1, b2, b3, ⟨b4, b5⟩, b6⟩, h2, h3, h4⟩ := h.ex
  have z : S.sep (rowsL as rs ++ [pt p (il r)]) (fun a => G1 a ∨ F1 a) H := sep.join (fun x q q2 => a3 x q2 (b1 x q)) b5 ⟨F1, fun _ => False, fun _ q => q, fun _ q => q.elim, fun _ _ q => q, a4, trivial⟩
  exact ⟨F, ⟨fun a => G1 a ∨ F1 a, G2, fun x q => q.elim (fun q => a2 x (b1 x q)) (a1 x), fun x q => a2 x (b2 x q), fun x q q2 => q.elim (fun q => b3 x q q2) fun q => a3 x q (b2 x q2), ⟨by simp [b4], by rw [rowsL_snoc b4]; exact z⟩, b6⟩, h2, h3, h4⟩
/-- rows taken out one by one, left off -/
theorem At.rowsPop (h : At F0 H0 L H) (s : Sel (rows as rs) L L1) (h1 : as[n]? = some a) (h2 : rs[n]? = some r) : At F0 H0 (pt a (il r) :: rows (as.eraseIdx n) (rs.eraseIdx n) :: L1) H := by
  obtain ⟨F, ⟨F1, F2, a1, a2, a3, ⟨b4, b5⟩, b6⟩, k2, k3, k4⟩ := (h.sel s).ex
  obtain ⟨g1, g2, c1, c2, c3, c4, c5⟩ := (rowsL_sel h1 h2).sep b5
  exact ⟨F, ⟨g1, fun x => g2 x ∨ F2 x, fun x q => a1 x (c1 x q), fun x q => q.elim (fun q => a1 x (c2 x q)) (a2 x), fun x q q2 => q2.elim (c3 x q) (a3 x (c1 x q)), c4,
    g2, F2, fun _ => .inl, fun _ => .inr, fun x q q2 => a3 x (c2 x q) q2, ⟨by
      have l1 := (List.getElem?_eq_some_iff.mp h1).1
      have l2 := (List.getElem?_eq_some_iff.mp h2).1
      rw [List.length_eraseIdx, List.length_eraseIdx, if_pos l1, if_pos l2, b4], c5⟩, b6⟩, k2, k3, k4⟩
end

/-! ### the draws' tape: three ints; n: at most so many draws were mixed -/
def tape (a : Addr) (n : Nat) : HP := HP.exi fun x : Int => HP.exi fun y : Int => HP.exi fun z : Int => HP.pur (0 ≤ x ∧ 0 ≤ y ∧ y < 2 ^ 62 ∧ 0 ≤ z ∧ z ≤ n) (pt a (.lst [.int x, .int y, .int z]))
theorem At.tapeE {F0 : FP} {H0 H : Hp} {L : List HP} {a : Addr} {n : Nat} (h : At F0 H0 (tape a n :: L) H) : ∃ x y z : Int, (0 ≤ x ∧ 0 ≤ y ∧ y < 2 ^ 62 ∧ 0 ≤ z ∧ z ≤ n) ∧ At F0 H0 (pt a (.lst [.int x, .int y, .int z]) :: L) H := by
  obtain ⟨x, h⟩ := h.exE
  obtain ⟨y, h⟩ := h.exE
  obtain ⟨z, h⟩ := h.exE
  exact ⟨x, y, z, h.purE⟩
theorem At.tapeI {F0 : FP} {H0 H : Hp} {L : List HP} {a : Addr} {n : Nat} {x y z : Int} (h : At F0 H0 (pt a (.lst [.int x, .int y, .int z]) :: L) H) (q : 0 ≤ x ∧ 0 ≤ y ∧ y < 2 ^ 62 ∧ 0 ≤ z ∧ z ≤ n) : At F0 H0 (tape a n :: L) H :=
  ((h.purI q).exI z |>.exI y).exI x
theorem At.tapeUp {F0 : FP} {H0 H : Hp} {L L1 : List HP} {a : Addr} {n m : Nat} (h : At F0 H0 L H) (s : Sel (tape a n) L L1) (l : n ≤ m) : At F0 H0 (tape a m :: L1) H := by
  obtain ⟨x, y, z, q, h⟩ := (h.sel s).tapeE
  exact h.tapeI (by omega)
/-- a draw: something below many -/
def sp_draw : Sp := fun vs H Q E => ∃ (a : Addr) (n : Nat) (m : Int), vs = [.ref a, .int m] ∧ 0 < m ∧ m ≤ 2 ^ 62 ∧ n < 2 ^ 40 ∧
  Tri [tape a n] (fun v L' => ∃ r : Int, v = .int r ∧ 0 ≤ r ∧ r < m ∧ L' = [tape a (n + 1)]) (fun _ _ _ => False) H Q E
end S
namespace S
open PySem PySem.Spec L2
/-! ### the law's script -/
def scr (K : PySem.W.Frag) (a : Addr) (ns : List Int) : HP := ⟨fun _ H => (∃ o, H a = some (.frz o (il ns))) ∨ SqL K (fun _ => none) a (ns.map V.int), fun h k => by
  rcases h with ⟨o, h⟩ | h
  · exact .inl ⟨o, k _ _ (.inr rfl) h⟩
  · exact .inr h⟩
theorem At.scr {K : PySem.W.Frag} {F0 : FP} {H0 H : Hp} {L L1 : List HP} {a : Addr} {ns : List Int} (h : At F0 H0 L H) (s : Sel (S.scr K a ns) L L1) : SqL K H a (ns.map V.int) := h.know s fun _ k => by
  rcases k with ⟨o, k⟩ | k | k
  · exact .inl (.inr ⟨o, k⟩)
  · rcases k with k | ⟨o, k⟩ <;> cases k
  · exact .inr k
theorem At.law {K : PySem.W.Frag} {H : Hp} {a : Addr} {ns : List Int} (hO : Only H) (hS : SqL K H a (ns.map V.int)) : At (fun _ => False) H [S.scr K a ns] H := by
  refine At.start ⟨fun _ => False, fun _ => False, fun _ q => q, fun _ q => q, fun _ q _ => q, ?_, trivial⟩ fun _ q => q.elim
  rcases hS with (h | ⟨o, h⟩) | h
  · rcases hO a with q | ⟨o, xs, q⟩
    · rw [q] at h; cases h
    · rw [q] at h; cases h
  · exact .inl ⟨o, h⟩
  · exact .inr (.inr h)
/-! ### a tape is made of the script -/
def sp_tape (K : PySem.W.Frag) : Sp := fun vs H Q E => ∃ (a : Addr) (ns : List Int) (k : Int), vs = [.ref a, .int k] ∧ 0 ≤ k ∧ k < 2 ^ 20 ∧
  Tri [S.scr K a ns] (fun v L' => ∃ p, v = .ref p ∧ L' = [tape p 0, S.scr K a ns]) (fun _ _ _ => False) H Q E
end S
set_option Elab.async false
set_option linter.all false
set_option maxRecDepth 100000
set_option maxHeartbeats 1000000
namespace S
open PySem PySem.Spec L2
section
variable {K : PySem.W.Frag} {F0 : FP} {H0 H : Hp} {L L1 : List HP} {D : Ends} {σ : L2.St} {Q : VK} {W : WX} {A B : Prop}
def newL (xs : List V) (H : Hp) (Q : VK) : Prop := xs.length ≤ sizeLine ∧ ∀ p, H p = none → Q (.ref p) (upd H p (.lst xs))
def newT (xs : List V) (H : Hp) (Q : VK) : Prop := xs.length ≤ sizeLine ∧ ∀ p, H p = none → Q (.ref p) (upd H p (.tup xs))
def newI (C : Addr) (H : Hp) (P : Addr → Hp → Prop) : Prop := ∀ x dx, H x = none → H dx = none → dx ≠ x → P x (upd (upd H dx (.own x)) x (.ins C dx []))
theorem s_newL {xs : List V} (h : At F0 H0 L H) (z : xs.length ≤ sizeLine) (q : ∀ p H', At F0 H0 (pt p (.lst xs) :: L) H' → Q (.ref p) H') : newL xs H Q := ⟨z, s_new h q⟩
theorem s_newTp {xs : List V} (h : At F0 H0 L H) (z : xs.length ≤ sizeLine) (q : ∀ p H', At F0 H0 (tp p xs :: L) H' → Q (.ref p) H') : newT xs H Q := ⟨z, fun p hp => q p _ (h.newX hp rfl)⟩
theorem s_newIn {C : Addr} {P : Addr → Hp → Prop} (h : At F0 H0 L H) (q : ∀ x H', At F0 H0 (obj C x [] :: L) H' → P x H') : newI C H P := s_newI h q
theorem q_asg {te : TE} {g : TG} : tAsg te g D σ H = te σ H fun x H1 => g x σ H1 D.nx := rfl
theorem q_drop {te : TE} : tDrop te D σ H = te σ H fun _ H1 => D.nx σ H1 := rfl
theorem q_ret {te : TE} : tRet te D σ H = te σ H D.rt := rfl
theorem q_retN : tRetN D σ H = D.rt .non H := rfl
theorem q_ifS {c : TT} {t u : TS} : tIfS c t u D σ H = c σ H fun b H1 => if b = true then t D σ H1 else u D σ H1 := rfl
theorem q_next : tNext D σ H = D.nx σ H := rfl
theorem q_break : tBreak D σ H = D.bk σ H := rfl
theorem q_cont : tCont D σ H = D.ct σ H := rfl
theorem q_raise {C : Addr} : tRaise C W D σ H = W (.ref C) none σ H := rfl
theorem q_wd {E : XK} {c : Value} {d : Option Addr} : WD E c d σ H = E c d H := rfl
theorem q_we {c : Value} {d : Option Addr} : WE W σ c d H = W c d σ H := rfl
theorem q_par {i j : Nat} {ta : TA} : tPar i j ta D σ H = ta σ H fun vs H1 => ∃ v w, vs = [v, w] ∧ D.nx ((σ.set i (some v)).set j (some w)) H1 := rfl
theorem q_par2 {v w : V} {P : V → V → Prop} : (∃ v' w', [v, w] = [v', w'] ∧ P v' w') = P v w := propext ⟨fun ⟨_, _, e, q⟩ => by cases e; exact q, fun q => ⟨v, w, rfl, q⟩⟩
theorem q_gname {i : Nat} {v : V} {P : L2.St → Hp → Prop} : gName i v σ H P = P (σ.set i (some v)) H := rfl
theorem q_gnil {P : L2.St → Hp → Prop} : gNil [] σ H P = P σ H := propext ⟨fun ⟨_, q⟩ => q, fun q => ⟨rfl, q⟩⟩
theorem q_gcons {g : TG} {gs : TGs} {v : V} {r : List V} {P : L2.St → Hp → Prop} : gCons g gs (v :: r) σ H P = g v σ H fun σ' H' => gs r σ' H' P :=
  propext ⟨fun ⟨_, _, e, q⟩ => by cases e; exact q, fun q => ⟨v, r, rfl, q⟩⟩
theorem q_gsub {to ti : TE} {t : TSet} {v : V} {P : L2.St → Hp → Prop} : gSub to ti t v σ H P = to σ H fun o H1 => ti σ H1 fun i H2 => t o i v H2 fun H3 => P σ H3 := rfl
theorem q_var0 {v : V} : tVar 0 (some v :: σ) H Q = Q v H := propext ⟨fun ⟨_, e, q⟩ => by cases e; exact q, fun q => ⟨v, rfl, q⟩⟩
theorem q_varS {i : Nat} {x : Option V} : tVar (i + 1) (x :: σ) H Q = tVar i σ H Q := rfl
theorem q_c {v : V} : tC v σ H Q = Q v H := rfl
theorem q_op {r : R2} {ta tb : TE} : tOp r ta tb σ H Q = ta σ H fun x H1 => tb σ H1 fun y H2 => r x y H2 Q := rfl
theorem q_un {r : V → Hp → VK → Prop} {ta : TE} : tUn r ta σ H Q = ta σ H fun x H1 => r x H1 Q := rfl
theorem q_nil {P : List V → Hp → Prop} : tNil σ H P = P [] H := rfl
theorem q_cons {te : TE} {t : TA} {P : List V → Hp → Prop} : tCons te t σ H P = te σ H fun x H1 => t σ H1 fun xs H2 => P (x :: xs) H2 := rfl
theorem q_cb {r : List V → Hp → VK → Prop} {t : TA} : tCB r t σ H Q = t σ H fun vs H1 => r vs H1 Q := rfl
theorem q_chain {r r' : R2} {ta tb tc : TE} : tChain r r' ta tb tc σ H Q = ta σ H fun x H1 => tb σ H1 fun y H2 => r x y H2 fun z H3 => ∃ k, z = .bl k ∧ (if k = true then tc σ H3 fun w' H4 => r' y w' H4 Q else Q (.bl false) H3) := rfl
theorem q_k {spp : Sp} {E : L2.St → XK} {t : TA} : tK spp E t σ H Q = t σ H fun vs H1 => spp vs H1 Q (E σ) := rfl
theorem q_m {C : Addr} {m : Str} {spp : Sp} {E : L2.St → XK} {ta : TE} {t : TA} : tM C m spp E ta t σ H Q = ta σ H fun x H1 => kIns C m x H1 ∧ t σ H1 fun vs H2 => spp (x :: vs) H2 Q (E σ) := rfl
theorem q_n {C : Addr} {spp : Sp} {E : L2.St → XK} {t : TA} : tN C spp E t σ H Q = t σ H fun vs H1 => newI C H1 fun x H2 => spp (.ref x :: vs) H2 (fun v H3 => v = .non ∧ Q (.ref x) H3) (E σ) := rfl
theorem q_f {C : Addr} {f : Str} {ta : TE} : tF C f ta σ H Q = ta σ H fun x H1 => kF C f x H1 Q := rfl
theorem q_s {C : Addr} {f : Str} {ta tv : TE} : tS C f ta tv D σ H = tv σ H fun y H1 => ta σ H1 fun x H2 => kS C f y x H2 fun H3 => D.nx σ H3 := rfl
theorem q_sa {C : Addr} {f : Str} {rd : R2} {ta tv : TE} : tSA C f rd ta tv D σ H = ta σ H fun x H1 => kF C f x H1 fun v H2 => tv σ H2 fun y H3 => rd v y H3 fun z H4 => kS C f z x H4 fun H5 => D.nx σ H5 := rfl
theorem q_tup {t : TA} : tTup t σ H Q = t σ H fun xs H1 => newT xs H1 Q := rfl
theorem q_lst {t : TA} : tLst t σ H Q = t σ H fun xs H1 => newL xs H1 Q := rfl
theorem q_sl {r : V → Option Int → Option Int → Hp → VK → Prop} {te : TE} {tl th : TO} : tSl r te tl th σ H Q = te σ H fun x H1 => tl σ H1 fun l H2 => th σ H2 fun u H3 => r x l u H3 Q := rfl
theorem q_nopart {P : Option Int → Hp → Prop} : tNoPart σ H P = P none H := rfl
theorem q_part {t : TE} {P : Option Int → Hp → Prop} : tPart t σ H P = t σ H fun x H1 => ∃ i, x = .int i ∧ P (some i) H1 := rfl
theorem q_exint {i : Int} {P : Int → Prop} : (∃ j, V.int i = .int j ∧ P j) = P i := propext ⟨fun ⟨_, e, q⟩ => by cases e; exact q, fun q => ⟨i, rfl, q⟩⟩
theorem q_exbl {b : Bool} {P : Bool → Prop} : (∃ c, V.bl b = .bl c ∧ P c) = P b := propext ⟨fun ⟨_, e, q⟩ => by cases e; exact q, fun q => ⟨b, rfl, q⟩⟩
theorem q_tif {c : TT} {ta tb : TE} : tIf c ta tb σ H Q = c σ H fun b H1 => if b = true then ta σ H1 Q else tb σ H1 Q := rfl
theorem q_test {t : TE} {P : Bool → Hp → Prop} : tTest t σ H P = t σ H fun x H' => ∃ k, x = .bl k ∧ P k H' := rfl
theorem q_B {t : TE} {P : Bool → Hp → Prop} : tB t σ H P = t σ H fun x H' => ∃ k, x = .bl k ∧ P k H' := rfl
theorem q_and {t u : TT} {P : Bool → Hp → Prop} : tAnd t u σ H P = t σ H fun c H1 => if c = true then u σ H1 P else P false H1 := rfl
theorem q_or {t u : TT} {P : Bool → Hp → Prop} : tOr t u σ H P = t σ H fun c H1 => if c = true then P true H1 else u σ H1 P := rfl
theorem q_not {t : TT} {P : Bool → Hp → Prop} : tNot t σ H P = t σ H fun c H1 => P (!c) H1 := rfl
theorem q_andV {ta tb : TE} : tAndV ta tb σ H Q = ta σ H fun x H1 => ∃ c, x = .bl c ∧ if c = true then tb σ H1 Q else Q (.bl false) H1 := rfl
theorem q_orV {ta tb : TE} : tOrV ta tb σ H Q = ta σ H fun x H1 => ∃ c, x = .bl c ∧ if c = true then Q (.bl true) H1 else tb σ H1 Q := rfl
theorem q_notV {ta : TE} : tNotV ta σ H Q = ta σ H fun x H1 => ∃ c, x = .bl c ∧ Q (.bl (!c)) H1 := rfl
theorem q_yes {P : Bool → Hp → Prop} : tYes σ H P = P true H := rfl
theorem q_iftt : (if true = true then A else B) = A := if_pos rfl
theorem q_ifff : (if false = true then A else B) = B := if_neg (by decide)
theorem q_plus {i j : Int} : rPlus (.int i) (.int j) H Q = Q (.int (i + j)) H := propext ⟨fun ⟨_, _, e, e', q⟩ => by cases e; cases e'; exact q, fun q => s_plus q⟩
theorem q_minus {i j : Int} : rMinus (.int i) (.int j) H Q = Q (.int (i - j)) H := propext ⟨fun ⟨_, _, e, e', q⟩ => by cases e; cases e'; exact q, fun q => s_minus q⟩
theorem q_radd {i j : Int} : rAdd (.int i) (.int j) H Q = Q (.int (i + j)) H := propext ⟨fun ⟨_, _, e, e', q⟩ => by cases e; cases e'; exact q, fun q => s_radd q⟩
theorem q_rsub {i j : Int} : rSub (.int i) (.int j) H Q = Q (.int (i - j)) H := propext ⟨fun ⟨_, _, e, e', q⟩ => by cases e; cases e'; exact q, fun q => s_rsub q⟩
theorem q_ipI {f : Int → Int → Int} {i j : Int} : ipI f (.int i) (.int j) H Q = Q (.int (f i j)) H := propext ⟨fun ⟨_, _, e, e', q⟩ => by cases e; cases e'; exact q, fun q => s_ipI q⟩
theorem q_lt {i j : Int} : rLt (.int i) (.int j) H Q = Q (.bl (decide (i < j))) H := propext ⟨fun ⟨_, _, e, e', q⟩ => by cases e; cases e'; exact q, fun q => s_lt q⟩
theorem q_le {i j : Int} : rLe (.int i) (.int j) H Q = Q (.bl (decide (i ≤ j))) H := propext ⟨fun ⟨_, _, e, e', q⟩ => by cases e; cases e'; exact q, fun q => s_le q⟩
theorem q_gt {i j : Int} : rGt (.int i) (.int j) H Q = Q (.bl (decide (j < i))) H := propext ⟨fun ⟨_, _, e, e', q⟩ => by cases e; cases e'; exact q, fun q => s_gt q⟩
theorem q_ge {i j : Int} : rGe (.int i) (.int j) H Q = Q (.bl (decide (j ≤ i))) H := propext ⟨fun ⟨_, _, e, e', q⟩ => by cases e; cases e'; exact q, fun q => s_ge q⟩
theorem q_eqII {i j : Int} : rEq (.int i) (.int j) H Q = Q (.bl (decide (i = j))) H := by
  have e : decide (V.int i = V.int j) = decide (i = j) := by rw [decide_eq_decide]; exact ⟨V.int.inj, fun e => by rw [e]⟩
  rw [← e]; exact propext ⟨fun q => q.2, fun q => ⟨rfl, q⟩⟩
theorem q_neII {i j : Int} : rNe (.int i) (.int j) H Q = Q (.bl (!decide (i = j))) H := by
  have e : decide (V.int i = V.int j) = decide (i = j) := by rw [decide_eq_decide]; exact ⟨V.int.inj, fun e => by rw [e]⟩
  rw [← e]; exact propext ⟨fun q => q.2, fun q => ⟨rfl, q⟩⟩
theorem q_eqSS {i j : Str} : rEq (.str i) (.str j) H Q = Q (.bl (decide (i = j))) H := by
  have e : decide (V.str i = V.str j) = decide (i = j) := by rw [decide_eq_decide]; exact ⟨V.str.inj, fun e => by rw [e]⟩
  rw [← e]; exact propext ⟨fun q => q.2, fun q => ⟨rfl, q⟩⟩
theorem q_neSS {i j : Str} : rNe (.str i) (.str j) H Q = Q (.bl (!decide (i = j))) H := by
  have e : decide (V.str i = V.str j) = decide (i = j) := by rw [decide_eq_decide]; exact ⟨V.str.inj, fun e => by rw [e]⟩
  rw [← e]; exact propext ⟨fun q => q.2, fun q => ⟨rfl, q⟩⟩
theorem q_eqNI {j : Int} : rEq .non (.int j) H Q = Q (.bl false) H := propext ⟨fun q => q.2, fun q => ⟨rfl, q⟩⟩
theorem q_isnN : rIsN .non .non H Q = Q (.bl true) H := propext ⟨fun q => q.2, fun q => ⟨rfl, q⟩⟩
theorem q_isnI {i : Int} : rIsN (.int i) .non H Q = Q (.bl false) H := propext ⟨fun q => q.2, fun q => ⟨rfl, q⟩⟩
theorem q_isnR {a : Addr} : rIsN (.ref a) .non H Q = Q (.bl false) H := propext ⟨fun q => q.2, fun q => ⟨rfl, q⟩⟩
theorem q_notnN : rNotN .non .non H Q = Q (.bl false) H := propext ⟨fun q => q.2, fun q => ⟨rfl, q⟩⟩
theorem q_notnI {i : Int} : rNotN (.int i) .non H Q = Q (.bl true) H := propext ⟨fun q => q.2, fun q => ⟨rfl, q⟩⟩
theorem q_notnR {a : Addr} : rNotN (.ref a) .non H Q = Q (.bl true) H := propext ⟨fun q => q.2, fun q => ⟨rfl, q⟩⟩
theorem q_neg {i : Int} : rNeg (.int i) H Q = Q (.int (-i)) H := propext ⟨fun ⟨_, e, q⟩ => by cases e; exact q, fun q => s_neg q⟩
theorem q_abs {i : Int} : rAbs [.int i] H Q = Q (.int (if i < 0 then -i else i)) H := propext ⟨fun ⟨_, e, q⟩ => by cases e; exact q, fun q => s_abs q⟩
theorem q_min2 {i j : Int} : rMin2 [.int i, .int j] H Q = Q (.int (if j < i then j else i)) H := propext ⟨fun ⟨_, _, e, q⟩ => by cases e; exact q, fun q => s_min2 q⟩
theorem q_max2 {i j : Int} : rMax2 [.int i, .int j] H Q = Q (.int (if j > i then j else i)) H := propext ⟨fun ⟨_, _, e, q⟩ => by cases e; exact q, fun q => s_max2 q⟩
theorem q_int1b {b : Bool} : rInt1 [.bl b] H Q = Q (.int (if b then 1 else 0)) H := propext ⟨fun q => by
  rcases q with ⟨_, e, _⟩ | ⟨_, e, q⟩
  · cases e
  · cases e; exact q, fun q => s_int1b q⟩
theorem q_mod {i j : Int} (c : 0 < j) : rMod (.int i) (.int j) H Q = Q (.int (i % j)) H := propext ⟨fun ⟨_, _, e, e', _, q⟩ => by cases e; cases e'; exact q, fun q => s_mod c q⟩
theorem q_bm {T : String} {r : V → List V → Hp → VK → Prop} {to : TE} {t : TA} : tBM K T r to t σ H Q = to σ H fun x H1 => tyV K T x H1 ∧ t σ H1 fun xs H2 => r x xs H2 Q := rfl
theorem q_bm0 {T : String} {r : V → List V → Hp → VK → Prop} {to : TE} : tBM0 K T r to σ H Q = to σ H fun x H1 => tyV K T x H1 ∧ r x [] H1 Q := rfl
def putD (x y v : V) (H : Hp) (P : Hp → Prop) : Prop := ∃ a H4, x = .ref a ∧ DPut H a y v H4 ∧ P H4
def getD (x y : V) (H : Hp) (Q : VK) : Prop := ∃ a v, x = .ref a ∧ DGet H a y (some v) ∧ Q v H
def isDv (x : V) (H : Hp) : Prop := ∃ a, x = .ref a ∧ IsD H a
def getO (x y z : V) (H : Hp) (Q : VK) : Prop := ∃ a o, x = .ref a ∧ DGet H a y o ∧ Q (o.getD z) H
def inDq (x y : V) (H : Hp) (Q : VK) : Prop := ∃ a o, x = .ref a ∧ DGet H a y o ∧ Q (.bl o.isSome) H
def notInDq (x y : V) (H : Hp) (Q : VK) : Prop := ∃ a o, x = .ref a ∧ DGet H a y o ∧ Q (.bl (!o.isSome)) H
theorem q_dput {td ty tv : TE} : sDPut td ty tv D σ H = tv σ H fun v H1 => td σ H1 fun x H2 => ty σ H2 fun y H3 => putD x y v H3 fun H4 => D.nx σ H4 := rfl
theorem q_dget {td ty : TE} : tDGet td ty σ H Q = td σ H fun x H1 => ty σ H1 fun y H2 => getD x y H2 Q := rfl
theorem q_dget2 {td ty tx : TE} : tDGet2 td ty tx σ H Q = td σ H fun x H1 => isDv x H1 ∧ ty σ H1 fun y H2 => tx σ H2 fun z H3 => getO x y z H3 Q := by
  show td σ H (fun x H1 => ∃ a, x = .ref a ∧ IsD H1 a ∧ ty σ H1 fun y H2 => tx σ H2 fun z H3 => ∃ o, DGet H3 a y o ∧ Q (o.getD z) H3) = _
  congr 1
  funext x H1
  have e : ∀ a, x = .ref a → (fun y H2 => tx σ H2 fun z H3 => ∃ o, DGet H3 a y o ∧ Q (o.getD z) H3) = (fun y H2 => tx σ H2 fun z H3 => getO x y z H3 Q) := fun a e => by
    subst e
    funext y H2
    congr 1
    funext z H3
    exact propext ⟨fun ⟨o, h⟩ => ⟨a, o, rfl, h⟩, fun ⟨b, o, e, h⟩ => by cases e; exact ⟨o, h⟩⟩
  exact propext ⟨fun ⟨a, e1, e2, e3⟩ => ⟨⟨a, e1, e2⟩, e a e1 ▸ e3⟩, fun ⟨⟨a, e1, e2⟩, e3⟩ => ⟨a, e1, e2, by rw [e a e1]; exact e3⟩⟩
theorem q_din {ty td : TE} : tDIn ty td σ H Q = ty σ H fun y H1 => td σ H1 fun x H2 => inDq x y H2 Q := rfl
theorem q_dnotin {ty td : TE} : tDNotIn ty td σ H Q = ty σ H fun y H1 => td σ H1 fun x H2 => notInDq x y H2 Q := rfl
section
variable {a : Addr} {kvs : List (Key × V)} {k : Key} {i : Int} {c : Str} {v z : V} {P : Hp → Prop}
theorem s_putI (h : At F0 H0 L H) (s : Sel (pt a (.dK kvs)) L L1) (z : kvs.length < sizeLine) (q : ∀ H', At F0 H0 (pt a (.dK (putK kvs (Sum.inl i) v)) :: L1) H' → P H') : putD (.ref a) (.int i) v H P :=
  ⟨a, _, rfl, DPut.k (k := (Sum.inl i : Key)) (h.get s) z, q _ (h.set s)⟩
theorem s_getI (h : At F0 H0 L H) (s : Sel (pt a (.dK kvs)) L L1) (e : valV kvs (Sum.inl i : Key) = some v) (q : Q v H) : getD (.ref a) (.int i) H Q := ⟨a, v, rfl, e ▸ DGet.k (k := (Sum.inl i : Key)) (h.get s), q⟩
theorem s_isDv (h : At F0 H0 L H) (s : Sel (pt a (.dK kvs)) L L1) (q : A) : isDv (.ref a) H ∧ A := ⟨⟨a, rfl, .inl ⟨kvs, .inl (h.get s)⟩⟩, q⟩
theorem s_getOI (h : At F0 H0 L H) (s : Sel (pt a (.dK kvs)) L L1) (q : Q ((valV kvs (Sum.inl i : Key)).getD z) H) : getO (.ref a) (.int i) z H Q := ⟨a, _, rfl, DGet.k (k := (Sum.inl i : Key)) (h.get s), q⟩
theorem s_inI (h : At F0 H0 L H) (s : Sel (pt a (.dK kvs)) L L1) (q : Q (.bl (valV kvs (Sum.inl i : Key)).isSome) H) : inDq (.ref a) (.int i) H Q := ⟨a, _, rfl, DGet.k (k := (Sum.inl i : Key)) (h.get s), q⟩
theorem s_notInI (h : At F0 H0 L H) (s : Sel (pt a (.dK kvs)) L L1) (q : Q (.bl (!(valV kvs (Sum.inl i : Key)).isSome)) H) : notInDq (.ref a) (.int i) H Q := ⟨a, _, rfl, DGet.k (k := (Sum.inl i : Key)) (h.get s), q⟩
theorem s_putS (h : At F0 H0 L H) (s : Sel (pt a (.dK kvs)) L L1) (z : kvs.length < sizeLine) (q : ∀ H', At F0 H0 (pt a (.dK (putK kvs (Sum.inr c) v)) :: L1) H' → P H') : putD (.ref a) (.str c) v H P :=
  ⟨a, _, rfl, DPut.k (k := (Sum.inr c : Key)) (h.get s) z, q _ (h.set s)⟩
theorem s_getS (h : At F0 H0 L H) (s : Sel (pt a (.dK kvs)) L L1) (e : valV kvs (Sum.inr c : Key) = some v) (q : Q v H) : getD (.ref a) (.str c) H Q := ⟨a, v, rfl, e ▸ DGet.k (k := (Sum.inr c : Key)) (h.get s), q⟩
theorem s_getOS (h : At F0 H0 L H) (s : Sel (pt a (.dK kvs)) L L1) (q : Q ((valV kvs (Sum.inr c : Key)).getD z) H) : getO (.ref a) (.str c) z H Q := ⟨a, _, rfl, DGet.k (k := (Sum.inr c : Key)) (h.get s), q⟩
theorem s_inS (h : At F0 H0 L H) (s : Sel (pt a (.dK kvs)) L L1) (q : Q (.bl (valV kvs (Sum.inr c : Key)).isSome) H) : inDq (.ref a) (.str c) H Q := ⟨a, _, rfl, DGet.k (k := (Sum.inr c : Key)) (h.get s), q⟩
theorem s_notInS (h : At F0 H0 L H) (s : Sel (pt a (.dK kvs)) L L1) (q : Q (.bl (!(valV kvs (Sum.inr c : Key)).isSome)) H) : notInDq (.ref a) (.str c) H Q := ⟨a, _, rfl, DGet.k (k := (Sum.inr c : Key)) (h.get s), q⟩
end
theorem q_set0 {v x : Option V} : List.set (x :: σ) 0 v = v :: σ := rfl
theorem q_setS {v x : Option V} {i : Nat} : List.set (x :: σ) (i + 1) v = x :: List.set σ i v := rfl
theorem s_start {t : TS} {n : List Str} {vs : List V} {σ' : L2.St} (e : start n vs = σ') (q : t D σ' H) : t D (start n vs) H := by rw [e]; exact q
end
theorem atI0 {α : Type} {x : α} {xs : List α} : atI (x :: xs) 0 = some x := atI_nat (j := 0) rfl
theorem atI1 {α : Type} {x y : α} {xs : List α} : atI (x :: y :: xs) 1 = some y := atI_nat (j := 1) rfl
theorem atI2 {α : Type} {x y z : α} {xs : List α} : atI (x :: y :: z :: xs) 2 = some z := atI_nat (j := 2) rfl
theorem ixN_nat {n i : Nat} (h : i < n) : ixN n (i : Int) = some i := by unfold ixN; simp; omega
section
variable {K : PySem.W.Frag} {F0 : FP} {H0 H : Hp} {L L1 : List HP} {a : Addr} {x y z v : V} {xs : List V} {P : Hp → Prop}
theorem s_setL0 (h : At F0 H0 L H) (s : Sel (pt a (.lst (x :: xs))) L L1) (q : ∀ H', At F0 H0 (pt a (.lst (v :: xs)) :: L1) H' → P H') : rSetL (.ref a) (.int 0) v H P := s_setL (j := 0) h s (ixN_nat (i := 0) (by simp)) q
theorem s_setL1 (h : At F0 H0 L H) (s : Sel (pt a (.lst (x :: y :: xs))) L L1) (q : ∀ H', At F0 H0 (pt a (.lst (x :: v :: xs)) :: L1) H' → P H') : rSetL (.ref a) (.int 1) v H P := s_setL (j := 1) h s (ixN_nat (i := 1) (by simp)) q
theorem s_setL2 (h : At F0 H0 L H) (s : Sel (pt a (.lst (x :: y :: z :: xs))) L L1) (q : ∀ H', At F0 H0 (pt a (.lst (x :: y :: v :: xs)) :: L1) H' → P H') : rSetL (.ref a) (.int 2) v H P := s_setL (j := 2) h s (ixN_nat (i := 2) (by simp)) q
end
end S
set_option Elab.async false
set_option linter.all false
set_option maxRecDepth 100000
set_option maxHeartbeats 1000000
namespace S
open PySem PySem.Spec L2
section
variable {K : PySem.W.Frag} {F0 : FP} {H0 H : Hp} {L L1 : List HP} {D : Ends} {σ : L2.St} {Q : VK} {a : Addr} {x y z v : V} {xs : List V}
theorem s_ixL0 (h : SqL K H a (x :: xs)) (q : Q x H) : rIxL K (.ref a) (.int 0) H Q := s_ixL h atI0 q
theorem s_ixL1 (h : SqL K H a (x :: y :: xs)) (q : Q y H) : rIxL K (.ref a) (.int 1) H Q := s_ixL h atI1 q
theorem s_ixL2 (h : SqL K H a (x :: y :: z :: xs)) (q : Q z H) : rIxL K (.ref a) (.int 2) H Q := s_ixL h atI2 q
theorem s_ixLn {i : Int} (h : SqL K H a xs) (i0 : 0 ≤ i) (e : xs[i.toNat]? = some v) (q : Q v H) : rIxL K (.ref a) (.int i) H Q := by
  obtain ⟨n, rfl⟩ := Int.eq_ofNat_of_zero_le i0
  exact s_ixL h (atI_nat e) q
theorem s_setLn {i : Int} {P : Hp → Prop} (h : At F0 H0 L H) (s : Sel (pt a (.lst xs)) L L1) (i0 : 0 ≤ i) (l : i < xs.length) (q : ∀ H', At F0 H0 (pt a (.lst (xs.set i.toNat v)) :: L1) H' → P H') : rSetL (.ref a) (.int i) v H P := by
  obtain ⟨n, rfl⟩ := Int.eq_ofNat_of_zero_le i0
  exact s_setL h s (ixN_nat (by omega)) q
theorem s_rep1 {k : Int} (h : At F0 H0 L H) (s : Sel (pt a (.lst [x])) L L1) (k1 : -(2 ^ 63) ≤ k) (k2 : k < 2 ^ 63) (z : k.toNat ≤ sizeLine) (q : ∀ p H', At F0 H0 (pt p (.lst (List.replicate k.toNat x)) :: L) H' → Q (.ref p) H') : rRep (.ref a) (.int k) H Q :=
  s_rep h s k1 k2 (by simpa using z) fun p H' h' => q p H' (by rw [← List.flatten_replicate_singleton]; exact h')
/-! ### loops, comprehensions, by what is owned -/
theorem s_rngGo {i : Int} {R : It → Hp → Prop} (a0 : -(2 ^ 62) ≤ i) (b : i < 2 ^ 62) (q : R (Itr 0 i.toNat) H) : iRng1 (fun _ H Q => Q [V.int i] H) σ H R := ⟨i, rfl, a0, b, q⟩
theorem q_rng1 {ta : TA} {R : It → Hp → Prop} : iRng1 ta σ H R = ta σ H fun vs H1 => ∃ j : Int, vs = [.int j] ∧ -(2 ^ 62) ≤ j ∧ j < 2 ^ 62 ∧ R (Itr 0 j.toNat) H1 := rfl
theorem s_rng1 {i : Int} {P : Int → Prop} (a0 : -(2 ^ 62) ≤ i) (b : i < 2 ^ 62) (q : P i) : ∃ j : Int, [V.int i] = [.int j] ∧ -(2 ^ 62) ≤ j ∧ j < 2 ^ 62 ∧ P j := ⟨i, rfl, a0, b, q⟩
theorem q_list {tl : TE} {R : It → Hp → Prop} : iList K tl σ H R = tl σ H fun x H1 => ∃ a, x = .ref a ∧ (∃ xs, SqL K H1 a xs) ∧ R (Itl K a) H1 := rfl
theorem s_list {P : Addr → Prop} (h : SqL K H a xs) (q : P a) : ∃ a', V.ref a = .ref a' ∧ (∃ xs, SqL K H a' xs) ∧ P a' := ⟨a, rfl, ⟨xs, h⟩, q⟩
theorem q_enum {ta : TA} {R : It → Hp → Prop} : iEnum K ta σ H R = ta σ H fun vs H1 => ∃ a xs, vs = [.ref a] ∧ SqL K H1 a xs ∧ R (Ite K a) H1 := rfl
theorem s_enum {P : Addr → Prop} (h : SqL K H a xs) (q : P a) : ∃ a' xs', [V.ref a] = [.ref a'] ∧ SqL K H a' xs' ∧ P a' := ⟨a, xs, rfl, h, q⟩
def inv (F0 : FP) (H0 : Hp) (I : L2.St → List HP → Prop) : L2.St → Hp → Prop := fun σ H => ∃ L, I σ L ∧ At F0 H0 L H
def forEnd (J : It) (g : TG) (tb : TS) (D : Ends) (σ : L2.St) (H : Hp) : Prop := ∃ W : Nat → Nat → L2.St → Hp → Prop, (∃ m, W 0 m σ H) ∧ ∀ i m σ H, W i m σ H →
      (J.stop i H ∧ D.nx σ H) ∨ (J.go i H ∧ ∃ N : L2.St → Hp → Prop, (∀ σ' H', N σ' H' → ∃ m', m' < m ∧ W (i + 1) m' σ' H') ∧ ∀ x H', J.yld i H x H' → g x σ H' fun σ2 H2 => tb { D with nx := N, ct := N, bk := D.nx } σ2 H2)
theorem q_for {wi : TI} {g : TG} {tb : TS} : tFor wi g tb D σ H = wi σ H fun J H1 => forEnd J g tb D σ H1 := rfl
theorem s_forR {lo : Int} {n : Nat} {g : TG} {tb : TS} (I : Nat → L2.St → List HP → Prop) (h : At F0 H0 L H) (h0 : I 0 σ L)
    (hs : ∀ j σ L H, j < n → I j σ L → At F0 H0 L H → g (.int (lo + j)) σ H fun σ2 H2 => tb ⟨inv F0 H0 (I (j + 1)), D.rt, D.nx, inv F0 H0 (I (j + 1))⟩ σ2 H2) (hd : ∀ σ L H, I n σ L → At F0 H0 L H → D.nx σ H) :
    forEnd (Itr lo n) g tb D σ H :=
  for_range (fun j => inv F0 H0 (I j)) ⟨L, h0, h⟩ (fun j σ H hj ⟨L, i, h⟩ => hs j σ L H hj i h) fun σ H ⟨L, i, h⟩ => hd σ L H i h
theorem s_forL {g : TG} {tb : TS} (I : Nat → L2.St → List HP → Prop) (h : At F0 H0 L H) (h0 : I 0 σ L) (hl : ∀ j σ L H, I j σ L → At F0 H0 L H → SqL K H a xs)
    (hs : ∀ j x σ L H, xs[j]? = some x → I j σ L → At F0 H0 L H → g x σ H fun σ2 H2 => tb ⟨inv F0 H0 (I (j + 1)), D.rt, D.nx, inv F0 H0 (I (j + 1))⟩ σ2 H2) (hd : ∀ σ L H, I xs.length σ L → At F0 H0 L H → D.nx σ H) :
    forEnd (Itl K a) g tb D σ H :=
  for_list (fun j => inv F0 H0 (I j)) ⟨L, h0, h⟩ (fun j σ H _ ⟨L, i, h⟩ => hl j σ L H i h) (fun j x σ H hj ⟨L, i, h⟩ => hs j x σ L H hj i h) fun σ H ⟨L, i, h⟩ => hd σ L H i h
theorem s_forE {g : TG} {tb : TS} (I : Nat → L2.St → List HP → Prop) (h : At F0 H0 L H) (h0 : I 0 σ L) (hl : ∀ j σ L H, I j σ L → At F0 H0 L H → SqL K H a xs)
    (hs : ∀ j x p σ L H, xs[j]? = some x → I j σ L → At F0 H0 (tp p [.int j, x] :: L) H → g (.ref p) σ H fun σ2 H2 => tb ⟨inv F0 H0 (I (j + 1)), D.rt, D.nx, inv F0 H0 (I (j + 1))⟩ σ2 H2) (hd : ∀ σ L H, I xs.length σ L → At F0 H0 L H → D.nx σ H) :
    forEnd (Ite K a) g tb D σ H := by
  refine ⟨fun i m σ H => m = xs.length - i ∧ i ≤ xs.length ∧ inv F0 H0 (I i) σ H, ⟨xs.length, by simp, Nat.zero_le _, L, h0, h⟩, ?_⟩
  rintro i m σ H ⟨rfl, hi, L, p, hp⟩
  have q := hl i σ L H p hp
  by_cases hlt : i < xs.length
  · refine .inr ⟨⟨xs, xs[i], q, by simp [hlt]⟩, inv F0 H0 (I (i + 1)), fun σ' H' p' => ⟨xs.length - (i + 1), by omega, rfl, hlt, p'⟩, fun v H' y => ?_⟩
    obtain ⟨T, x, rfl, hT, rfl, hx⟩ := y
    exact hs i x T σ L _ (hx xs q) p (hp.newX hT rfl)
  · have e : i = xs.length := by omega
    subst e
    exact .inl ⟨⟨xs, q, Nat.le_refl _⟩, hd σ L H p hp⟩
def invC (F0 : FP) (H0 : Hp) (D : Addr) (I : List V → List HP → Prop) : Hp → Prop := fun H => ∃ acc L, I acc L ∧ At F0 H0 (pt D (.lst acc) :: L) H
theorem wipe1 {i : Nat} {v : Option V} : wipe ((wipe σ [i]).set i v) [i] = wipe σ [i] := by simp [wipe]
/-- what an element is to reach -/
def accK (F0 : FP) (H0 : Hp) (D : Addr) (I : List V → List HP → Prop) : VK := fun y H4 => ∃ acc, H4 D = some (.lst acc) ∧ acc.length < sizeLine ∧ invC F0 H0 D I (upd H4 D (.lst (acc ++ [y])))
theorem s_acc {D : Addr} {acc : List V} {y : V} {I : List V → List HP → Prop} (h : At F0 H0 L H) (s : Sel (pt D (.lst acc)) L L1) (z : acc.length < sizeLine) (i : I (acc ++ [y]) L1) : accK F0 H0 D I y H :=
  ⟨acc, h.get s, z, _, _, i, h.set s⟩
abbrev lcEnd (J : It) (g : TG) (tt : TT) (te : TE) (vs : List Nat) (σ : L2.St) (Q : VK) (D : Addr) (H1 : Hp) : Prop := ∃ W : Nat → Nat → Hp → Prop, (∃ m, W 0 m (upd H1 D (.lst []))) ∧ ∀ i m H, W i m H →
      (J.stop i H ∧ Q (.ref D) H) ∨ (J.go i H ∧ ∃ Nx : Hp → Prop, (∀ H', Nx H' → ∃ m', m' < m ∧ W (i + 1) m' H') ∧ ∀ x H', J.yld i H x H' → g x (wipe σ vs) H' fun σ2 H2 => wipe σ2 vs = wipe σ vs ∧ tt σ2 H2 fun b H3 =>
        if b = true then te σ2 H3 fun y H4 => ∃ acc, H4 D = some (.lst acc) ∧ acc.length < sizeLine ∧ Nx (upd H4 D (.lst (acc ++ [y]))) else Nx H3)
theorem q_lc {wi : TI} {g : TG} {tt : TT} {te : TE} {vs : List Nat} : tLc wi g tt te vs σ H Q = wi σ H fun J H1 => ∀ D, H1 D = none → lcEnd J g tt te vs σ Q D H1 := rfl
theorem s_yesC {P P' : Hp → Prop} (q : P H) : tYes σ H (fun b H3 => if b = true then P H3 else P' H3) := by
  show (if true = true then P H else P' H)
  rw [if_pos rfl]; exact q
/-- a comprehension over a range, a name, no test -/
theorem s_lcR {lo : Int} {n : Nat} {te : TE} {k : Nat} (I : Nat → List V → List HP → Prop) (h : At F0 H0 L H) (h0 : I 0 [] L)
    (hs : ∀ j acc L D H, j < n → I j acc L → At F0 H0 (pt D (.lst acc) :: L) H → te ((wipe σ [k]).set k (some (.int (lo + j)))) H (accK F0 H0 D (I (j + 1))))
    (hd : ∀ acc L D H, I n acc L → At F0 H0 (pt D (.lst acc) :: L) H → Q (.ref D) H) :
    ∀ D, H D = none → lcEnd (Itr lo n) (gName k) tYes te [k] σ Q D H := fun D hD =>
  lc_range (fun j => invC F0 H0 D (I j)) ⟨[], L, h0, h.new hD⟩ (fun j H hj ⟨acc, L, i, h⟩ => ⟨wipe1, s_yesC (hs j acc L D H hj i h)⟩) fun H ⟨acc, L, i, h⟩ => hd acc L D H i h
theorem s_lcL {te : TE} {k : Nat} (I : Nat → List V → List HP → Prop) (h : At F0 H0 L H) (h0 : I 0 [] L) (hl : ∀ j acc L D H, I j acc L → At F0 H0 (pt D (.lst acc) :: L) H → SqL K H a xs)
    (hs : ∀ j x acc L D H, xs[j]? = some x → I j acc L → At F0 H0 (pt D (.lst acc) :: L) H → te ((wipe σ [k]).set k (some x)) H (accK F0 H0 D (I (j + 1))))
    (hd : ∀ acc L D H, I xs.length acc L → At F0 H0 (pt D (.lst acc) :: L) H → Q (.ref D) H) :
    ∀ D, H D = none → lcEnd (Itl K a) (gName k) tYes te [k] σ Q D H := fun D hD =>
  lc_list (fun j => invC F0 H0 D (I j)) ⟨[], L, h0, h.new hD⟩ (fun j H _ ⟨acc, L, i, h⟩ => hl j acc L D H i h) (fun j x H hj ⟨acc, L, i, h⟩ => ⟨wipe1, s_yesC (hs j x acc L D H hj i h)⟩) fun H ⟨acc, L, i, h⟩ => hd acc L D H i h
/-- what a test is to reach -/
def tstK (F0 : FP) (H0 : Hp) (D : Addr) (I I' : List V → List HP → Prop) (te : TE) (σ : L2.St) : Bool → Hp → Prop := fun b H3 => if b = true then te σ H3 (accK F0 H0 D I) else invC F0 H0 D I' H3
theorem s_lcRT {lo : Int} {n : Nat} {te : TE} {tt : TT} {k : Nat} (I : Nat → List V → List HP → Prop) (h : At F0 H0 L H) (h0 : I 0 [] L)
    (hs : ∀ j acc L D H, j < n → I j acc L → At F0 H0 (pt D (.lst acc) :: L) H → tt ((wipe σ [k]).set k (some (.int (lo + j)))) H (tstK F0 H0 D (I (j + 1)) (I (j + 1)) te ((wipe σ [k]).set k (some (.int (lo + j))))))
    (hd : ∀ acc L D H, I n acc L → At F0 H0 (pt D (.lst acc) :: L) H → Q (.ref D) H) :
    ∀ D, H D = none → lcEnd (Itr lo n) (gName k) tt te [k] σ Q D H := fun D hD =>
  lc_range (fun j => invC F0 H0 D (I j)) ⟨[], L, h0, h.new hD⟩ (fun j H hj ⟨acc, L, i, h⟩ => ⟨wipe1, hs j acc L D H hj i h⟩) fun H ⟨acc, L, i, h⟩ => hd acc L D H i h
theorem s_lcLT {te : TE} {tt : TT} {k : Nat} (I : Nat → List V → List HP → Prop) (h : At F0 H0 L H) (h0 : I 0 [] L) (hl : ∀ j acc L D H, I j acc L → At F0 H0 (pt D (.lst acc) :: L) H → SqL K H a xs)
    (hs : ∀ j x acc L D H, xs[j]? = some x → I j acc L → At F0 H0 (pt D (.lst acc) :: L) H → tt ((wipe σ [k]).set k (some x)) H (tstK F0 H0 D (I (j + 1)) (I (j + 1)) te ((wipe σ [k]).set k (some x))))
    (hd : ∀ acc L D H, I xs.length acc L → At F0 H0 (pt D (.lst acc) :: L) H → Q (.ref D) H) :
    ∀ D, H D = none → lcEnd (Itl K a) (gName k) tt te [k] σ Q D H := fun D hD =>
  lc_list (fun j => invC F0 H0 D (I j)) ⟨[], L, h0, h.new hD⟩ (fun j H _ ⟨acc, L, i, h⟩ => hl j acc L D H i h) (fun j x H hj ⟨acc, L, i, h⟩ => ⟨wipe1, hs j x acc L D H hj i h⟩) fun H ⟨acc, L, i, h⟩ => hd acc L D H i h
theorem wipe2 {i k : Nat} {v x : Option V} : wipe (((wipe σ [i, k]).set i v).set k x) [i, k] = wipe σ [i, k] := by
  simp only [wipe]
  apply List.ext_getElem?
  intro j
  simp only [List.getElem?_set, List.length_set]
  by_cases h1 : i = j <;> by_cases h2 : k = j <;> simp [h1, h2] <;> subst_vars <;> simp_all
/-- over enumerate of a list: two names -/
theorem s_lcE {te : TE} {k k' : Nat} (I : Nat → List V → List HP → Prop) (h : At F0 H0 L H) (h0 : I 0 [] L) (hl : ∀ j acc L D H, I j acc L → At F0 H0 (pt D (.lst acc) :: L) H → SqL K H a xs)
    (hs : ∀ j x acc L D H, xs[j]? = some x → I j acc L → At F0 H0 (pt D (.lst acc) :: L) H → te (((wipe σ [k, k']).set k (some (.int j))).set k' (some x)) H (accK F0 H0 D (I (j + 1))))
    (hd : ∀ acc L D H, I xs.length acc L → At F0 H0 (pt D (.lst acc) :: L) H → Q (.ref D) H) :
    ∀ D, H D = none → lcEnd (Ite K a) (gTup K 2 (gCons (gName k) (gCons (gName k') gNil))) tYes te [k, k'] σ Q D H := fun D hD => by
  refine ⟨fun i m H => m = xs.length - i ∧ i ≤ xs.length ∧ invC F0 H0 D (I i) H, ⟨xs.length, by simp, Nat.zero_le _, [], L, h0, h.new hD⟩, ?_⟩
  rintro i m H ⟨rfl, hi, acc, L, p, hp⟩
  have q := hl i acc L D H p hp
  by_cases hlt : i < xs.length
  · refine .inr ⟨⟨xs, xs[i], q, by simp [hlt]⟩, invC F0 H0 D (I (i + 1)), fun H' p' => ⟨xs.length - (i + 1), by omega, rfl, hlt, p'⟩, fun v H' y => ?_⟩
    obtain ⟨T, x, rfl, hT, rfl, hx⟩ := y
    have ht := hp.newX hT (o := .tup [.int (i : Nat), x]) rfl
    refine ⟨T, _, rfl, .of (ht.getX .here), rfl, ?_⟩
    refine s_gcons (s_gname (s_gcons (s_gname (s_gnil ⟨wipe2, ?_⟩))))
    exact s_yesC (hs i x acc L D _ (hx xs q) p ht.drop)
  · have e : i = xs.length := by omega
    subst e
    exact .inl ⟨⟨xs, q, Nat.le_refl _⟩, hd acc L D H p hp⟩
end
end S
namespace S
open PySem PySem.Spec L2
theorem At.only {F0 : FP} {H0 H : Hp} {L L1 M : List HP} (h : At F0 H0 L H) (s : Arr M L L1) : At F0 H0 M H := by
  obtain ⟨F, h1, h2, h3, h4⟩ := (h.arr s).ex
  obtain ⟨F1, F2, a1, a2, a3, a4, a5⟩ := h1.split
  exact ⟨F, a4.sub a1, h2, h3, h4⟩
end S

namespace S
open PySem PySem.Spec L2
section
variable {A B : Prop} {p : Prop} [Decidable p]
theorem s_ifnT (h : ¬ p) (q : A) : if (!decide p) = true then A else B := s_ifnd (fun _ => q) fun e => (h e).elim
theorem s_ifnF (h : p) (q : B) : if (!decide p) = true then A else B := s_ifnd (fun n => (n h).elim) fun _ => q
end
end S
namespace S
open PySem PySem.Spec L2
section
variable {k a : Str} {v x : V} {r : List (Str × V)}
theorem lk_hd : List.lookup k ((k, v) :: r) = some v := by simp [List.lookup]
theorem lk_tl (h : (k == a) = false) : List.lookup k ((a, x) :: r) = List.lookup k r := by simp [List.lookup, h]
theorem lk_nil : List.lookup k ([] : List (Str × V)) = none := rfl
theorem pf_hd : putF k v ((k, x) :: r) = (k, v) :: r := by simp [putF]
theorem pf_tl (h : (k == a) = false) : putF k v ((a, x) :: r) = (a, x) :: putF k v r := by
  have n : ¬ a = k := fun e => by subst e; simp at h
  simp [putF, n]
theorem pf_nil : putF k v [] = [(k, v)] := rfl
end
end S
namespace S
open PySem PySem.Spec L2
theorem cut_to {xs : List V} {k : Nat} : cutV xs none (some (k : Int)) = xs.take k := by
  unfold cutV
  rw [HT.sIx_none, HT.sIx_nat, List.drop_zero, Nat.sub_zero]
  rcases Nat.le_total k xs.length with h | h
  · rw [Nat.min_eq_left h]
  · rw [Nat.min_eq_right h, List.take_length, List.take_of_length_le h]
theorem cut_ft {xs : List V} {k l : Nat} : cutV xs (some (k : Int)) (some (l : Int)) = (xs.drop k).take (l - k) := by
  unfold cutV
  rw [HT.sIx_nat, HT.sIx_nat]
  rcases Nat.le_total k xs.length with h | h
  · rw [Nat.min_eq_left h]
    rcases Nat.le_total l xs.length with h2 | h2
    · rw [Nat.min_eq_left h2]
    · rw [Nat.min_eq_right h2, List.take_of_length_le (by simp), List.take_of_length_le (by simp; omega)]
  · rw [Nat.min_eq_right h, List.drop_length, List.drop_of_length_le h]
    simp
theorem cut_from {xs : List V} {k : Nat} : cutV xs (some (k : Int)) none = xs.drop k := by
  unfold cutV
  rw [HT.sIx_none, HT.sIx_nat]
  rcases Nat.le_total k xs.length with h | h
  · rw [Nat.min_eq_left h, List.take_of_length_le (by simp)]
  · rw [Nat.min_eq_right h, List.drop_length, List.drop_of_length_le h]
    simp
end S
set_option Elab.async false
set_option linter.all false
set_option maxRecDepth 100000
set_option maxHeartbeats 1000000
namespace S
open PySem PySem.Spec L2
/-! ### deep data: ints, lists of ints, lists of those -/
def dr (r : List Int) : PyData := .list (r.map .int)
def dR (rs : List (List Int)) : PyData := .list (rs.map dr)
theorem dr_can : ∀ r : List Int, PyData.canLayAll0 (r.map .int) = true
  | [] => rfl
  | _ :: r => by simp only [List.map_cons, PyData.canLayAll0, PyData.canLay0, dr_can r]; rfl
theorem dr_dep : ∀ r : List Int, PyData.depthAll (r.map .int) = 0
  | [] => rfl
  | _ :: r => by simp only [List.map_cons, PyData.depthAll, PyData.depth, dr_dep r]; rfl
theorem dr_sh {r : List Int} : SeqAt.shaped (dr r) = true := by
  unfold SeqAt.shaped dr
  rw [PyData.canLay0, PyData.depth, dr_can, dr_dep]; rfl
theorem dR_can : ∀ rs : List (List Int), PyData.canLayAll0 (rs.map dr) = true
  | [] => rfl
  | r :: rs => by
    have : PyData.canLay0 (dr r) = true := by rw [dr, PyData.canLay0, dr_can]
    simp only [List.map_cons, PyData.canLayAll0, dR_can rs, this]; rfl
theorem dR_dep : ∀ rs : List (List Int), PyData.depthAll (rs.map dr) ≤ 1
  | [] => Nat.zero_le _
  | r :: rs => by
    have : PyData.depth (dr r) = 1 := by rw [dr, PyData.depth, dr_dep]
    have := dR_dep rs
    simp only [List.map_cons, PyData.depthAll]; omega
theorem dR_sh {rs : List (List Int)} : SeqAt.shaped (dR rs) = true := by
  have := dR_dep rs
  unfold SeqAt.shaped dR
  rw [PyData.canLay0, PyData.depth, dR_can]
  simp; omega
theorem dr_eqA : ∀ r s : List Int, PyData.eqvAll (r.map .int) (s.map .int) = decide (r = s)
  | [], [] => rfl
  | [], _ :: _ => by simp [PyData.eqvAll]
  | _ :: _, [] => by simp [PyData.eqvAll]
  | a :: r, b :: s => by
    simp only [List.map_cons, PyData.eqvAll, PyData.eqv, dr_eqA r s]
    by_cases h : a = b <;> by_cases h2 : r = s <;> simp [h, h2]
theorem dr_eq {r s : List Int} : PyData.eqv (dr r) (dr s) = decide (r = s) := by rw [dr, dr, PyData.eqv, dr_eqA]
theorem dR_eqA : ∀ r s : List (List Int), PyData.eqvAll (r.map dr) (s.map dr) = decide (r = s)
  | [], [] => rfl
  | [], _ :: _ => by simp [PyData.eqvAll]
  | _ :: _, [] => by simp [PyData.eqvAll]
  | a :: r, b :: s => by
    simp only [List.map_cons, PyData.eqvAll, dr_eq, dR_eqA r s]
    by_cases h : a = b <;> by_cases h2 : r = s <;> simp [h, h2]
theorem dR_eq {r s : List (List Int)} : PyData.eqv (dR r) (dR s) = decide (r = s) := by rw [dR, dR, PyData.eqv, dR_eqA]
theorem dp_ints {K : PySem.W.Frag} {H : Hp} : ∀ {r : List Int}, DpAll K H (r.map V.int) (r.map .int)
  | [] => .nil
  | i :: _ => .cons (.int i) dp_ints
theorem dp_row {K : PySem.W.Frag} {H : Hp} {a : Addr} {r : List Int} (h : SqL K H a (r.map V.int)) : Dp K H (.ref a) (dr r) := .lst h dp_ints
section
variable {K : PySem.W.Frag} {F0 : FP} {H0 H : Hp} {L L1 M2 : List HP} {D : Ends} {σ : L2.St} {Q : VK} {a p : Addr} {as : List Addr} {rs ss : List (List Int)} {r s' : List Int} {xs : List V}
theorem dp_rowsA : ∀ {as : List Addr} {rs : List (List Int)}, as.length = rs.length → (∀ (n : Nat) a r, as[n]? = some a → rs[n]? = some r → H a = some (il r)) → DpAll K H (as.map V.ref) (rs.map dr)
  | [], [], _, _ => .nil
  | a :: as, r :: rs, l, h => .cons (dp_row (.of (h 0 a r rfl rfl))) (dp_rowsA (by simpa using l) fun n b s h1 h2 => h (n + 1) b s h1 h2)
  | [], _ :: _, l, _ => by simp at l
  | _ :: _, [], l, _ => by simp at l
theorem At.rowsAll (h : At F0 H0 L H) (s : Sel (rows as rs) L L1) : ∀ (n : Nat) a r, as[n]? = some a → rs[n]? = some r → H a = some (il r) := fun n a r h1 h2 => by
  obtain ⟨b, e1, e2⟩ := h.rowsAt s h2
  rw [h1] at e1; cases e1; exact e2
theorem At.dR (h : At F0 H0 L H) (s1 : Sel (pt p (.lst (as.map V.ref))) L L1) (s2 : Sel (rows as rs) L M2) : Dp K H (.ref p) (dR rs) :=
  .lst (.of (h.get s1)) (dp_rowsA (h.rowsLen s2) (h.rowsAll s2))
theorem s_eqD2 {x y : V} (h1 : Dp K H x (dR rs)) (h2 : Dp K H y (dR ss)) (q : Q (.bl (decide (rs = ss))) H) : rEqD K x y H Q := ⟨_, _, h1, h2, dR_sh, dR_sh, by rw [dR_eq]; exact q⟩
theorem s_neD2 {x y : V} (h1 : Dp K H x (dR rs)) (h2 : Dp K H y (dR ss)) (q : Q (.bl (!decide (rs = ss))) H) : rNeD K x y H Q := ⟨_, _, h1, h2, dR_sh, dR_sh, by rw [dR_eq]; exact q⟩
theorem s_eqD1 {x y : V} (h1 : Dp K H x (dr r)) (h2 : Dp K H y (dr s')) (q : Q (.bl (decide (r = s'))) H) : rEqD K x y H Q := ⟨_, _, h1, h2, dr_sh, dr_sh, by rw [dr_eq]; exact q⟩
theorem s_neD1 {x y : V} (h1 : Dp K H x (dr r)) (h2 : Dp K H y (dr s')) (q : Q (.bl (!decide (r = s'))) H) : rNeD K x y H Q := ⟨_, _, h1, h2, dr_sh, dr_sh, by rw [dr_eq]; exact q⟩
/-! ### x in a tuple of deep data -/
def rInTD (K : PySem.W.Frag) (neg : Bool) : R2 := fun x y H Q => ∃ d ds, Dp K H x d ∧ Dp K H y (.tuple ds) ∧ PyData.canLayAll0 ds = true ∧ d.canLay0 = true ∧ d.depth < 63 ∧ Q (.bl (if neg then !(ds.any fun y => PyData.eqv y d) else ds.any fun y => PyData.eqv y d)) H
theorem op_inTD {X : Cx} (hu : X.A.units + 64 < cLine) : OpR X (compareOp .In) (rInTD X.K false) := by
  intro pins s σ H x y v u Q I rx ry h
  obtain ⟨d, ds, hd, he, sd, se, dp, q⟩ := h
  obtain ⟨as, r1⟩ := Dp.reads I d x v hd rx
  obtain ⟨bs, r2⟩ := Dp.reads I _ y u he ry
  exact SeqAt.in_tuple_reads r2 r1 sd se (by omega) ⟨.bl _, H, I, rfl, q⟩
theorem op_notInTD {X : Cx} (hu : X.A.units + 64 < cLine) : OpR X (compareOp .NotIn) (rInTD X.K true) := by
  intro pins s σ H x y v u Q I rx ry h
  obtain ⟨d, ds, hd, he, sd, se, dp, q⟩ := h
  obtain ⟨as, r1⟩ := Dp.reads I d x v hd rx
  obtain ⟨bs, r2⟩ := Dp.reads I _ y u he ry
  exact SeqAt.notIn_tuple_reads r2 r1 sd se (by omega) ⟨.bl _, H, I, rfl, q⟩
/-! ### a loop over a tuple -/
theorem q_tupI {tl : TE} {R : It → Hp → Prop} : iTup K tl σ H R = tl σ H fun x H1 => ∃ a, x = .ref a ∧ (∃ xs, SqT K H1 a xs) ∧ R (Itt K a) H1 := rfl
theorem s_tupI {P : Addr → Prop} (h : SqT K H a xs) (q : P a) : ∃ a', V.ref a = .ref a' ∧ (∃ xs, SqT K H a' xs) ∧ P a' := ⟨a, rfl, ⟨xs, h⟩, q⟩
theorem s_forT {g : TG} {tb : TS} (I : Nat → L2.St → List HP → Prop) (h : At F0 H0 L H) (h0 : I 0 σ L) (hl : ∀ j σ L H, I j σ L → At F0 H0 L H → SqT K H a xs)
    (hs : ∀ j x σ L H, xs[j]? = some x → I j σ L → At F0 H0 L H → g x σ H fun σ2 H2 => tb ⟨inv F0 H0 (I (j + 1)), D.rt, D.nx, inv F0 H0 (I (j + 1))⟩ σ2 H2) (hd : ∀ σ L H, I xs.length σ L → At F0 H0 L H → D.nx σ H) :
    forEnd (Itt K a) g tb D σ H :=
  by
  refine ⟨fun i m σ H => m = xs.length - i ∧ i ≤ xs.length ∧ inv F0 H0 (I i) σ H, ⟨xs.length, by simp, Nat.zero_le _, L, h0, h⟩, ?_⟩
  rintro i m σ H ⟨rfl, hi, L, p, hp⟩
  have q := hl i σ L H p hp
  by_cases hlt : i < xs.length
  · refine .inr ⟨⟨xs, xs[i], q, by simp [hlt]⟩, inv F0 H0 (I (i + 1)), fun σ' H' p' => ⟨xs.length - (i + 1), by omega, rfl, hlt, p'⟩, fun x H' y => ?_⟩
    obtain ⟨e, y⟩ := y
    subst e
    exact hs i x σ L _ (y xs q) p hp
  · have e : i = xs.length := by omega
    subst e
    exact .inl ⟨⟨xs, q, Nat.le_refl _⟩, hd σ L H p hp⟩
end
end S
set_option Elab.async false
set_option linter.all false
set_option maxRecDepth 100000
set_option maxHeartbeats 1000000
namespace S
open PySem PySem.Spec L2
theorem exc_of {K : PySem.W.Frag} {h : Heap} {mg : Str → Option Value} {x : Str} (X : K.In h) (G : h.Ns mainGlobals mg) (c1 : (He.Fa.glo x).ok K = true) (c2 : (He.Fa.exc x).ok K = true) : ExC K mg x (He.ga K x) [.type "ValueError", .type "Exception", .type "BaseException", .type "object"] := by
  obtain ⟨e1, e2, e3, e4⟩ := He.exc_ok c2
  exact ⟨He.glo_ok X G c1, e1, e2, e3, e4⟩
theorem Tri.zero {Pre : List HP} {R : V → List HP → Prop} {H : Hp} {Q : VK} {E E' : XK} (t : Tri Pre R (fun _ _ _ => False) H Q E) : Tri Pre R (fun _ _ _ => False) H Q E' := by
  obtain ⟨F, h1, h2, h3, -⟩ := t
  exact ⟨F, h1, h2, h3, fun _ _ _ _ z => z.elim⟩
section
variable {P : Program} {w : World} {K : PySem.W.Frag} {mg : Str → Option Value} {base : Heap} {k : Nat} {f : Addr} {fd : FuncData} {ps : List Str} {sp sp' : Sp} {x m : Str} {C : Addr}
theorem FnOk.toZ (F : FnOk P w K mg base (L2.CX P w) k f fd ps sp) (h : ∀ vs H Q E, sp' vs H Q E → sp vs H Q (fun _ _ _ => False)) : FnOk P w K mg base CX0 k f fd ps sp' :=
  FnOk.to0 (sp := fun vs H Q _ => sp vs H Q (fun _ _ _ => False)) ⟨fun vs H Q E q => F.len vs H Q _ q, fun A outer s H args us vs Q E hr he hb hv hs => codeAny_mono (F.run A outer s H args us vs Q _ hr he hb hv hs) fun r s' hq => by
    cases r with
    | error e =>
      obtain ⟨a, B, H', cls, d, _, _, _, _, _, _, _, z⟩ := (show L2.CX P w outer H s (fun _ _ _ => False) e s' from hq)
      exact z.elim
    | ok fl => cases fl <;> exact hq⟩ (fun _ _ _ _ q => q) |>.imp h
theorem MkAt.to0 (D : MkAt P w K mg base (L2.CX P w) k x C sp) (h : ∀ vs H Q E, sp' vs H Q E → sp vs H Q (fun _ _ _ => False)) : MkAt P w K mg base CX0 k x C sp' := by
  obtain ⟨f, fd, ps, h1, h2, h3, F⟩ := D.ex
  exact ⟨f, fd, ps, h1, h2, h3, FnOk.toZ F h⟩
end
end S
set_option Elab.async false
set_option linter.all false
set_option maxRecDepth 100000
set_option maxHeartbeats 1000000
/-! dicts whose keys are tuples: pop of one argument, setdefault -/
namespace S
open PySem PySem.Spec PyProof.Rows L2
section
variable {X : Cx} {pins : List (Addr × Obj)} {σ : L2.St} {H : Hp} {s : Shared} {a b : Addr} {r : Value} {d : V} {k : List L2.Key} {A : Around} {E : Value → Shared → Prop} {kvs : List (List L2.Key × V)}
theorem d_popT1 {v : V} {Q : Value → Shared → Prop} (hu : A.units + 1 < cLine) (I : Inv X pins σ H s) (ha : H a = some (.dT kvs)) (hb : H b = some (.tup (k.map kV))) (l : valV kvs k = some v)
    (h : ∀ w' s', Inv X pins σ (upd H a (.dT (dropK kvs k))) s' → RelV v w' → Q w' s') : wpAny (model X.prog X.w) A (call (.builtin "dict.pop") [.ref a, .ref b]) Q E s := by
  obtain ⟨z, hd, xs', rel, dd⟩ := dt_of I.hok ha
  have hz : xs'.length ≤ sizeLine := by rw [← Paired.length rel]; exact z
  obtain ⟨p, hp, rv⟩ : ∃ p, atKey xs' k = some p ∧ RelV v p.2 := by
    have q := rel.val k
    rw [l] at q
    cases e : atKey xs' k with
    | none =>
      rw [e] at q
      exact (show False from q).elim
    | some p =>
      rw [e] at q
      exact ⟨p, rfl, q⟩
  refine call_pop_heap (knd := tupleKind (mixKind X.prog X.w)) (more := []) (.inl rfl) (PySem.F.args_dict_pop_2 _ _) (tupleKind_room_in1 hu) (key_of I.hok hb) hd dd hp (fun h' dd' hs => ?_) hz
  obtain ⟨o, es, ep, hq, h2, h3, h4, _, h5⟩ := dd'
  refine h _ _ ?_ rv
  exact d_write (t' := _) I (by rw [ha]; exact True.intro) hs ⟨o, hq⟩ ⟨Nat.le_trans (dropK_le kvs k) z, hd, _, (DX.KT_drop k rel).keeps (fun c ys ec => (by
    rw [upd_ne]
    · exact ec
    · rintro rfl; rw [ha] at ec; cases ec)), o, es, ep, hq, h2, h3, h4, h5⟩
theorem d_setdT {Q : Value → Shared → Prop} (hu : A.units + 1 < cLine) (I : Inv X pins σ H s) (ha : H a = some (.dT kvs)) (hb : H b = some (.tup (k.map kV))) (rd : RelV d r) (hl : kvs.length < sizeLine)
    (h1 : ∀ v, valV kvs k = some v → ∀ (w' : Value) (s' : Shared), Inv X pins σ H s' → RelV v w' → Q w' s') (h2 : valV kvs k = none → ∀ (w' : Value) (s' : Shared), Inv X pins σ (upd H a (.dT (putK kvs k d))) s' → RelV d w' → Q w' s') :
    wpAny (model X.prog X.w) A (call (.builtin "dict.setdefault") [.ref a, .ref b, r]) Q E s := by
  obtain ⟨z, hd, xs', rel, dd⟩ := dt_of I.hok ha
  have hz : xs'.length ≤ sizeLine := by rw [← Paired.length rel]; exact z
  refine call_setdefault_heap (knd := tupleKind (mixKind X.prog X.w)) (tupleKind_room_in1 hu) (key_of I.hok hb) hd dd (fun p hp => ?_) (fun hn h' dd' hs => ?_) hz
  · have q := rel.val k
    rw [hp] at q
    cases q0 : valV kvs k with
    | none =>
      rw [q0] at q
      exact (show False from q).elim
    | some v0 =>
      rw [q0] at q
      exact h1 v0 q0 _ _ (I.tok _) q
  · have q := rel.val k
    rw [hn] at q
    cases q0 : valV kvs k with
    | some v0 =>
      rw [q0] at q
      exact (show False from q).elim
    | none =>
      have hl2 : (putK kvs k d).length ≤ sizeLine := by
        have := length_putK kvs k d
        omega
      obtain ⟨o, es, ep, hq, e2, e3, e4, _, e5⟩ := dd'
      refine h2 q0 _ _ ?_ rd
      exact d_write (t' := _) I (by rw [ha]; exact True.intro) hs ⟨o, hq⟩ ⟨hl2, hd, _, (rel.put k hb rd).keeps (fun c ys ec => (by
        rw [upd_ne]
        · exact ec
        · rintro rfl; rw [ha] at ec; cases ec)), o, es, ep, hq, e2, e3, e4, e5⟩
end
/-- d.pop(k), its keys tuples, there -/
def tDPopT (td ty : TE) : TE := fun σ H Q => td σ H fun x H1 => ∃ a, x = .ref a ∧ IsD H1 a ∧ ty σ H1 fun y H2 => ∃ kvs k b v, H2 a = some (.dT kvs) ∧ y = .ref b ∧ H2 b = some (.tup (k.map kV)) ∧ valV kvs k = some v ∧ Q v (upd H2 a (.dT (dropK kvs k)))
/-- d.setdefault(y, z), its keys tuples -/
def tDSetT (td ty tx : TE) : TE := fun σ H Q => td σ H fun x H1 => ∃ a, x = .ref a ∧ IsD H1 a ∧ ty σ H1 fun y H2 => tx σ H2 fun z H3 => ∃ kvs k b, H3 a = some (.dT kvs) ∧ y = .ref b ∧ H3 b = some (.tup (k.map kV)) ∧ kvs.length < sizeLine ∧
  (∀ v, valV kvs k = some v → Q v H3) ∧ (valV kvs k = none → Q z (upd H3 a (.dT (putK kvs k z))))
section
variable {X : Cx} {o e f : Expr} {td ty tx : TE} {apos cpos : Pos}
theorem pe_dpopT (hu : X.A.units + 1 < cLine) (ho : PE X o td) (he : PE X e ty) (m : M1 X o "pop" apos e cpos) : PE X (.Call (.Attribute o "pop" apos) [e] [] cpos) (tDPopT td ty) := by
  refine ⟨fun pins s σ H Q I h => ?_⟩
  refine wpAny_Call_method m.base m.few m.line PySem.F.plainAttrs_dict PySem.F.slot_dict_pop PySem.F.type_dict_pop (thn (ho.run pins s σ H _ I h) fun u s1 ⟨x, H1, I1, rx, a, ex, d, q1⟩ => ?_)
  subst ex
  obtain rfl : u = Value.ref a := rx
  obtain ⟨t1, t2, _⟩ := isD_at I1 d
  refine ⟨t1, t2, ?_⟩
  rw [m.trees]
  refine Calls.callWith_builtin rfl (Calls.evalArgs_plain (Calls.spliced_cons (thn (he.run pins s1 σ H1 _ I1 q1) fun iv s2 ⟨y, H2, I2, ry, kvs, k, b, v, ea, ey, eb, l, q2⟩ => Calls.spliced_nil ?_)))
  subst ey
  obtain rfl : iv = Value.ref b := ry
  exact d_popT1 hu I2 ea eb l fun w' s3 I3 rw' => ⟨v, _, I3, rw', q2⟩
theorem pe_dsetT (hu : X.A.units + 1 < cLine) (ho : PE X o td) (he : PE X e ty) (hf : PE X f tx) (m : M2 X o "setdefault" apos e f cpos) : PE X (.Call (.Attribute o "setdefault" apos) [e, f] [] cpos) (tDSetT td ty tx) := by
  refine ⟨fun pins s σ H Q I h => ?_⟩
  refine wpAny_Call_method m.base m.few m.line PySem.F.plainAttrs_dict PySem.F.slot_dict_setdefault PySem.F.type_dict_setdefault (thn (ho.run pins s σ H _ I h) fun u s1 ⟨x, H1, I1, rx, a, ex, d, q1⟩ => ?_)
  subst ex
  obtain rfl : u = Value.ref a := rx
  obtain ⟨t1, t2, _⟩ := isD_at I1 d
  refine ⟨t1, t2, ?_⟩
  rw [m.trees]
  refine Calls.callWith_builtin rfl (Calls.evalArgs_plain (Calls.spliced_cons (thn (he.run pins s1 σ H1 _ I1 q1) fun iv s2 ⟨y, H2, I2, ry, q2⟩ =>
    Calls.spliced_cons (thn (hf.run pins s2 σ H2 _ I2 q2) fun fv s3 ⟨z, H3, I3, rz, kvs, k, b, ea, ey, eb, hl, q3, q4⟩ => Calls.spliced_nil ?_))))
  subst ey
  obtain rfl : iv = Value.ref b := ry
  exact d_setdT hu I3 ea eb rz hl (fun v hv w' s4 I4 rw' => ⟨v, _, I4, rw', q3 v hv⟩) fun hn w' s4 I4 rw' => ⟨z, _, I4, rw', q4 hn⟩
end
section
variable {X : Cx}
/-- l[i] ahead of an l[i] op= v -/
theorem get_list : PGet X (rIxL X.K) := by
  intro pins s σ H x y v u Q I rx ry h
  obtain ⟨p, xs, i, z, rfl, rfl, hq, he, q⟩ := h
  cases rx
  obtain ⟨t, rfl⟩ := ry
  obtain ⟨its, r, pl, hz⟩ := I.list hq
  obtain ⟨j, h1, h2, h3, h4, h5⟩ := atI_get he
  obtain ⟨w, ew, rw'⟩ := r.get h2
  have hl := r.length
  have hn := line63
  have fin : EP X pins σ Q w s := ⟨z, H, I, rw', q⟩
  by_cases h0 : 0 ≤ i
  · have hj : i.toNat = j := by
      rw [seqIndex_of h0 h5] at h1
      exact Option.some.inj h1
    exact wpAny_getItem_list pl.isList h0 (by omega) (by rw [hj]; simpa using ew) fin
  · have hj : (i + (its.toArray.size : Int)).toNat = j := by
      rw [seqIndex_neg (by omega) h4] at h1
      rw [List.size_toArray, ← hl]
      exact Option.some.inj h1
    exact wpAny_getItem_list_neg pl.isList (by omega) (by rw [List.size_toArray] <;> omega) (by omega) (by rw [hj]; simpa using ew) fin
end
end S
set_option Elab.async false
set_option linter.all false
set_option maxRecDepth 100000
set_option maxHeartbeats 1000000
namespace S
open PySem PySem.Spec L2
/-! ### like parts at addresses -/
def rgL {α : Type} (P : Addr → α → HP) : List Addr → List α → List HP
  | a :: as, x :: xs => P a x :: rgL P as xs
  | _, _ => []
def rowsG {α : Type} (P : Addr → α → HP) (as : List Addr) (xs : List α) : HP := HP.pur (as.length = xs.length) (HP.all (rgL P as xs))
section
variable {α : Type} {P : Addr → α → HP} {F0 : FP} {H0 H : Hp} {L L1 : List HP} {as : List Addr} {xs : List α} {n : Nat} {a : Addr} {x : α}
theorem rgL_sel : ∀ {as : List Addr} {xs : List α} {n : Nat} {a : Addr} {x : α}, as[n]? = some a → xs[n]? = some x → Sel (P a x) (rgL P as xs) (rgL P (as.eraseIdx n) (xs.eraseIdx n))
  | a :: as, r :: rs, 0, _, _, h1, h2 => by
    cases h1; cases h2; exact .here
  | a :: as, r :: rs, n + 1, _, _, h1, h2 => .there (rgL_sel (as := as) (xs := rs) (n := n) h1 h2)
  | [], _, _, _, _, h, _ => by simp at h
  | _ :: _, [], _, _, _, _, h => by simp at h
theorem At.gLen (h : At F0 H0 L H) (s : Sel (rowsG P as xs) L L1) : as.length = xs.length := h.know s fun _ k => k.1
theorem At.gPop (h : At F0 H0 L H) (s : Sel (rowsG P as xs) L L1) (h1 : as[n]? = some a) (h2 : xs[n]? = some x) : At F0 H0 (P a x :: rowsG P (as.eraseIdx n) (xs.eraseIdx n) :: L1) H := by
  obtain ⟨F, ⟨F1, F2, a1, a2, a3, ⟨b4, b5⟩, b6⟩, k2, k3, k4⟩ := (h.sel s).ex
  obtain ⟨g1, g2, c1, c2, c3, c4, c5⟩ := (rgL_sel h1 h2).sep b5
  exact ⟨F, ⟨g1, fun x => g2 x ∨ F2 x, fun x q => a1 x (c1 x q), fun x q => q.elim (fun q => a1 x (c2 x q)) (a2 x), fun x q q2 => q2.elim (c3 x q) (a3 x (c1 x q)), c4,
    g2, F2, fun _ => .inl, fun _ => .inr, fun x q q2 => a3 x (c2 x q) q2, ⟨by
      have l1 := (List.getElem?_eq_some_iff.mp h1).1
      have l2 := (List.getElem?_eq_some_iff.mp h2).1
      rw [List.length_eraseIdx, List.length_eraseIdx, if_pos l1, if_pos l2, b4], c5⟩, b6⟩, k2, k3, k4⟩
theorem At.gBack (h : At F0 H0 L H) (s : Arr [P a x, rowsG P (as.eraseIdx n) (xs.eraseIdx n)] L L1) (h1 : as[n]? = some a) (h2 : xs[n]? = some x) (l : as.length = xs.length) : At F0 H0 (rowsG P as xs :: L1) H := by
  obtain ⟨F, ⟨F1, F2, a1, a2, a3, a4, G1, G2, b1, b2, b3, ⟨b4, b5⟩, b6⟩, k2, k3, k4⟩ := (h.arr s).ex
  have z : S.sep (rgL P as xs) (fun x => F1 x ∨ G1 x) H := (rgL_sel h1 h2).back ⟨F1, G1, fun _ => .inl, fun _ => .inr, fun x q q2 => a3 x q (b1 x q2), a4, b5⟩
  exact ⟨F, ⟨fun x => F1 x ∨ G1 x, G2, fun x q => q.elim (a1 x) fun q => a2 x (b1 x q), fun x q => a2 x (b2 x q), fun x q q2 => q.elim (fun q => a3 x q (b2 x q2)) fun q => b3 x q q2, ⟨l, z⟩, b6⟩, k2, k3, k4⟩
/-- put back with another content -/
theorem At.gSet (h : At F0 H0 L H) (s : Arr [P a x, rowsG P (as.eraseIdx n) (xs.eraseIdx n)] L L1) (h1 : as[n]? = some a) (l : as.length = xs.length) : At F0 H0 (rowsG P as (xs.set n x) :: L1) H := by
  have ln : n < xs.length := by have := (List.getElem?_eq_some_iff.mp h1).1; omega
  refine At.gBack (n := n) (a := a) (x := x) h ?_ h1 (by simp [ln]) (by simpa using l)
  rw [List.eraseIdx_set_eq]
  exact s
theorem At.gNil (h : At F0 H0 L H) : At F0 H0 (rowsG P [] [] :: L) H := by
  obtain ⟨F, h1, h2, h3, h4⟩ := h.ex
  exact ⟨F, ⟨fun _ => False, F, fun _ q => q.elim, fun _ q => q, fun _ q _ => q, ⟨rfl, trivial⟩, h1⟩, h2, h3, h4⟩
theorem rgL_snoc : ∀ {as : List Addr} {xs : List α}, as.length = xs.length → rgL P (as ++ [a]) (xs ++ [x]) = rgL P as xs ++ [P a x]
  | [], [], _ => rfl
  | b :: as, y :: xs, h => by
    show P b y :: rgL P (as ++ [a]) (xs ++ [x]) = _
    rw [rgL_snoc (by simpa using h)]; rfl
  | [], _ :: _, h => by simp at h
  | _ :: _, [], h => by simp at h
theorem At.gSnoc (h : At F0 H0 L H) (s : Arr [P a x, rowsG P as xs] L L1) : At F0 H0 (rowsG P (as ++ [a]) (xs ++ [x]) :: L1) H := by
  obtain ⟨F, ⟨F1, F2, a1, a2, a3, a4, G1, G2, b1, b2, b3, ⟨b4, b5⟩, b6⟩, h2, h3, h4⟩ := (h.arr s).ex
  have z : S.sep (rgL P as xs ++ [P a x]) (fun a => G1 a ∨ F1 a) H := sep.join (fun x q q2 => a3 x q2 (b1 x q)) b5 ⟨F1, fun _ => False, fun _ q => q, fun _ q => q.elim, fun _ _ q => q, a4, trivial⟩
  exact ⟨F, ⟨fun a => G1 a ∨ F1 a, G2, fun x q => q.elim (fun q => a2 x (b1 x q)) (a1 x), fun x q => a2 x (b2 x q), fun x q q2 => q.elim (fun q => b3 x q q2) fun q => a3 x q (b2 x q2), ⟨by simp [b4], by rw [rgL_snoc b4]; exact z⟩, b6⟩, h2, h3, h4⟩
/-- what holds of one of them -/
theorem At.gKnow (h : At F0 H0 L H) (s : Sel (rowsG P as xs) L L1) (h1 : as[n]? = some a) (h2 : xs[n]? = some x) {q : Prop} (k : ∀ F, (P a x).on F H → q) : q := (h.gPop s h1 h2).know .here k
end
/-! ### keys with values -/
def zv {κ Λ β : Type} (enc : κ → Λ) (m : List (κ × β)) (vs : List V) : List (Λ × V) := List.zipWith (fun p v => (enc p.1, v)) m vs
section
variable {κ Λ β : Type} [DecidableEq Λ] {enc : κ → Λ} {k : κ} {v : V} {x : β}
theorem zv_keys : ∀ {m : List (κ × β)} {vs : List V}, vs.length = m.length → (zv enc m vs).map (·.1) = (m.map (·.1)).map enc
  | [], [], _ => rfl
  | p :: m, v :: vs, h => by
    show enc p.1 :: (zv enc m vs).map (·.1) = _
    rw [zv_keys (by simpa using h)]; rfl
  | [], _ :: _, h => by simp at h
  | _ :: _, [], h => by simp at h
theorem zv_len {m : List (κ × β)} {vs : List V} (l : vs.length = m.length) : (zv enc m vs).length = m.length := by simp [zv, l]
theorem zv_get (inj : ∀ a b, enc a = enc b → a = b) : ∀ {m : List (κ × β)} {vs : List V}, vs.length = m.length → k ∈ m.map (·.1) → ∃ (i : Nat) (v : V) (x : β), vs[i]? = some v ∧ m[i]? = some (k, x) ∧ valV (zv enc m vs) (enc k) = some v := by
  intro m
  induction m with
  | nil => intro vs _ h; cases h
  | cons p m ih =>
    intro vs l h
    cases vs with
    | nil => simp at l
    | cons v vs =>
      by_cases e : p.1 = k
      · subst e
        exact ⟨0, v, p.2, rfl, rfl, valV_pos rfl⟩
      · have h2 : k ∈ m.map (·.1) := by
          rcases List.mem_cons.mp (show k ∈ p.1 :: m.map (·.1) from h) with rfl | h
          · exact (e rfl).elim
          · exact h
        obtain ⟨i, w, x, h3, h4, h5⟩ := ih (vs := vs) (by simpa using l) h2
        exact ⟨i + 1, w, x, h3, h4, (valV_neg (fun z => e (inj _ _ z))).trans h5⟩
theorem zv_none (inj : ∀ a b, enc a = enc b → a = b) {m : List (κ × β)} {vs : List V} (l : vs.length = m.length) (h : ¬ k ∈ m.map (·.1)) : valV (zv enc m vs) (enc k) = none := by
  rw [valV, List.find?_eq_none.mpr]
  · rfl
  · intro kv hk e
    have e : kv.1 = enc k := by simpa using e
    have : kv.1 ∈ (zv enc m vs).map (·.1) := List.mem_map.mpr ⟨kv, hk, rfl⟩
    rw [zv_keys l, e] at this
    obtain ⟨y, hy, e2⟩ := List.mem_map.mp this
    exact h (inj _ _ e2 ▸ hy)
theorem zv_any (inj : ∀ a b, enc a = enc b → a = b) {m : List (κ × β)} {vs : List V} (l : vs.length = m.length) : ((zv enc m vs).any fun kv => decide (kv.1 = enc k)) = true ↔ k ∈ m.map (·.1) := by
  rw [List.any_eq_true]
  constructor
  · rintro ⟨kv, hk, e⟩
    have e : kv.1 = enc k := by simpa using e
    have : kv.1 ∈ (zv enc m vs).map (·.1) := List.mem_map.mpr ⟨kv, hk, rfl⟩
    rw [zv_keys l, e] at this
    obtain ⟨y, hy, e2⟩ := List.mem_map.mp this
    exact inj _ _ e2 ▸ hy
  · intro h
    have : enc k ∈ (zv enc m vs).map (·.1) := by rw [zv_keys l]; exact List.mem_map.mpr ⟨k, h, rfl⟩
    obtain ⟨kv, hk, e⟩ := List.mem_map.mp this
    exact ⟨kv, hk, by simp [e]⟩
theorem zv_put_new (inj : ∀ a b, enc a = enc b → a = b) {m : List (κ × β)} {vs : List V} (l : vs.length = m.length) (h : ¬ k ∈ m.map (·.1)) : putK (zv enc m vs) (enc k) v = zv enc (m ++ [(k, x)]) (vs ++ [v]) := by
  rw [putK, if_neg (fun z => h ((zv_any inj l).mp z)), zv, zv, List.zipWith_append l.symm]
  rfl
theorem zv_put_old (inj : ∀ a b, enc a = enc b → a = b) {m : List (κ × β)} {vs : List V} (l : vs.length = m.length) (nd : (m.map (·.1)).Nodup) {i : Nat} {y : β} (h : m[i]? = some (k, y)) : putK (zv enc m vs) (enc k) v = zv enc (m.set i (k, x)) (vs.set i v) := by
  obtain ⟨il, ie⟩ := List.getElem?_eq_some_iff.mp h
  rw [putK, if_pos ((zv_any inj l).mpr (List.mem_map.mpr ⟨_, List.mem_of_getElem? h, rfl⟩))]
  apply List.ext_getElem
  · simp [zv]
  · intro j j1 j2
    have jm : j < m.length := by simp [zv, l] at j1; omega
    have ja : j < vs.length := by omega
    simp only [zv, List.getElem_map, List.getElem_zipWith, List.getElem_set]
    by_cases e : i = j
    · subst e
      simp [ie]
    · have ne : ¬ enc m[j].1 = enc k := fun z => e ((List.getElem_inj (h₀ := by simpa using il) (h₁ := by simpa using jm) nd).mp (by
        rw [List.getElem_map, List.getElem_map, ie, inj _ _ z]))
      simp [e, ne]
theorem zv_drop (inj : ∀ a b, enc a = enc b → a = b) : ∀ {m : List (κ × β)} {vs : List V} {i : Nat} {y : β}, vs.length = m.length → (m.map (·.1)).Nodup → m[i]? = some (k, y) → dropK (zv enc m vs) (enc k) = zv enc (m.eraseIdx i) (vs.eraseIdx i)
  | p :: m, v :: vs, 0, y, l, nd, h => by
    obtain rfl : p = (k, y) := by simpa using h
    have nd := List.nodup_cons.mp nd
    show List.filter _ ((enc k, v) :: zv enc m vs) = zv enc m vs
    rw [List.filter_cons_of_neg (by simp)]
    rw [List.filter_eq_self]
    intro q hq
    have : q.1 ∈ (zv enc m vs).map (·.1) := List.mem_map.mpr ⟨q, hq, rfl⟩
    rw [zv_keys (by simpa using l)] at this
    obtain ⟨z, hz, e⟩ := List.mem_map.mp this
    simp only [decide_eq_true_eq]
    intro e2
    rw [e2] at e
    exact nd.1 (inj _ _ e ▸ hz)
  | p :: m, v :: vs, i + 1, y, l, nd, h => by
    have nd2 := List.nodup_cons.mp nd
    have ih := zv_drop inj (m := m) (vs := vs) (i := i) (y := y) (by simpa using l) nd2.2 (by simpa using h)
    have ne : ¬ enc p.1 = enc k := fun z => nd2.1 (List.mem_map.mpr ⟨(k, y), List.mem_of_getElem? (by simpa using h), (inj _ _ z).symm⟩)
    show List.filter _ ((enc p.1, v) :: zv enc m vs) = (enc p.1, v) :: zv enc (m.eraseIdx i) (vs.eraseIdx i)
    rw [List.filter_cons_of_pos (by simpa using ne), ← ih]
    rfl
  | [], _, _, _, _, _, h => by simp at h
  | _ :: _, [], _, _, l, _, _ => by simp at l
end
/-! ### locked dicts -/
def lockK (d : Addr) (od : Obj) (u : HO) (Q : VK) : VK := fun v H => H d = some (.frz od u) ∧ Q v (upd H d u)
section
variable {F0 : FP} {H0 H : Hp} {L L1 : List HP} {σ : L2.St} {Q : VK} {t : TE} {d : Addr} {kvs : List (Key × V)} {od : Obj} {v : V}
theorem s_lockE (h : At F0 H0 L H) (s : Sel (pt d (.dK kvs)) L L1) (q : ∀ od H', At F0 H0 (pt d (.frz od (.dK kvs)) :: L1) H' → t σ H' (lockK d od (.dK kvs) Q)) : tLockE t σ H Q :=
  ⟨d, .dK kvs, h.get s, True.intro, fun od => q od _ (h.set s)⟩
theorem s_unlock (h : At F0 H0 L H) (s : Sel (pt d (.frz od (.dK kvs))) L L1) (q : ∀ H', At F0 H0 (pt d (.dK kvs) :: L1) H' → Q v H') : lockK d od (.dK kvs) Q v H := ⟨h.get s, q _ (h.set s)⟩
end
def rListT : List V → Hp → VK → Prop := fun xs H Q => ∃ d kvs, xs = [V.ref d] ∧ Rd H d (.dT kvs) ∧ ∀ p bs, H p = none → IsKeys H kvs bs → Q (.ref p) (upd H p (.lst (bs.map V.ref)))
theorem q_augS {to ti te : TE} {tget : V → V → Hp → VK → Prop} {tip : TIp} {tset : TSet} {D : Ends} {σ : L2.St} {H : Hp} : tAugS to ti te tget tip tset D σ H =
  to σ H fun o H1 => ti σ H1 fun i H2 => tget o i H2 fun x H3 => te σ H3 fun y H4 => tip x y H4 fun z H5 => tset o i z H5 fun H6 => D.nx σ H6 := rfl
theorem inV_ints {i : Int} : ∀ {xs : List Int}, inV (.int i) (xs.map V.int) = decide (i ∈ xs)
  | [] => by simp [inV]
  | x :: xs => by
    have ih := inV_ints (i := i) (xs := xs)
    have e : inV (.int i) ((x :: xs).map V.int) = ((x == i) || inV (.int i) (xs.map V.int)) := rfl
    rw [e, ih, Bool.eq_iff_iff]
    simp only [Bool.or_eq_true, beq_iff_eq, decide_eq_true_eq, List.mem_cons]
    constructor
    · rintro (h | h)
      · exact .inl h.symm
      · exact .inr h
    · rintro (h | h)
      · exact .inl h.symm
      · exact .inr h
theorem flat_ints {xs : List Int} : (xs.map V.int).all flatV = true := by
  rw [List.all_eq_true]
  intro v hv
  obtain ⟨i, -, rfl⟩ := List.mem_map.mp hv
  rfl
section
variable {K : PySem.W.Frag} {H : Hp} {Q : VK} {a : Addr} {xs : List Int} {i : Int}
theorem s_notInIL (h : SqL K H a (xs.map V.int)) (q : Q (.bl (!decide (i ∈ xs))) H) : rIn K true (.int i) (.ref a) H Q := ⟨a, _, rfl, .inl h, rfl, flat_ints, by rw [inV_ints]; exact q⟩
theorem s_inIL (h : SqL K H a (xs.map V.int)) (q : Q (.bl (decide (i ∈ xs))) H) : rIn K false (.int i) (.ref a) H Q := ⟨a, _, rfl, .inl h, rfl, flat_ints, by rw [inV_ints]; exact q⟩
theorem first_at : ∀ {xs : List Int}, i ∈ xs → ∃ j : Nat, xs[j]? = some i ∧ ∀ m : Nat, m < j → xs[m]? ≠ some i
  | x :: xs, h => by
    by_cases e : x = i
    · exact ⟨0, by simp [e], fun m hm => by omega⟩
    · have h : i ∈ xs := by
        rcases List.mem_cons.mp h with h | h
        · exact (e h.symm).elim
        · exact h
      obtain ⟨j, h1, h2⟩ := first_at h
      refine ⟨j + 1, by simpa using h1, fun m hm => ?_⟩
      cases m with
      | zero => simpa using e
      | succ m => simpa using h2 m (by omega)
theorem s_indexI (h : SqL K H a (xs.map V.int)) (hi : i ∈ xs) (q : ∀ j : Nat, xs[j]? = some i → Q (.int j) H) : rIndex K (.ref a) [.int i] H Q := by
  obtain ⟨j, h1, h2⟩ := first_at hi
  refine ⟨a, _, .int i, j, .int i, rfl, rfl, h, rfl, flat_ints, by simp [h1], by simp [eqV], fun m z hm hz => ?_, q j h1⟩
  rw [List.getElem?_map] at hz
  cases e : xs[m]? with
  | none => rw [e] at hz; cases hz
  | some y =>
    rw [e] at hz
    cases hz
    have : y ≠ i := fun z => h2 m hm (by rw [e, z])
    simpa [eqV] using this
theorem s_countI (h : SqL K H a (xs.map V.int)) (q : Q (.int (xs.count i : Nat)) H) : rCntI K (.ref a) [.int i] H Q := ⟨a, xs, i, rfl, rfl, h, q⟩
end
theorem At.putA {F0 : FP} {H0 H : Hp} {L L1 : List HP} {as : List Addr} {rs : List (List Int)} {n : Nat} {p : Addr} {r : List Int} (h : At F0 H0 L H) (s : Arr [pt p (il r), rows as rs] L L1) (h1 : n < rs.length) : At F0 H0 (rows (as.set n p) (rs.set n r) :: L1) H := At.rowsPut (h.arr s) h1
theorem At.snocA {F0 : FP} {H0 H : Hp} {L L1 : List HP} {as : List Addr} {rs : List (List Int)} {p : Addr} {r : List Int} (h : At F0 H0 L H) (s : Arr [pt p (il r), rows as rs] L L1) : At F0 H0 (rows (as ++ [p]) (rs ++ [r]) :: L1) H := At.rowsSnoc (h.arr s)
section
variable {K : PySem.W.Frag} {F0 : FP} {H0 H : Hp} {L L0 L1 : List HP} {a p D : Addr} {as : List Addr} {rs rs' : List (List Int)} {r : List Int}
/-- rows so far in a comprehension -/
def rowI (rs : List (List Int)) (L0 : List HP) : List V → List HP → Prop := fun acc L => ∃ as, acc = as.map V.ref ∧ L = rows as rs :: L0
theorem s_accRow (h : At F0 H0 L H) (s : Arr (pt p (il r) :: rows as rs :: pt D (.lst (as.map V.ref)) :: L0) L L1) (z : rs.length < sizeLine) (e : rs' = rs ++ [r]) : accK F0 H0 D (rowI rs' L0) (.ref p) H := by
  have h := At.snocA (h.only s) (.cons .here (.cons .here .nil))
  refine s_acc h (.there .here) ?_ ⟨as ++ [p], by simp, by rw [e]⟩
  have := h.rowsLen .here
  simp at this
  simpa [this] using z
end
/-! ### dict.pop, setdefault -/
def popD2 (x y z : V) (H : Hp) (Q : VK) : Prop := ∃ a kvs k, x = .ref a ∧ H a = some (.dK kvs) ∧ y = kV k ∧ (∀ v, valV kvs k = some v → Q v (upd H a (.dK (dropK kvs k)))) ∧ (valV kvs k = none → Q z H)
def popD1 (x y : V) (H : Hp) (Q : VK) : Prop := ∃ a kvs k v, x = .ref a ∧ H a = some (.dK kvs) ∧ y = kV k ∧ valV kvs k = some v ∧ Q v (upd H a (.dK (dropK kvs k)))
def popT (x y : V) (H : Hp) (Q : VK) : Prop := ∃ a kvs k b v, x = .ref a ∧ H a = some (.dT kvs) ∧ y = .ref b ∧ H b = some (.tup (k.map kV)) ∧ valV kvs k = some v ∧ Q v (upd H a (.dT (dropK kvs k)))
def setT (x y z : V) (H : Hp) (Q : VK) : Prop := ∃ a kvs k b, x = .ref a ∧ H a = some (.dT kvs) ∧ y = .ref b ∧ H b = some (.tup (k.map kV)) ∧ kvs.length < sizeLine ∧ (∀ v, valV kvs k = some v → Q v H) ∧ (valV kvs k = none → Q z (upd H a (.dT (putK kvs k z))))
section
variable {σ : L2.St} {H : Hp} {Q : VK} {td ty tx : TE}
theorem q_dpop2 : tDPop2 td ty tx σ H Q = td σ H fun x H1 => isDv x H1 ∧ ty σ H1 fun y H2 => tx σ H2 fun z H3 => popD2 x y z H3 Q := by
  show td σ H (fun x H1 => ∃ a, x = .ref a ∧ IsD H1 a ∧ ty σ H1 fun y H2 => tx σ H2 fun z H3 => ∃ kvs k, H3 a = some (.dK kvs) ∧ y = kV k ∧ (∀ v, valV kvs k = some v → Q v (upd H3 a (.dK (dropK kvs k)))) ∧ (valV kvs k = none → Q z H3)) = _
  congr 1
  funext x H1
  have e : ∀ a, x = .ref a → (fun y H2 => tx σ H2 fun z H3 => ∃ kvs k, H3 a = some (.dK kvs) ∧ y = kV k ∧ (∀ v, valV kvs k = some v → Q v (upd H3 a (.dK (dropK kvs k)))) ∧ (valV kvs k = none → Q z H3)) = (fun y H2 => tx σ H2 fun z H3 => popD2 x y z H3 Q) := fun a e => by
    subst e
    funext y H2
    congr 1
    funext z H3
    exact propext ⟨fun ⟨kvs, k, h⟩ => ⟨a, kvs, k, rfl, h⟩, fun ⟨b, kvs, k, e, h⟩ => by cases e; exact ⟨kvs, k, h⟩⟩
  exact propext ⟨fun ⟨a, e1, e2, e3⟩ => ⟨⟨a, e1, e2⟩, e a e1 ▸ e3⟩, fun ⟨⟨a, e1, e2⟩, e3⟩ => ⟨a, e1, e2, by rw [e a e1]; exact e3⟩⟩
theorem q_dpop1 : tDPop1 td ty σ H Q = td σ H fun x H1 => isDv x H1 ∧ ty σ H1 fun y H2 => popD1 x y H2 Q := by
  show td σ H (fun x H1 => ∃ a, x = .ref a ∧ IsD H1 a ∧ ty σ H1 fun y H2 => ∃ kvs k v, H2 a = some (.dK kvs) ∧ y = kV k ∧ valV kvs k = some v ∧ Q v (upd H2 a (.dK (dropK kvs k)))) = _
  congr 1
  funext x H1
  have e : ∀ a, x = .ref a → (fun y H2 => ∃ kvs k v, H2 a = some (.dK kvs) ∧ y = kV k ∧ valV kvs k = some v ∧ Q v (upd H2 a (.dK (dropK kvs k)))) = (fun y H2 => popD1 x y H2 Q) := fun a e => by
    subst e
    funext y H2
    exact propext ⟨fun ⟨kvs, k, v, h⟩ => ⟨a, kvs, k, v, rfl, h⟩, fun ⟨b, kvs, k, v, e, h⟩ => by cases e; exact ⟨kvs, k, v, h⟩⟩
  exact propext ⟨fun ⟨a, e1, e2, e3⟩ => ⟨⟨a, e1, e2⟩, e a e1 ▸ e3⟩, fun ⟨⟨a, e1, e2⟩, e3⟩ => ⟨a, e1, e2, by rw [e a e1]; exact e3⟩⟩
theorem q_dpopT : tDPopT td ty σ H Q = td σ H fun x H1 => isDv x H1 ∧ ty σ H1 fun y H2 => popT x y H2 Q := by
  show td σ H (fun x H1 => ∃ a, x = .ref a ∧ IsD H1 a ∧ ty σ H1 fun y H2 => ∃ kvs k b v, H2 a = some (.dT kvs) ∧ y = .ref b ∧ H2 b = some (.tup (k.map kV)) ∧ valV kvs k = some v ∧ Q v (upd H2 a (.dT (dropK kvs k)))) = _
  congr 1
  funext x H1
  have e : ∀ a, x = .ref a → (fun y H2 => ∃ kvs k b v, H2 a = some (.dT kvs) ∧ y = .ref b ∧ H2 b = some (.tup (k.map kV)) ∧ valV kvs k = some v ∧ Q v (upd H2 a (.dT (dropK kvs k)))) = (fun y H2 => popT x y H2 Q) := fun a e => by
    subst e
    funext y H2
    exact propext ⟨fun ⟨kvs, k, b, v, h⟩ => ⟨a, kvs, k, b, v, rfl, h⟩, fun ⟨c, kvs, k, b, v, e, h⟩ => by cases e; exact ⟨kvs, k, b, v, h⟩⟩
  exact propext ⟨fun ⟨a, e1, e2, e3⟩ => ⟨⟨a, e1, e2⟩, e a e1 ▸ e3⟩, fun ⟨⟨a, e1, e2⟩, e3⟩ => ⟨a, e1, e2, by rw [e a e1]; exact e3⟩⟩
theorem q_dsetT : tDSetT td ty tx σ H Q = td σ H fun x H1 => isDv x H1 ∧ ty σ H1 fun y H2 => tx σ H2 fun z H3 => setT x y z H3 Q := by
  show td σ H (fun x H1 => ∃ a, x = .ref a ∧ IsD H1 a ∧ ty σ H1 fun y H2 => tx σ H2 fun z H3 => ∃ kvs k b, H3 a = some (.dT kvs) ∧ y = .ref b ∧ H3 b = some (.tup (k.map kV)) ∧ kvs.length < sizeLine ∧ (∀ v, valV kvs k = some v → Q v H3) ∧ (valV kvs k = none → Q z (upd H3 a (.dT (putK kvs k z))))) = _
  congr 1
  funext x H1
  have e : ∀ a, x = .ref a → (fun y H2 => tx σ H2 fun z H3 => ∃ kvs k b, H3 a = some (.dT kvs) ∧ y = .ref b ∧ H3 b = some (.tup (k.map kV)) ∧ kvs.length < sizeLine ∧ (∀ v, valV kvs k = some v → Q v H3) ∧ (valV kvs k = none → Q z (upd H3 a (.dT (putK kvs k z))))) = (fun y H2 => tx σ H2 fun z H3 => setT x y z H3 Q) := fun a e => by
    subst e
    funext y H2
    congr 1
    funext z H3
    exact propext ⟨fun ⟨kvs, k, b, h⟩ => ⟨a, kvs, k, b, rfl, h⟩, fun ⟨c, kvs, k, b, e, h⟩ => by cases e; exact ⟨kvs, k, b, h⟩⟩
  exact propext ⟨fun ⟨a, e1, e2, e3⟩ => ⟨⟨a, e1, e2⟩, e a e1 ▸ e3⟩, fun ⟨⟨a, e1, e2⟩, e3⟩ => ⟨a, e1, e2, by rw [e a e1]; exact e3⟩⟩
end
section
variable {F0 : FP} {H0 H : Hp} {L L1 : List HP} {Q : VK} {P : Hp → Prop} {a b : Addr} {kvs : List (Key × V)} {kts : List (List Key × V)} {i : Int} {k : List Key} {v z : V} {A : Prop}
theorem s_pop2I (h : At F0 H0 L H) (s : Sel (pt a (.dK kvs)) L L1) (q1 : ∀ v, valV kvs (Sum.inl i : Key) = some v → ∀ H', At F0 H0 (pt a (.dK (dropK kvs (Sum.inl i))) :: L1) H' → Q v H') (q2 : valV kvs (Sum.inl i : Key) = none → Q z H) : popD2 (.ref a) (.int i) z H Q :=
  ⟨a, kvs, Sum.inl i, rfl, h.get s, rfl, fun v e => q1 v e _ (h.set s), q2⟩
theorem s_pop1I (h : At F0 H0 L H) (s : Sel (pt a (.dK kvs)) L L1) (e : valV kvs (Sum.inl i : Key) = some v) (q : ∀ H', At F0 H0 (pt a (.dK (dropK kvs (Sum.inl i))) :: L1) H' → Q v H') : popD1 (.ref a) (.int i) H Q :=
  ⟨a, kvs, Sum.inl i, v, rfl, h.get s, rfl, e, q _ (h.set s)⟩
theorem s_isDT (h : At F0 H0 L H) (s : Sel (pt a (.dT kts)) L L1) (q : A) : isDv (.ref a) H ∧ A := ⟨⟨a, rfl, .inr ⟨kts, .inl (h.get s)⟩⟩, q⟩
theorem s_popT (h : At F0 H0 L H) (s : Sel (pt a (.dT kts)) L L1) (eb : H b = some (.tup (k.map kV))) (e : valV kts k = some v) (q : ∀ H', At F0 H0 (pt a (.dT (dropK kts k)) :: L1) H' → Q v H') : popT (.ref a) (.ref b) H Q :=
  ⟨a, kts, k, b, v, rfl, h.get s, rfl, eb, e, q _ (h.set s)⟩
theorem s_setT (h : At F0 H0 L H) (s : Sel (pt a (.dT kts)) L L1) (eb : H b = some (.tup (k.map kV))) (l : kts.length < sizeLine) (q1 : ∀ v, valV kts k = some v → Q v H) (q2 : valV kts k = none → ∀ H', At F0 H0 (pt a (.dT (putK kts k z)) :: L1) H' → Q z H') : setT (.ref a) (.ref b) z H Q :=
  ⟨a, kts, k, b, rfl, h.get s, rfl, eb, l, q1, fun e => q2 e _ (h.set s)⟩
theorem s_getT (h : At F0 H0 L H) (s : Sel (pt a (.dT kts)) L L1) (eb : H b = some (.tup (k.map kV))) (e : valV kts k = some v) (q : Q v H) : getD (.ref a) (.ref b) H Q := ⟨a, v, rfl, e ▸ DGet.t (h.get s) eb, q⟩
theorem s_putT (h : At F0 H0 L H) (s : Sel (pt a (.dT kts)) L L1) (eb : H b = some (.tup (k.map kV))) (l : kts.length < sizeLine) (q : ∀ H', At F0 H0 (pt a (.dT (putK kts k v)) :: L1) H' → P H') : putD (.ref a) (.ref b) v H P := ⟨a, _, rfl, DPut.t (h.get s) eb l, q _ (h.set s)⟩
theorem s_dnewT' {σ : L2.St} (h : At F0 H0 L H) (q : ∀ p H', At F0 H0 (pt p (.dT []) :: L) H' → Q (.ref p) H') : tDNewT σ H Q := s_dnewT h q
/-- parts that own nothing -/
theorem At.addP {R : HP} (h : At F0 H0 L H) (k : R.on (fun _ => False) H) : At F0 H0 (R :: L) H := by
  obtain ⟨F, h1, h2, h3, h4⟩ := h.ex
  exact ⟨F, ⟨fun _ => False, F, fun _ q => q.elim, fun _ q => q, fun _ q _ => q, k, h1⟩, h2, h3, h4⟩
end
theorem pigeon : ∀ {n : Nat} {xs : List Int}, xs.Nodup → (∀ x ∈ xs, 0 ≤ x ∧ x < n) → xs.length ≤ n
  | 0, xs, _, h => by
    cases xs with
    | nil => simp
    | cons x xs => have := h x (.head _); omega
  | n + 1, xs, nd, h => by
    by_cases m : (n : Int) ∈ xs
    · have := pigeon (n := n) (xs := xs.erase n) (nd.erase _) fun x hx => by
        have h1 := h x (List.mem_of_mem_erase hx)
        have h2 : x ≠ n := fun e => by
          subst e
          exact (List.Nodup.not_mem_erase nd) hx
        omega
      rw [List.length_erase_of_mem m] at this
      omega
    · have := pigeon (n := n) (xs := xs) nd fun x hx => by
        have h1 := h x hx
        have h2 : x ≠ n := fun e => m (e ▸ hx)
        omega
      omega
theorem divW {i m : Int} (m0 : 0 < m) (m1 : m ≤ 2 ^ 62) : CDivW i m := ⟨m0, (wide_div (i := 0) (b := 63) m0 (by omega) (by decide) (by decide)).2⟩
theorem er_map {α β : Type} {f : α → β} : ∀ {l : List α} {i : Nat}, (l.eraseIdx i).map f = (l.map f).eraseIdx i
  | [], _ => rfl
  | _ :: _, 0 => rfl
  | x :: l, i + 1 => congrArg (f x :: ·) (er_map (l := l) (i := i))
end S
set_option Elab.async false
set_option linter.all false
set_option maxRecDepth 100000
set_option maxHeartbeats 1000000
namespace S
open PySem PySem.Spec L2
theorem lk_Store_owners {x0 x1 : V} : List.lookup ("owners" : Str) ([("owners", x0), ("contents", x1)] : List (Str × V)) = some x0 := lk_hd
theorem pf_Store_owners {x0 x1 : V} {v : V} : putF ("owners" : Str) v ([("owners", x0), ("contents", x1)] : List (Str × V)) = ([("owners", v), ("contents", x1)] : List (Str × V)) := pf_hd
theorem pb_Store_owners  {v : V} : putF ("owners" : Str) v ([] : List (Str × V)) = ([("owners", v)] : List (Str × V)) := pf_nil
theorem lk_Store_contents {x0 x1 : V} : List.lookup ("contents" : Str) ([("owners", x0), ("contents", x1)] : List (Str × V)) = some x1 := (lk_tl (by decide +kernel)).trans <| lk_hd
theorem pf_Store_contents {x0 x1 : V} {v : V} : putF ("contents" : Str) v ([("owners", x0), ("contents", x1)] : List (Str × V)) = ([("owners", x0), ("contents", v)] : List (Str × V)) := ((pf_tl (by decide +kernel)).trans (congrArg _ pf_hd))
theorem pb_Store_contents {x0 : V} {v : V} : putF ("contents" : Str) v ([("owners", x0)] : List (Str × V)) = ([("owners", x0), ("contents", v)] : List (Str × V)) := ((pf_tl (by decide +kernel)).trans (congrArg _ pf_nil))
theorem no_Store_take {x0 x1 : V} : List.lookup ("take" : Str) ([("owners", x0), ("contents", x1)] : List (Str × V)) = none := (lk_tl (by decide +kernel)).trans <| (lk_tl (by decide +kernel)).trans <| lk_nil
theorem no_Store_look_taken {x0 x1 : V} : List.lookup ("look_taken" : Str) ([("owners", x0), ("contents", x1)] : List (Str × V)) = none := (lk_tl (by decide +kernel)).trans <| (lk_tl (by decide +kernel)).trans <| lk_nil
theorem no_Store_more {x0 x1 : V} : List.lookup ("more" : Str) ([("owners", x0), ("contents", x1)] : List (Str × V)) = none := (lk_tl (by decide +kernel)).trans <| (lk_tl (by decide +kernel)).trans <| lk_nil
theorem no_Store_less {x0 x1 : V} : List.lookup ("less" : Str) ([("owners", x0), ("contents", x1)] : List (Str × V)) = none := (lk_tl (by decide +kernel)).trans <| (lk_tl (by decide +kernel)).trans <| lk_nil
theorem no_Store_count {x0 x1 : V} : List.lookup ("count" : Str) ([("owners", x0), ("contents", x1)] : List (Str × V)) = none := (lk_tl (by decide +kernel)).trans <| (lk_tl (by decide +kernel)).trans <| lk_nil
theorem no_Store_cells {x0 x1 : V} : List.lookup ("cells" : Str) ([("owners", x0), ("contents", x1)] : List (Str × V)) = none := (lk_tl (by decide +kernel)).trans <| (lk_tl (by decide +kernel)).trans <| lk_nil
theorem no_Store_put {x0 x1 : V} : List.lookup ("put" : Str) ([("owners", x0), ("contents", x1)] : List (Str × V)) = none := (lk_tl (by decide +kernel)).trans <| (lk_tl (by decide +kernel)).trans <| lk_nil
theorem no_Store_free {x0 x1 : V} : List.lookup ("free" : Str) ([("owners", x0), ("contents", x1)] : List (Str × V)) = none := (lk_tl (by decide +kernel)).trans <| (lk_tl (by decide +kernel)).trans <| lk_nil
theorem lk_Paging_stores {x0 x1 x2 x3 x4 x5 : V} : List.lookup ("stores" : Str) ([("stores", x0), ("frames", x1), ("slots", x2), ("tables", x3), ("owners", x4), ("hand", x5)] : List (Str × V)) = some x0 := lk_hd
theorem pf_Paging_stores {x0 x1 x2 x3 x4 x5 : V} {v : V} : putF ("stores" : Str) v ([("stores", x0), ("frames", x1), ("slots", x2), ("tables", x3), ("owners", x4), ("hand", x5)] : List (Str × V)) = ([("stores", v), ("frames", x1), ("slots", x2), ("tables", x3), ("owners", x4), ("hand", x5)] : List (Str × V)) := pf_hd
theorem pb_Paging_stores  {v : V} : putF ("stores" : Str) v ([] : List (Str × V)) = ([("stores", v)] : List (Str × V)) := pf_nil
theorem lk_Paging_frames {x0 x1 x2 x3 x4 x5 : V} : List.lookup ("frames" : Str) ([("stores", x0), ("frames", x1), ("slots", x2), ("tables", x3), ("owners", x4), ("hand", x5)] : List (Str × V)) = some x1 := (lk_tl (by decide +kernel)).trans <| lk_hd
theorem pf_Paging_frames {x0 x1 x2 x3 x4 x5 : V} {v : V} : putF ("frames" : Str) v ([("stores", x0), ("frames", x1), ("slots", x2), ("tables", x3), ("owners", x4), ("hand", x5)] : List (Str × V)) = ([("stores", x0), ("frames", v), ("slots", x2), ("tables", x3), ("owners", x4), ("hand", x5)] : List (Str × V)) := ((pf_tl (by decide +kernel)).trans (congrArg _ pf_hd))
theorem pb_Paging_frames {x0 : V} {v : V} : putF ("frames" : Str) v ([("stores", x0)] : List (Str × V)) = ([("stores", x0), ("frames", v)] : List (Str × V)) := ((pf_tl (by decide +kernel)).trans (congrArg _ pf_nil))
theorem lk_Paging_slots {x0 x1 x2 x3 x4 x5 : V} : List.lookup ("slots" : Str) ([("stores", x0), ("frames", x1), ("slots", x2), ("tables", x3), ("owners", x4), ("hand", x5)] : List (Str × V)) = some x2 := (lk_tl (by decide +kernel)).trans <| (lk_tl (by decide +kernel)).trans <| lk_hd
theorem pf_Paging_slots {x0 x1 x2 x3 x4 x5 : V} {v : V} : putF ("slots" : Str) v ([("stores", x0), ("frames", x1), ("slots", x2), ("tables", x3), ("owners", x4), ("hand", x5)] : List (Str × V)) = ([("stores", x0), ("frames", x1), ("slots", v), ("tables", x3), ("owners", x4), ("hand", x5)] : List (Str × V)) := ((pf_tl (by decide +kernel)).trans (congrArg _ ((pf_tl (by decide +kernel)).trans (congrArg _ pf_hd))))
theorem pb_Paging_slots {x0 x1 : V} {v : V} : putF ("slots" : Str) v ([("stores", x0), ("frames", x1)] : List (Str × V)) = ([("stores", x0), ("frames", x1), ("slots", v)] : List (Str × V)) := ((pf_tl (by decide +kernel)).trans (congrArg _ ((pf_tl (by decide +kernel)).trans (congrArg _ pf_nil))))
theorem lk_Paging_tables {x0 x1 x2 x3 x4 x5 : V} : List.lookup ("tables" : Str) ([("stores", x0), ("frames", x1), ("slots", x2), ("tables", x3), ("owners", x4), ("hand", x5)] : List (Str × V)) = some x3 := (lk_tl (by decide +kernel)).trans <| (lk_tl (by decide +kernel)).trans <| (lk_tl (by decide +kernel)).trans <| lk_hd
theorem pf_Paging_tables {x0 x1 x2 x3 x4 x5 : V} {v : V} : putF ("tables" : Str) v ([("stores", x0), ("frames", x1), ("slots", x2), ("tables", x3), ("owners", x4), ("hand", x5)] : List (Str × V)) = ([("stores", x0), ("frames", x1), ("slots", x2), ("tables", v), ("owners", x4), ("hand", x5)] : List (Str × V)) := ((pf_tl (by decide +kernel)).trans (congrArg _ ((pf_tl (by decide +kernel)).trans (congrArg _ ((pf_tl (by decide +kernel)).trans (congrArg _ pf_hd))))))
theorem pb_Paging_tables {x0 x1 x2 : V} {v : V} : putF ("tables" : Str) v ([("stores", x0), ("frames", x1), ("slots", x2)] : List (Str × V)) = ([("stores", x0), ("frames", x1), ("slots", x2), ("tables", v)] : List (Str × V)) := ((pf_tl (by decide +kernel)).trans (congrArg _ ((pf_tl (by decide +kernel)).trans (congrArg _ ((pf_tl (by decide +kernel)).trans (congrArg _ pf_nil))))))
theorem lk_Paging_owners {x0 x1 x2 x3 x4 x5 : V} : List.lookup ("owners" : Str) ([("stores", x0), ("frames", x1), ("slots", x2), ("tables", x3), ("owners", x4), ("hand", x5)] : List (Str × V)) = some x4 := (lk_tl (by decide +kernel)).trans <| (lk_tl (by decide +kernel)).trans <| (lk_tl (by decide +kernel)).trans <| (lk_tl (by decide +kernel)).trans <| lk_hd
theorem pf_Paging_owners {x0 x1 x2 x3 x4 x5 : V} {v : V} : putF ("owners" : Str) v ([("stores", x0), ("frames", x1), ("slots", x2), ("tables", x3), ("owners", x4), ("hand", x5)] : List (Str × V)) = ([("stores", x0), ("frames", x1), ("slots", x2), ("tables", x3), ("owners", v), ("hand", x5)] : List (Str × V)) := ((pf_tl (by decide +kernel)).trans (congrArg _ ((pf_tl (by decide +kernel)).trans (congrArg _ ((pf_tl (by decide +kernel)).trans (congrArg _ ((pf_tl (by decide +kernel)).trans (congrArg _ pf_hd))))))))
theorem pb_Paging_owners {x0 x1 x2 x3 : V} {v : V} : putF ("owners" : Str) v ([("stores", x0), ("frames", x1), ("slots", x2), ("tables", x3)] : List (Str × V)) = ([("stores", x0), ("frames", x1), ("slots", x2), ("tables", x3), ("owners", v)] : List (Str × V)) := ((pf_tl (by decide +kernel)).trans (congrArg _ ((pf_tl (by decide +kernel)).trans (congrArg _ ((pf_tl (by decide +kernel)).trans (congrArg _ ((pf_tl (by decide +kernel)).trans (congrArg _ pf_nil))))))))
theorem lk_Paging_hand {x0 x1 x2 x3 x4 x5 : V} : List.lookup ("hand" : Str) ([("stores", x0), ("frames", x1), ("slots", x2), ("tables", x3), ("owners", x4), ("hand", x5)] : List (Str × V)) = some x5 := (lk_tl (by decide +kernel)).trans <| (lk_tl (by decide +kernel)).trans <| (lk_tl (by decide +kernel)).trans <| (lk_tl (by decide +kernel)).trans <| (lk_tl (by decide +kernel)).trans <| lk_hd
theorem pf_Paging_hand {x0 x1 x2 x3 x4 x5 : V} {v : V} : putF ("hand" : Str) v ([("stores", x0), ("frames", x1), ("slots", x2), ("tables", x3), ("owners", x4), ("hand", x5)] : List (Str × V)) = ([("stores", x0), ("frames", x1), ("slots", x2), ("tables", x3), ("owners", x4), ("hand", v)] : List (Str × V)) := ((pf_tl (by decide +kernel)).trans (congrArg _ ((pf_tl (by decide +kernel)).trans (congrArg _ ((pf_tl (by decide +kernel)).trans (congrArg _ ((pf_tl (by decide +kernel)).trans (congrArg _ ((pf_tl (by decide +kernel)).trans (congrArg _ pf_hd))))))))))
theorem pb_Paging_hand {x0 x1 x2 x3 x4 : V} {v : V} : putF ("hand" : Str) v ([("stores", x0), ("frames", x1), ("slots", x2), ("tables", x3), ("owners", x4)] : List (Str × V)) = ([("stores", x0), ("frames", x1), ("slots", x2), ("tables", x3), ("owners", x4), ("hand", v)] : List (Str × V)) := ((pf_tl (by decide +kernel)).trans (congrArg _ ((pf_tl (by decide +kernel)).trans (congrArg _ ((pf_tl (by decide +kernel)).trans (congrArg _ ((pf_tl (by decide +kernel)).trans (congrArg _ ((pf_tl (by decide +kernel)).trans (congrArg _ pf_nil))))))))))
theorem no_Paging_entry {x0 x1 x2 x3 x4 x5 : V} : List.lookup ("entry" : Str) ([("stores", x0), ("frames", x1), ("slots", x2), ("tables", x3), ("owners", x4), ("hand", x5)] : List (Str × V)) = none := (lk_tl (by decide +kernel)).trans <| (lk_tl (by decide +kernel)).trans <| (lk_tl (by decide +kernel)).trans <| (lk_tl (by decide +kernel)).trans <| (lk_tl (by decide +kernel)).trans <| (lk_tl (by decide +kernel)).trans <| lk_nil
theorem no_Paging_lay {x0 x1 x2 x3 x4 x5 : V} : List.lookup ("lay" : Str) ([("stores", x0), ("frames", x1), ("slots", x2), ("tables", x3), ("owners", x4), ("hand", x5)] : List (Str × V)) = none := (lk_tl (by decide +kernel)).trans <| (lk_tl (by decide +kernel)).trans <| (lk_tl (by decide +kernel)).trans <| (lk_tl (by decide +kernel)).trans <| (lk_tl (by decide +kernel)).trans <| (lk_tl (by decide +kernel)).trans <| lk_nil
theorem no_Paging_share {x0 x1 x2 x3 x4 x5 : V} : List.lookup ("share" : Str) ([("stores", x0), ("frames", x1), ("slots", x2), ("tables", x3), ("owners", x4), ("hand", x5)] : List (Str × V)) = none := (lk_tl (by decide +kernel)).trans <| (lk_tl (by decide +kernel)).trans <| (lk_tl (by decide +kernel)).trans <| (lk_tl (by decide +kernel)).trans <| (lk_tl (by decide +kernel)).trans <| (lk_tl (by decide +kernel)).trans <| lk_nil
theorem no_Paging_leave {x0 x1 x2 x3 x4 x5 : V} : List.lookup ("leave" : Str) ([("stores", x0), ("frames", x1), ("slots", x2), ("tables", x3), ("owners", x4), ("hand", x5)] : List (Str × V)) = none := (lk_tl (by decide +kernel)).trans <| (lk_tl (by decide +kernel)).trans <| (lk_tl (by decide +kernel)).trans <| (lk_tl (by decide +kernel)).trans <| (lk_tl (by decide +kernel)).trans <| (lk_tl (by decide +kernel)).trans <| lk_nil
theorem no_Paging_lifted {x0 x1 x2 x3 x4 x5 : V} : List.lookup ("lifted" : Str) ([("stores", x0), ("frames", x1), ("slots", x2), ("tables", x3), ("owners", x4), ("hand", x5)] : List (Str × V)) = none := (lk_tl (by decide +kernel)).trans <| (lk_tl (by decide +kernel)).trans <| (lk_tl (by decide +kernel)).trans <| (lk_tl (by decide +kernel)).trans <| (lk_tl (by decide +kernel)).trans <| (lk_tl (by decide +kernel)).trans <| lk_nil
theorem no_Paging_settle {x0 x1 x2 x3 x4 x5 : V} : List.lookup ("settle" : Str) ([("stores", x0), ("frames", x1), ("slots", x2), ("tables", x3), ("owners", x4), ("hand", x5)] : List (Str × V)) = none := (lk_tl (by decide +kernel)).trans <| (lk_tl (by decide +kernel)).trans <| (lk_tl (by decide +kernel)).trans <| (lk_tl (by decide +kernel)).trans <| (lk_tl (by decide +kernel)).trans <| (lk_tl (by decide +kernel)).trans <| lk_nil
theorem no_Paging_put_out {x0 x1 x2 x3 x4 x5 : V} : List.lookup ("put_out" : Str) ([("stores", x0), ("frames", x1), ("slots", x2), ("tables", x3), ("owners", x4), ("hand", x5)] : List (Str × V)) = none := (lk_tl (by decide +kernel)).trans <| (lk_tl (by decide +kernel)).trans <| (lk_tl (by decide +kernel)).trans <| (lk_tl (by decide +kernel)).trans <| (lk_tl (by decide +kernel)).trans <| (lk_tl (by decide +kernel)).trans <| lk_nil
theorem no_Paging_frame_taken {x0 x1 x2 x3 x4 x5 : V} : List.lookup ("frame_taken" : Str) ([("stores", x0), ("frames", x1), ("slots", x2), ("tables", x3), ("owners", x4), ("hand", x5)] : List (Str × V)) = none := (lk_tl (by decide +kernel)).trans <| (lk_tl (by decide +kernel)).trans <| (lk_tl (by decide +kernel)).trans <| (lk_tl (by decide +kernel)).trans <| (lk_tl (by decide +kernel)).trans <| (lk_tl (by decide +kernel)).trans <| lk_nil
theorem no_Paging_fetch {x0 x1 x2 x3 x4 x5 : V} : List.lookup ("fetch" : Str) ([("stores", x0), ("frames", x1), ("slots", x2), ("tables", x3), ("owners", x4), ("hand", x5)] : List (Str × V)) = none := (lk_tl (by decide +kernel)).trans <| (lk_tl (by decide +kernel)).trans <| (lk_tl (by decide +kernel)).trans <| (lk_tl (by decide +kernel)).trans <| (lk_tl (by decide +kernel)).trans <| (lk_tl (by decide +kernel)).trans <| lk_nil
theorem no_Paging_part {x0 x1 x2 x3 x4 x5 : V} : List.lookup ("part" : Str) ([("stores", x0), ("frames", x1), ("slots", x2), ("tables", x3), ("owners", x4), ("hand", x5)] : List (Str × V)) = none := (lk_tl (by decide +kernel)).trans <| (lk_tl (by decide +kernel)).trans <| (lk_tl (by decide +kernel)).trans <| (lk_tl (by decide +kernel)).trans <| (lk_tl (by decide +kernel)).trans <| (lk_tl (by decide +kernel)).trans <| lk_nil
theorem no_Paging_cells {x0 x1 x2 x3 x4 x5 : V} : List.lookup ("cells" : Str) ([("stores", x0), ("frames", x1), ("slots", x2), ("tables", x3), ("owners", x4), ("hand", x5)] : List (Str × V)) = none := (lk_tl (by decide +kernel)).trans <| (lk_tl (by decide +kernel)).trans <| (lk_tl (by decide +kernel)).trans <| (lk_tl (by decide +kernel)).trans <| (lk_tl (by decide +kernel)).trans <| (lk_tl (by decide +kernel)).trans <| lk_nil
theorem no_Paging_put {x0 x1 x2 x3 x4 x5 : V} : List.lookup ("put" : Str) ([("stores", x0), ("frames", x1), ("slots", x2), ("tables", x3), ("owners", x4), ("hand", x5)] : List (Str × V)) = none := (lk_tl (by decide +kernel)).trans <| (lk_tl (by decide +kernel)).trans <| (lk_tl (by decide +kernel)).trans <| (lk_tl (by decide +kernel)).trans <| (lk_tl (by decide +kernel)).trans <| (lk_tl (by decide +kernel)).trans <| lk_nil
theorem lk_Table_firsts {x0 : V} : List.lookup ("firsts" : Str) ([("firsts", x0)] : List (Str × V)) = some x0 := lk_hd
theorem pf_Table_firsts {x0 : V} {v : V} : putF ("firsts" : Str) v ([("firsts", x0)] : List (Str × V)) = ([("firsts", v)] : List (Str × V)) := pf_hd
theorem pb_Table_firsts  {v : V} : putF ("firsts" : Str) v ([] : List (Str × V)) = ([("firsts", v)] : List (Str × V)) := pf_nil
theorem no_Table_get {x0 : V} : List.lookup ("get" : Str) ([("firsts", x0)] : List (Str × V)) = none := (lk_tl (by decide +kernel)).trans <| lk_nil
theorem no_Table_lay {x0 : V} : List.lookup ("lay" : Str) ([("firsts", x0)] : List (Str × V)) = none := (lk_tl (by decide +kernel)).trans <| lk_nil
theorem no_Table_clear {x0 : V} : List.lookup ("clear" : Str) ([("firsts", x0)] : List (Str × V)) = none := (lk_tl (by decide +kernel)).trans <| lk_nil
theorem no_Table_pages {x0 : V} : List.lookup ("pages" : Str) ([("firsts", x0)] : List (Str × V)) = none := (lk_tl (by decide +kernel)).trans <| lk_nil
theorem lk_Rooms_paging {x0 : V} : List.lookup ("paging" : Str) ([("paging", x0)] : List (Str × V)) = some x0 := lk_hd
theorem pf_Rooms_paging {x0 : V} {v : V} : putF ("paging" : Str) v ([("paging", x0)] : List (Str × V)) = ([("paging", v)] : List (Str × V)) := pf_hd
theorem pb_Rooms_paging  {v : V} : putF ("paging" : Str) v ([] : List (Str × V)) = ([("paging", v)] : List (Str × V)) := pf_nil
theorem no_Rooms_begin {x0 : V} : List.lookup ("begin" : Str) ([("paging", x0)] : List (Str × V)) = none := (lk_tl (by decide +kernel)).trans <| lk_nil
theorem no_Rooms_table_of {x0 : V} : List.lookup ("table_of" : Str) ([("paging", x0)] : List (Str × V)) = none := (lk_tl (by decide +kernel)).trans <| lk_nil
theorem no_Rooms_close {x0 : V} : List.lookup ("close" : Str) ([("paging", x0)] : List (Str × V)) = none := (lk_tl (by decide +kernel)).trans <| lk_nil
theorem no_Rooms_held {x0 : V} : List.lookup ("held" : Str) ([("paging", x0)] : List (Str × V)) = none := (lk_tl (by decide +kernel)).trans <| lk_nil
theorem no_Rooms_ask_room {x0 : V} : List.lookup ("ask_room" : Str) ([("paging", x0)] : List (Str × V)) = none := (lk_tl (by decide +kernel)).trans <| lk_nil
theorem no_Rooms_map {x0 : V} : List.lookup ("map" : Str) ([("paging", x0)] : List (Str × V)) = none := (lk_tl (by decide +kernel)).trans <| lk_nil
theorem no_Rooms_look_mapped {x0 : V} : List.lookup ("look_mapped" : Str) ([("paging", x0)] : List (Str × V)) = none := (lk_tl (by decide +kernel)).trans <| lk_nil
theorem no_Rooms_drop {x0 : V} : List.lookup ("drop" : Str) ([("paging", x0)] : List (Str × V)) = none := (lk_tl (by decide +kernel)).trans <| lk_nil
theorem no_Rooms_stretches {x0 : V} : List.lookup ("stretches" : Str) ([("paging", x0)] : List (Str × V)) = none := (lk_tl (by decide +kernel)).trans <| lk_nil
theorem no_Rooms_peek {x0 : V} : List.lookup ("peek" : Str) ([("paging", x0)] : List (Str × V)) = none := (lk_tl (by decide +kernel)).trans <| lk_nil
theorem no_Rooms_poke {x0 : V} : List.lookup ("poke" : Str) ([("paging", x0)] : List (Str × V)) = none := (lk_tl (by decide +kernel)).trans <| lk_nil
theorem no_Rooms_copy {x0 : V} : List.lookup ("copy" : Str) ([("paging", x0)] : List (Str × V)) = none := (lk_tl (by decide +kernel)).trans <| lk_nil
theorem no_Rooms_place {x0 : V} : List.lookup ("place" : Str) ([("paging", x0)] : List (Str × V)) = none := (lk_tl (by decide +kernel)).trans <| lk_nil
def c_Store (K : PySem.W.Frag) : Addr := He.ga K "Store"
def c_Paging (K : PySem.W.Frag) : Addr := He.ga K "Paging"
def c_Table (K : PySem.W.Frag) : Addr := He.ga K "Table"
def c_Rooms (K : PySem.W.Frag) : Addr := He.ga K "Rooms"
def c_KernelError (K : PySem.W.Frag) : Addr := He.ga K "KernelError"
def c_NoOwner (K : PySem.W.Frag) : Addr := He.ga K "NoOwner"
def c_NoTask (K : PySem.W.Frag) : Addr := He.ga K "NoTask"
def c_NoPage (K : PySem.W.Frag) : Addr := He.ga K "NoPage"
def c_NoRoom (K : PySem.W.Frag) : Addr := He.ga K "NoRoom"
def c_Taken (K : PySem.W.Frag) : Addr := He.ga K "Taken"
def g_BLANK (K : PySem.W.Frag) : Addr := He.ga K "BLANK"
/-! ### values -/
inductive En where | bl | fr (n : Nat) | sl (n : Nat) deriving DecidableEq
abbrev Ow := Int × Int
abbrev Tb := Int → Option En
@[reducible] def En.tup : En → List V
  | .bl => [.str "blank"]
  | .fr n => [.str "frame", .int n]
  | .sl n => [.str "slot", .int n]
def En.key : En → List L2.Key
  | .bl => [.inr "blank"]
  | .fr n => [.inr "frame", .inl n]
  | .sl n => [.inr "slot", .inl n]
theorem En.key_tup (e : En) : e.key.map kV = e.tup := by cases e <;> rfl
theorem En.key_inj (a b : En) (h : a.key = b.key) : a = b := by
  cases a <;> cases b <;> simp [En.key] at h <;> first | rfl | (rw [Int.ofNat_inj.mp h]) | (exact absurd h.1 (by decide)) | skip
def Ow.key (o : Ow) : List L2.Key := [.inl o.1, .inl o.2]
theorem Ow.key_inj (a b : Ow) (h : Ow.key a = Ow.key b) : a = b := by
  obtain ⟨a1, a2⟩ := a
  obtain ⟨b1, b2⟩ := b
  simp [Ow.key] at h
  rw [h.1, h.2]
def En.n : En → Nat
  | .bl => 0
  | .fr n => n
  | .sl n => n
def EnV (K : PySem.W.Frag) (H : Hp) (v : V) (e : En) : Prop := ∃ t, v = .ref t ∧ (H t = some (.tup e.tup) ∨ (e = .bl ∧ SqT K (fun _ => none) t e.tup))
theorem SqT.base {K : PySem.W.Frag} {H : Hp} {t : Addr} {xs : List V} (h : SqT K (fun _ => none) t xs) : SqT K H t xs := by
  rcases h with (h | ⟨o, h⟩) | h
  · cases h
  · cases h
  · exact .inr h
theorem EnV.sq {K : PySem.W.Frag} {H : Hp} {t : Addr} {e : En} (h : EnV K H (.ref t) e) : SqT K H t e.tup := by
  obtain ⟨t', e1, h⟩ := h
  cases e1
  rcases h with h | ⟨_, h⟩
  · exact .of h
  · exact SqT.base h
def enP (K : PySem.W.Frag) (v : V) (e : En) : HP := ⟨fun _ H => EnV K H v e, fun ⟨t, e1, h⟩ k => ⟨t, e1, h.imp (fun h => k _ _ (.inr rfl) h) id⟩⟩
abbrev ow (t : Addr) (o : Ow) : HP := tp t [.int o.1, .int o.2]
/-- owners at tuples -/
def owsP (ks : List Addr) (os : List Ow) : HP := ⟨fun _ H => ks.length = os.length ∧ ∀ (i : Nat) k o, ks[i]? = some k → os[i]? = some o → H k = some (.tup [.int o.1, .int o.2]), fun ⟨l, h⟩ k => ⟨l, fun i a o h1 h2 => k _ _ (.inr rfl) (h i a o h1 h2)⟩⟩
/-! ### stores -/
structure St where
  own : List Int
  cont : List (List Int)
def store (K : PySem.W.Frag) (s : Addr) (X : St) : HP := HP.exi fun b1 => HP.exi fun b2 => HP.exi fun as => HP.all [obj (c_Store K) s [("owners", .ref b1), ("contents", .ref b2)], pt b1 (il X.own), pt b2 (.lst (as.map V.ref)), rows as X.cont]
/-! ### tables -/
def ag {κ β : Type} [DecidableEq κ] (m : List (κ × β)) (k : κ) : Option β := (m.find? fun q => decide (q.1 = k)).map (·.2)
def enAll (K : PySem.W.Frag) (vs : List V) (es : List En) : HP := ⟨fun _ H => ∀ (i : Nat) v e, vs[i]? = some v → es[i]? = some e → EnV K H v e, fun h k i v e h1 h2 => by
  obtain ⟨t, e1, h⟩ := h i v e h1 h2
  exact ⟨t, e1, h.imp (fun h => k _ _ (.inr rfl) h) id⟩⟩
abbrev ki : Int → L2.Key := Sum.inl
def secP (K : PySem.W.Frag) (a : Addr) (s : List (Int × En)) : HP := HP.exi fun vs => HP.pur (vs.length = s.length) (HP.all [pt a (.dK (zv ki s vs)), enAll K vs (s.map (·.2))])
structure TbOk (m : List (Int × List (Int × En))) (f : Tb) : Prop where
  nd : (m.map (·.1)).Nodup
  b1 : ∀ q ∈ m, 0 ≤ q.1 ∧ q.1 < 8
  nd2 : ∀ q ∈ m, (q.2.map (·.1)).Nodup
  b2 : ∀ q ∈ m, ∀ r ∈ q.2, 0 ≤ r.1 ∧ r.1 < 8
  eq : ∀ p, f p = (ag m (p / 8)).bind fun s => ag s (p % 8)
def table (K : PySem.W.Frag) (t : Addr) (f : Tb) : HP := HP.exi fun d => HP.exi fun as => HP.exi fun m => HP.pur (TbOk m f) (HP.all [obj (c_Table K) t [("firsts", .ref d)], pt d (.dK (zv ki m (as.map V.ref))), rowsG (secP K) as (m.map (·.2))])
def pgs (f : Tb) : List Int := ((List.range 64).filter fun (p : Nat) => (f p).isSome).map fun (p : Nat) => (p : Int)
def upd1 (f : Tb) (p : Int) (e : Option En) : Tb := fun q => if q = p then e else f q
/-! ### paging -/
structure PS where
  fs : St
  ss : St
  frames : Nat
  slots : Nat
  tabs : List (Int × Tb)
  O : En → List Ow
  hand : Int
def owOk (m : List (En × List Ow)) (O : En → List Ow) : Prop := (m.map (·.1)).Nodup ∧ (∀ e, O e = (ag m e).getD []) ∧ (∀ q ∈ m, q.2.Nodup) ∧ ∀ q ∈ m, q.1.n < 1000
def owV (os : List Ow) : List (List L2.Key × V) := os.map fun o => (Ow.key o, V.bl true)
abbrev owR (a : Addr) (os : List Ow) : HP := pt a (.dT (owV os))
def owns (d : Addr) (O : En → List Ow) : HP := HP.exi fun as => HP.exi fun m : List (En × List Ow) => HP.pur (owOk m O)
  (HP.all [pt d (.dT (zv En.key m (as.map V.ref))), rowsG owR as (m.map (·.2))])
abbrev pagF (d1 d2 d3 : Addr) (S : PS) : List (Str × V) := [("stores", .ref d1), ("frames", .int S.frames), ("slots", .int S.slots), ("tables", .ref d2), ("owners", .ref d3), ("hand", .int S.hand)]
abbrev stoF (sf ss : Addr) : List (L2.Key × V) := [(Sum.inr "frame", .ref sf), (Sum.inr "slot", .ref ss)]
def paging (K : PySem.W.Frag) (p : Addr) (ta : List Addr) (S : PS) : HP := HP.exi fun d1 => HP.exi fun d2 => HP.exi fun d3 => HP.exi fun sf => HP.exi fun ss =>
  HP.all [obj (c_Paging K) p (pagF d1 d2 d3 S), pt d1 (.dK (stoF sf ss)), store K sf S.fs, store K ss S.ss, pt d2 (.dK (zv ki S.tabs (ta.map V.ref))), rowsG (table K) ta (S.tabs.map (·.2)), owns d3 S.O]
def rooms (K : PySem.W.Frag) (r : Addr) (ta : List Addr) (S : PS) : HP := HP.exi fun p => HP.all [obj (c_Rooms K) r [("paging", .ref p)], paging K p ta S]
def getE (S : PS) (o : Ow) : Option En := (ag S.tabs o.1).bind fun f => f o.2
def stE (S : PS) : En → St
  | .sl _ => S.ss
  | _ => S.fs
def setSt (S : PS) : En → St → PS
  | .sl _, X => { S with ss := X }
  | _, X => { S with fs := X }
def upT (tabs : List (Int × Tb)) (o : Ow) (e : Option En) : List (Int × Tb) := tabs.map fun q => if q.1 = o.1 then (q.1, upd1 q.2 o.2 e) else q
def addO (O : En → List Ow) (e : En) (o : Ow) : En → List Ow := fun x => if x = e then (if o ∈ O e then O e else O e ++ [o]) else O x
def delO (O : En → List Ow) (e : En) (o : Ow) : En → List Ow := fun x => if x = e then (O e).filter (fun z => decide (z ≠ o)) else O x
def clrO (O : En → List Ow) (e : En) : En → List Ow := fun x => if x = e then [] else O x
def layS (S : PS) (o : Ow) (e : En) : PS := { S with tabs := upT S.tabs o (some e), O := if e = .bl then S.O else addO S.O e o }
abbrev addN (X : St) (n : Nat) (c : Int) : St := ⟨X.own.set n (X.own.getD n 0 + c), X.cont⟩
abbrev putN (X : St) (n : Nat) (r : List Int) : St := ⟨X.own, X.cont.set n r⟩
abbrev takeN (X : St) (n : Nat) : St := ⟨X.own.set n 1, X.cont.set n (List.replicate 8 0)⟩
def liftS (S : PS) (e : En) : PS := { setSt S e (addN (stE S e) e.n (-(S.O e).length)) with O := clrO S.O e }
def settS (S : PS) (e : En) (r : List Int) (os : List Ow) : PS := os.foldl (fun S o => layS S o e) (setSt S e (addN (putN (stE S e) e.n r) e.n (os.length - 1)))
def takeS (S : PS) (e : En) : PS := setSt S e (takeN (stE S e) e.n)
end S
set_option Elab.async false
set_option linter.all false
set_option maxRecDepth 100000
set_option maxHeartbeats 1000000
namespace S
open PySem PySem.Spec L2
abbrev NoX : Value → Option Addr → List HP → Prop := fun _ _ _ => False
/-! ### stores -/
def sp_Store___init__ (K : PySem.W.Frag) : Sp := fun vs H Q E => ∃ (x : Addr) (m : Nat), vs = [.ref x, .int m] ∧ m ≤ 1000 ∧
  Tri [obj (c_Store K) x []] (fun v L' => v = .non ∧ L' = [store K x ⟨List.replicate m 0, List.replicate m (List.replicate 8 0)⟩]) NoX H Q E
def sp_Store_count (K : PySem.W.Frag) : Sp := fun vs H Q E => ∃ (s : Addr) (X : St) (n : Nat) (c : Int), vs = [.ref s, .int n] ∧ X.own[n]? = some c ∧
  Tri [store K s X] (fun v L' => v = .int c ∧ L' = [store K s X]) NoX H Q E
def sp_Store_look_taken (K : PySem.W.Frag) : Sp := fun vs H Q E => ∃ (s : Addr) (X : St) (n : Nat) (c : Int), vs = [.ref s, .int n] ∧ X.own[n]? = some c ∧ c ≠ 0 ∧
  Tri [store K s X] (fun v L' => v = .non ∧ L' = [store K s X]) NoX H Q E
def sp_Store_more (K : PySem.W.Frag) : Sp := fun vs H Q E => ∃ (s : Addr) (X : St) (n : Nat) (c : Int), vs = [.ref s, .int n] ∧ X.own[n]? = some c ∧ c ≠ 0 ∧
  Tri [store K s X] (fun v L' => v = .non ∧ L' = [store K s (addN X n 1)]) NoX H Q E
def sp_Store_less (K : PySem.W.Frag) : Sp := fun vs H Q E => ∃ (s : Addr) (X : St) (n : Nat) (c : Int), vs = [.ref s, .int n] ∧ X.own[n]? = some c ∧ c ≠ 0 ∧
  Tri [store K s X] (fun v L' => v = .non ∧ L' = [store K s (addN X n (-1))]) NoX H Q E
def sp_Store_cells (K : PySem.W.Frag) : Sp := fun vs H Q E => ∃ (s : Addr) (X : St) (n : Nat) (c : Int) (r : List Int), vs = [.ref s, .int n] ∧ X.own[n]? = some c ∧ c ≠ 0 ∧ X.cont[n]? = some r ∧
  Tri [store K s X] (fun v L' => ∃ q, v = .ref q ∧ L' = [pt q (il r), store K s X]) NoX H Q E
def sp_Store_put (K : PySem.W.Frag) : Sp := fun vs H Q E => ∃ (s q : Addr) (X : St) (n : Nat) (c : Int) (r : List Int), vs = [.ref s, .int n, .ref q] ∧ X.own[n]? = some c ∧ c ≠ 0 ∧ n < X.cont.length ∧
  Tri [store K s X, pt q (il r)] (fun v L' => v = .non ∧ L' = [store K s (putN X n r), pt q (il r)]) NoX H Q E
def sp_Store_take (K : PySem.W.Frag) : Sp := fun vs H Q E => ∃ (s : Addr) (X : St), vs = [.ref s] ∧ X.own.length = X.cont.length ∧
  Tri [store K s X] (fun v L' => (v = .non ∧ (∀ c ∈ X.own, c ≠ 0) ∧ L' = [store K s X]) ∨ ∃ n : Nat, v = .int n ∧ X.own[n]? = some 0 ∧ L' = [store K s (takeN X n)]) NoX H Q E
def sp_Store_free (K : PySem.W.Frag) : Sp := fun vs H Q E => ∃ (s : Addr) (X : St), vs = [.ref s] ∧
  Tri [store K s X] (fun v L' => v = .int (X.own.count 0) ∧ L' = [store K s X]) NoX H Q E
/-! ### tables -/
def sp_Table___init__ (K : PySem.W.Frag) : Sp := fun vs H Q E => ∃ x : Addr, vs = [.ref x] ∧
  Tri [obj (c_Table K) x []] (fun v L' => v = .non ∧ L' = [table K x fun _ => none]) NoX H Q E
def sp_Table_get (K : PySem.W.Frag) : Sp := fun vs H Q E => ∃ (t : Addr) (f : Tb) (p : Int), vs = [.ref t, .int p] ∧
  Tri [table K t f] (fun v L' => (v = .non ∧ f p = none ∧ L' = [table K t f]) ∨ ∃ e, f p = some e ∧ L' = [enP K v e, table K t f]) NoX H Q E
def sp_Table_lay (K : PySem.W.Frag) : Sp := fun vs H Q E => ∃ (t : Addr) (f : Tb) (p : Int) (v : V) (e : En), vs = [.ref t, .int p, v] ∧ 0 ≤ p ∧ p < 64 ∧
  Tri [table K t f, enP K v e] (fun w L' => w = .non ∧ L' = [table K t (upd1 f p (some e)), enP K v e]) NoX H Q E
def sp_Table_clear (K : PySem.W.Frag) : Sp := fun vs H Q E => ∃ (t : Addr) (f : Tb) (p : Int), vs = [.ref t, .int p] ∧
  Tri [table K t f] (fun v L' => v = .non ∧ L' = [table K t (upd1 f p none)]) NoX H Q E
def sp_Table_pages (K : PySem.W.Frag) : Sp := fun vs H Q E => ∃ (t : Addr) (f : Tb), vs = [.ref t] ∧
  Tri [table K t f] (fun v L' => ∃ q, v = .ref q ∧ L' = [pt q (il (pgs f)), table K t f]) NoX H Q E
/-! ### paging -/
def okO (S : PS) (o : Ow) : Prop := o.1 ∈ S.tabs.map (·.1) ∧ 0 ≤ o.2 ∧ o.2 < 64
def okTab (S : PS) : Prop := (S.tabs.map (·.1)).Nodup
def initS (a b : Nat) : PS := ⟨⟨List.replicate a 0, List.replicate a (List.replicate 8 0)⟩, ⟨List.replicate b 0, List.replicate b (List.replicate 8 0)⟩, a, b, [], fun _ => [], 0⟩
def sp_Paging___init__ (K : PySem.W.Frag) : Sp := fun vs H Q E => ∃ (x : Addr) (a b : Nat), vs = [.ref x, .int a, .int b] ∧ a ≤ 900 ∧ b ≤ 900 ∧
  Tri [obj (c_Paging K) x []] (fun v L' => v = .non ∧ L' = [paging K x [] (initS a b)]) NoX H Q E
def sp_Paging_entry (K : PySem.W.Frag) : Sp := fun vs H Q E => ∃ (p : Addr) (ta : List Addr) (S : PS) (t : Addr) (o : Ow) (e : En), vs = [.ref p, .ref t] ∧ okTab S ∧ getE S o = some e ∧
  Tri [paging K p ta S, ow t o] (fun v L' => L' = [enP K v e, paging K p ta S, ow t o]) NoX H Q E
def okL (S : PS) (o : Ow) (e : En) : Prop := okTab S ∧ okO S o ∧ (e ≠ .bl → e.n < 1000 ∧ (S.O e).length < 5000)
def sp_Paging_lay (K : PySem.W.Frag) : Sp := fun vs H Q E => ∃ (p : Addr) (ta : List Addr) (S : PS) (t : Addr) (o : Ow) (v : V) (e : En), vs = [.ref p, .ref t, v] ∧ okL S o e ∧
  Tri [paging K p ta S, ow t o, enP K v e] (fun w L' => w = .non ∧ L' = [paging K p ta (layS S o e), ow t o, enP K v e]) NoX H Q E
def taken (S : PS) (e : En) : Prop := ∃ c, (stE S e).own[e.n]? = some c ∧ c ≠ 0
def shareS (S : PS) (o : Ow) (e : En) : PS := layS (if e = .bl then S else setSt S e (addN (stE S e) e.n 1)) o e
def sp_Paging_share (K : PySem.W.Frag) : Sp := fun vs H Q E => ∃ (p : Addr) (ta : List Addr) (S : PS) (t : Addr) (o : Ow) (v : V) (e : En), vs = [.ref p, .ref t, v] ∧ okL S o e ∧ (e ≠ .bl → taken S e) ∧
  Tri [paging K p ta S, ow t o, enP K v e] (fun w L' => w = .non ∧ L' = [paging K p ta (shareS S o e), ow t o, enP K v e]) NoX H Q E
def leaveS (S : PS) (o : Ow) (e : En) : PS := if e = .bl then S else { setSt S e (addN (stE S e) e.n (-1)) with O := delO S.O e o }
def sp_Paging_leave (K : PySem.W.Frag) : Sp := fun vs H Q E => ∃ (p : Addr) (ta : List Addr) (S : PS) (t : Addr) (o : Ow) (e : En), vs = [.ref p, .ref t] ∧ okTab S ∧ getE S o = some e ∧ (e ≠ .bl → taken S e ∧ o ∈ S.O e) ∧
  Tri [paging K p ta S, ow t o] (fun v L' => v = .non ∧ L' = [paging K p ta (leaveS S o e), ow t o]) NoX H Q E
def okLift (S : PS) (e : En) (r : List Int) : Prop := e ≠ .bl ∧ 0 < (S.O e).length ∧ (S.O e).length ≤ 5000 ∧ (stE S e).own[e.n]? = some ((S.O e).length : Int) ∧ (stE S e).cont[e.n]? = some r
def sp_Paging_lifted (K : PySem.W.Frag) : Sp := fun vs H Q E => ∃ (p : Addr) (ta : List Addr) (S : PS) (v : V) (e : En) (r : List Int), vs = [.ref p, v] ∧ okLift S e r ∧
  Tri [paging K p ta S, enP K v e] (fun w L' => ∃ tt cr lr ks, w = .ref tt ∧ L' = [tp tt [.ref cr, .ref lr], pt cr (il r), pt lr (.lst (ks.map V.ref)), owsP ks (S.O e), paging K p ta (liftS S e), enP K v e]) NoX H Q E
def okSett (S : PS) (e : En) (os : List Ow) : Prop := e ≠ .bl ∧ e.n < 1000 ∧ okTab S ∧ 0 < os.length ∧ os.length ≤ 2000 ∧ (S.O e).length + os.length ≤ 4000 ∧ (stE S e).own[e.n]? = some 1 ∧ e.n < (stE S e).cont.length ∧ ∀ o ∈ os, okO S o
def sp_Paging_settle (K : PySem.W.Frag) : Sp := fun vs H Q E => ∃ (p : Addr) (ta : List Addr) (S : PS) (v : V) (e : En) (cr lr : Addr) (r : List Int) (ks : List Addr) (os : List Ow), vs = [.ref p, v, .ref cr, .ref lr] ∧ okSett S e os ∧
  Tri [paging K p ta S, enP K v e, pt cr (il r), pt lr (.lst (ks.map V.ref)), owsP ks os] (fun w L' => w = .non ∧ L' = [paging K p ta (settS S e r os), enP K v e, pt cr (il r), pt lr (.lst (ks.map V.ref)), owsP ks os]) NoX H Q E
/-- what holds always, also while some owners' pages are on the way -/
structure WI (S : PS) : Prop where
  nk : okTab S
  dom : ∀ q ∈ S.tabs, ∀ p e, q.2 p = some e → 0 ≤ p ∧ p < 64
  lf : S.fs.own.length = S.frames ∧ S.fs.cont.length = S.frames
  ls : S.ss.own.length = S.slots ∧ S.ss.cont.length = S.slots
  fb : 2 ≤ S.frames ∧ S.frames ≤ 900 ∧ S.slots ≤ 900
  c8 : (∀ r ∈ S.fs.cont, r.length = 8) ∧ ∀ r ∈ S.ss.cont, r.length = 8
  o1 : ∀ e, e ≠ .bl → ∀ o ∈ S.O e, getE S o = some e
  o2 : ∀ e, e ≠ .bl → (S.O e).Nodup
  cn : ∀ e, e ≠ .bl → ∀ c, (stE S e).own[e.n]? = some c → c = ((S.O e).length : Int)
  rg : ∀ e, e ≠ .bl → S.O e ≠ [] → e.n < (stE S e).own.length
  hd : 0 ≤ S.hand ∧ S.hand < S.frames
  hl : (S.tabs.map fun q => (pgs q.2).length).sum ≤ S.frames + S.slots
structure PI (S : PS) : Prop extends WI S where
  o3 : ∀ o e, e ≠ .bl → getE S o = some e → o ∈ S.O e
def outS (S : PS) (n : Nat) : PS := settS (takeS { liftS S (.fr S.hand.toNat) with hand := (S.hand + 1) % (S.frames : Int) } (.sl n)) (.sl n) (S.fs.cont.getD S.hand.toNat []) (S.O (.fr S.hand.toNat))
def noFree (X : St) : Prop := ∀ c ∈ X.own, c ≠ 0
def sp_Paging_put_out (K : PySem.W.Frag) : Sp := fun vs H Q E => ∃ (p : Addr) (ta : List Addr) (S : PS), vs = [.ref p] ∧ WI S ∧ noFree S.fs ∧ ¬ noFree S.ss ∧
  Tri [paging K p ta S] (fun v L' => v = .non ∧ ∃ n, S.ss.own[n]? = some 0 ∧ L' = [paging K p ta (outS S n)]) NoX H Q E
/-- behind a frame_taken -/
inductive FT (S : PS) : Nat → PS → Prop where
  | free (n : Nat) : S.fs.own[n]? = some 0 → FT S n (takeS S (.fr n))
  | out (n m : Nat) : noFree S.fs → S.ss.own[m]? = some 0 → (outS S m).fs.own[n]? = some 0 → FT S n (takeS (outS S m) (.fr n))
def sp_Paging_frame_taken (K : PySem.W.Frag) : Sp := fun vs H Q E => ∃ (p : Addr) (ta : List Addr) (S : PS), vs = [.ref p] ∧ WI S ∧ (noFree S.fs → ¬ noFree S.ss) ∧
  Tri [paging K p ta S] (fun v L' => ∃ n S', FT S n S' ∧ L' = [enP K v (.fr n), paging K p ta S']) NoX H Q E
/-- the pages that are mapped stay mapped; blank ones stay blank -/
structure Same (S S' : PS) : Prop where
  keys : S'.tabs.map (·.1) = S.tabs.map (·.1)
  dom : ∀ o, (getE S' o).isSome = (getE S o).isSome
  fr : S'.frames = S.frames
  sl : S'.slots = S.slots
def near (e : Option En) : Prop := e = some .bl ∨ ∃ n, e = some (.fr n)
def sp_Paging_fetch (K : PySem.W.Frag) : Sp := fun vs H Q E => ∃ (p : Addr) (ta : List Addr) (S : PS) (t : Addr) (o : Ow), vs = [.ref p, .ref t] ∧ PI S ∧ (getE S o).isSome ∧
  Tri [paging K p ta S, ow t o] (fun v L' => v = .non ∧ ∃ S', PI S' ∧ Same S S' ∧ near (getE S' o) ∧ (getE S o ≠ some .bl → ∃ n, getE S' o = some (.fr n)) ∧ L' = [paging K p ta S', ow t o]) NoX H Q E
def sp_Paging_part (K : PySem.W.Frag) : Sp := fun vs H Q E => ∃ (p : Addr) (ta : List Addr) (S : PS) (t : Addr) (o : Ow), vs = [.ref p, .ref t] ∧ PI S ∧ (getE S o).isSome ∧
  Tri [paging K p ta S, ow t o] (fun v L' => v = .non ∧ ∃ S' n, PI S' ∧ Same S S' ∧ getE S' o = some (.fr n) ∧ L' = [paging K p ta S', ow t o]) NoX H Q E
def sp_Paging_cells (K : PySem.W.Frag) : Sp := fun vs H Q E => ∃ (p : Addr) (ta : List Addr) (S : PS) (t : Addr) (o : Ow), vs = [.ref p, .ref t] ∧ PI S ∧ (getE S o).isSome ∧
  Tri [paging K p ta S, ow t o] (fun v L' => ∃ q r, v = .ref q ∧ r.length = 8 ∧ L' = [pt q (il r), paging K p ta S, ow t o]) NoX H Q E
def sp_Paging_put (K : PySem.W.Frag) : Sp := fun vs H Q E => ∃ (p : Addr) (ta : List Addr) (S : PS) (t : Addr) (o : Ow) (n : Nat) (q : Addr) (r : List Int), vs = [.ref p, .ref t, .ref q] ∧ PI S ∧ getE S o = some (.fr n) ∧ r.length = 8 ∧
  Tri [paging K p ta S, ow t o, pt q (il r)] (fun v L' => v = .non ∧ ∃ S', PI S' ∧ Same S S' ∧ getE S' o = some (.fr n) ∧ L' = [paging K p ta S', ow t o, pt q (il r)]) NoX H Q E
/-! ### rooms -/
def sp_pages_asked (K : PySem.W.Frag) : Sp := fun vs H Q E => ∃ p m : Int, vs = [.int p, .int m] ∧
  Tri [] (fun v L' => ∃ q, v = .ref q ∧ 1 ≤ m ∧ 0 ≤ p ∧ p + m ≤ 64 ∧ L' = [pt q (.lst (rgV p (p + m)))]) (fun c d L' => c = .ref (c_NoPage K) ∧ d = none ∧ L' = []) H Q E
/-- what stretches_of tells: pages with bounds within them -/
def chain : Int → Int → List (Int × Int × Int) → Prop
  | a, b, [] => a = b
  | a, b, (p, l, h) :: r => p = a / 8 ∧ l = a % 8 ∧ l < h ∧ h ≤ 8 ∧ a + (h - l) ≤ b ∧ chain (a + (h - l)) b r
def triP (ks : List Addr) (xs : List (Int × Int × Int)) : HP := ⟨fun _ H => ks.length = xs.length ∧ ∀ (i : Nat) k x, ks[i]? = some k → xs[i]? = some x → H k = some (.tup [.int x.1, .int x.2.1, .int x.2.2]), fun ⟨l, h⟩ k => ⟨l, fun i a o h1 h2 => k _ _ (.inr rfl) (h i a o h1 h2)⟩⟩
def sp_stretches_of (K : PySem.W.Frag) : Sp := fun vs H Q E => ∃ a m : Int, vs = [.int a, .int m] ∧ 0 ≤ m ∧ m ≤ 1000 ∧ (0 < m → 0 ≤ a ∧ a ≤ 1000) ∧
  Tri [] (fun v L' => ∃ q ks xs, v = .ref q ∧ chain a (a + m) xs ∧ L' = [pt q (.lst (ks.map V.ref)), triP ks xs]) NoX H Q E
def sp_Rooms___init__ (K : PySem.W.Frag) : Sp := fun vs H Q E => ∃ (x : Addr) (a b : Nat), vs = [.ref x, .int a, .int b] ∧ a ≤ 900 ∧ b ≤ 900 ∧
  Tri [obj (c_Rooms K) x []] (fun v L' => v = .non ∧ L' = [rooms K x [] (initS a b)]) NoX H Q E
def bornS (S : PS) (t : Int) : PS := { S with tabs := S.tabs ++ [(t, fun _ => none)] }
def sp_Rooms_begin (K : PySem.W.Frag) : Sp := fun vs H Q E => ∃ (r : Addr) (ta : List Addr) (S : PS) (t : Int), vs = [.ref r, .int t] ∧ okTab S ∧ S.tabs.length ≤ 1000 ∧
  Tri [rooms K r ta S] (fun v L' => v = .non ∧ t ∉ S.tabs.map (·.1) ∧ ∃ a, L' = [rooms K r (ta ++ [a]) (bornS S t)]) (fun c d L' => c = .ref (c_Taken K) ∧ d = none ∧ t ∈ S.tabs.map (·.1) ∧ L' = [rooms K r ta S]) H Q E
def sp_Rooms_table_of (K : PySem.W.Frag) : Sp := fun vs H Q E => ∃ (r : Addr) (ta : List Addr) (S : PS) (t : Int), vs = [.ref r, .int t] ∧ okTab S ∧
  Tri [rooms K r ta S] (fun v L' => ∃ (i : Nat) (a : Addr) (f : Tb), v = .ref a ∧ ta[i]? = some a ∧ S.tabs[i]? = some (t, f) ∧ L' = [rooms K r ta S]) (fun c d L' => c = .ref (c_NoTask K) ∧ d = none ∧ t ∉ S.tabs.map (·.1) ∧ L' = [rooms K r ta S]) H Q E
def heldS (S : PS) : Nat := (S.tabs.map fun q => (pgs q.2).length).sum
def sp_Rooms_held (K : PySem.W.Frag) : Sp := fun vs H Q E => ∃ (r : Addr) (ta : List Addr) (S : PS), vs = [.ref r] ∧ S.tabs.length ≤ 1000 ∧
  Tri [rooms K r ta S] (fun v L' => v = .int (heldS S) ∧ L' = [rooms K r ta S]) NoX H Q E
def sp_Rooms_ask_room (K : PySem.W.Frag) : Sp := fun vs H Q E => ∃ (r : Addr) (ta : List Addr) (S : PS) (m : Int), vs = [.ref r, .int m] ∧ S.tabs.length ≤ 1000 ∧
  Tri [rooms K r ta S] (fun v L' => v = .non ∧ heldS S + m ≤ S.frames + S.slots ∧ L' = [rooms K r ta S]) (fun c d L' => c = .ref (c_NoRoom K) ∧ d = none ∧ L' = [rooms K r ta S]) H Q E
def sp_Rooms_look_mapped (K : PySem.W.Frag) : Sp := fun vs H Q E => ∃ (r t q : Addr) (f : Tb) (ps : List Int), vs = [.ref r, .ref t, .ref q] ∧ ps.length ≤ 1000 ∧
  Tri [table K t f, pt q (il ps)] (fun v L' => v = .non ∧ (∀ p ∈ ps, (f p).isSome) ∧ L' = [table K t f, pt q (il ps)]) (fun c d L' => c = .ref (c_NoPage K) ∧ d = none ∧ L' = [table K t f, pt q (il ps)]) H Q E
/-- a refusal: a class of ours, nothing changed -/
def refuse (K : PySem.W.Frag) (c : Value) : Prop := c = .ref (c_NoTask K) ∨ c = .ref (c_NoPage K) ∨ c = .ref (c_NoRoom K) ∨ c = .ref (c_Taken K)
def refX (K : PySem.W.Frag) (r : Addr) (ta : List Addr) (S : PS) : Value → Option Addr → List HP → Prop := fun c d L' => refuse K c ∧ d = none ∧ L' = [rooms K r ta S]
def calm8 (S : PS) (N : Nat) : Prop := PI S ∧ S.tabs.length ≤ N
def sp_Rooms_close (K : PySem.W.Frag) : Sp := fun vs H Q E => ∃ (r : Addr) (ta : List Addr) (S : PS) (N : Nat) (t : Int), vs = [.ref r, .int t] ∧ calm8 S N ∧ N ≤ 900 ∧
  Tri [rooms K r ta S] (fun v L' => v = .non ∧ ∃ ta' S', calm8 S' (N + 1) ∧ (∀ o, o.1 ≠ t → getE S' o = getE S o) ∧ L' = [rooms K r ta' S']) (refX K r ta S) H Q E
def sp_Rooms_map (K : PySem.W.Frag) : Sp := fun vs H Q E => ∃ (r : Addr) (ta : List Addr) (S : PS) (N : Nat) (t p m : Int), vs = [.ref r, .int t, .int p, .int m] ∧ calm8 S N ∧ N ≤ 900 ∧
  Tri [rooms K r ta S] (fun v L' => v = .non ∧ ∃ ta' S', calm8 S' (N + 1) ∧ (∀ o, (getE S o).isSome → getE S' o = getE S o) ∧ L' = [rooms K r ta' S']) (refX K r ta S) H Q E
def sp_Rooms_drop (K : PySem.W.Frag) : Sp := fun vs H Q E => ∃ (r : Addr) (ta : List Addr) (S : PS) (N : Nat) (t p m : Int), vs = [.ref r, .int t, .int p, .int m] ∧ calm8 S N ∧ N ≤ 900 ∧
  Tri [rooms K r ta S] (fun v L' => v = .non ∧ ∃ ta' S', calm8 S' (N + 1) ∧ (∀ o, ¬ (o.1 = t ∧ p ≤ o.2 ∧ o.2 < p + m) → getE S' o = getE S o) ∧ L' = [rooms K r ta' S']) (refX K r ta S) H Q E
def okAt (S : PS) (t a m : Int) : Prop := 0 ≤ m ∧ (0 < m → 0 ≤ a ∧ a + m ≤ 512) ∧ ∃ f, ag S.tabs t = some f ∧ ∀ x, a ≤ x → x < a + m → (f (x / 8)).isSome
def sp_Rooms_stretches (K : PySem.W.Frag) : Sp := fun vs H Q E => ∃ (r : Addr) (ta : List Addr) (S : PS) (t a m : Int), vs = [.ref r, .int t, .int a, .int m] ∧ okTab S ∧ m ≤ 1000 ∧
  Tri [rooms K r ta S] (fun v L' => ∃ q ks xs, v = .ref q ∧ chain a (a + m) xs ∧ 0 ≤ m ∧ (0 < m → 0 ≤ a) ∧ (∀ x ∈ xs, (getE S (t, x.1)).isSome) ∧ L' = [pt q (.lst (ks.map V.ref)), triP ks xs, rooms K r ta S]) (refX K r ta S) H Q E
def sp_Rooms_peek (K : PySem.W.Frag) : Sp := fun vs H Q E => ∃ (r : Addr) (ta : List Addr) (S : PS) (N : Nat) (t a m : Int), vs = [.ref r, .int t, .int a, .int m] ∧ calm8 S N ∧ N ≤ 900 ∧ m ≤ 1000 ∧
  Tri [rooms K r ta S] (fun v L' => ∃ S', calm8 S' (N + 1) ∧ (m = 0 → S' = S) ∧ (0 < m → near (getE S' (t, (a + m - 1) / 8))) ∧ ∃ q, v = .ref q ∧ L' = [rooms K r ta S']) (refX K r ta S) H Q E
def sp_Rooms_poke (K : PySem.W.Frag) : Sp := fun vs H Q E => ∃ (r : Addr) (ta : List Addr) (S : PS) (N : Nat) (t a : Int) (c : Addr) (xs : List Int), vs = [.ref r, .int t, .int a, .ref c] ∧ calm8 S N ∧ N ≤ 900 ∧ xs.length ≤ 1000 ∧
  Tri [rooms K r ta S, pt c (il xs)] (fun v L' => v = .non ∧ ∃ S', calm8 S' (N + 1) ∧ (xs.length = 0 → S' = S) ∧ (0 < xs.length → near (getE S' (t, (a + xs.length - 1) / 8))) ∧ L' = [rooms K r ta S', pt c (il xs)])
    (fun e d L' => refuse K e ∧ d = none ∧ L' = [rooms K r ta S, pt c (il xs)]) H Q E
def sp_Rooms_copy (K : PySem.W.Frag) : Sp := fun vs H Q E => ∃ (r : Addr) (ta : List Addr) (S : PS) (N : Nat) (t u : Int), vs = [.ref r, .int t, .int u] ∧ calm8 S N ∧ N ≤ 900 ∧
  Tri [rooms K r ta S] (fun v L' => v = .non ∧ ∃ ta' S', calm8 S' (N + 1) ∧ (∀ o, (getE S o).isSome → getE S' o = getE S o) ∧ L' = [rooms K r ta' S']) (refX K r ta S) H Q E
def sp_Rooms_place (K : PySem.W.Frag) : Sp := fun vs H Q E => ∃ (r : Addr) (ta : List Addr) (S : PS) (t p : Int) (e : En), vs = [.ref r, .int t, .int p] ∧ okTab S ∧ getE S (t, p) = some e ∧
  Tri [rooms K r ta S] (fun v L' => L' = [enP K v e, rooms K r ta S]) NoX H Q E
/-! ### the law -/
inductive Dd where
  | beg (t : Int) | cls (t : Int) | map (t p m : Int) | drop (t p m : Int) | peek (t a m : Int) | poke (t a : Int) (xs : List Int) | copy (t u : Int)
def dP (v : V) : Dd → HP
  | .beg t => HP.exi fun k => HP.pur (v = .ref k) (tp k [.str "begin", .int t])
  | .cls t => HP.exi fun k => HP.pur (v = .ref k) (tp k [.str "close", .int t])
  | .map t p m => HP.exi fun k => HP.pur (v = .ref k) (tp k [.str "map", .int t, .int p, .int m])
  | .drop t p m => HP.exi fun k => HP.pur (v = .ref k) (tp k [.str "drop", .int t, .int p, .int m])
  | .peek t a m => HP.exi fun k => HP.pur (v = .ref k) (tp k [.str "peek", .int t, .int a, .int m])
  | .poke t a xs => HP.exi fun k => HP.exi fun c => HP.pur (v = .ref k) (HP.all [tp k [.str "poke", .int t, .int a, .ref c], pt c (il xs)])
  | .copy t u => HP.exi fun k => HP.pur (v = .ref k) (tp k [.str "copy", .int t, .int u])
def okD : Dd → Prop
  | .peek _ _ m => 0 ≤ m ∧ m ≤ 1000
  | .poke _ _ xs => xs.length ≤ 1000
  | _ => True
def eff (S S' : PS) : Dd → Prop
  | .cls t => ∀ o, o.1 ≠ t → getE S' o = getE S o
  | .drop t p m => ∀ o, ¬ (o.1 = t ∧ p ≤ o.2 ∧ o.2 < p + m) → getE S' o = getE S o
  | .peek t a m => (m = 0 → S' = S) ∧ (0 < m → near (getE S' (t, (a + m - 1) / 8)))
  | .poke t a xs => (xs.length = 0 → S' = S) ∧ (0 < xs.length → near (getE S' (t, (a + xs.length - 1) / 8)))
  | _ => ∀ o, (getE S o).isSome → getE S' o = getE S o
def lastOf (l : Option Ow) : Dd → Option Ow
  | .peek t a m => if 0 < m then some (t, (a + m - 1) / 8) else l
  | .poke t a xs => if 0 < xs.length then some (t, (a + xs.length - 1) / 8) else l
  | .cls t => match l with
    | some o => if t = o.1 then none else l
    | none => none
  | .drop t p m => match l with
    | some o => if t = o.1 ∧ p ≤ o.2 ∧ o.2 < p + m then none else l
    | none => none
  | _ => l
def lP (v : V) (l : Option Ow) : HP := ⟨fun _ H => (v = .non ∧ l = none) ∨ ∃ k o, v = .ref k ∧ l = some o ∧ H k = some (.tup [.int o.1, .int o.2]), fun h k => h.imp id fun ⟨a, o, e1, e2, e3⟩ => ⟨a, o, e1, e2, k _ _ (.inr rfl) e3⟩⟩
def sp__law_draw (K : PySem.W.Frag) : Sp := sp_draw
def sp__law_tape (K : PySem.W.Frag) : Sp := sp_tape K
def sp__law_deed (K : PySem.W.Frag) : Sp := fun vs H Q E => ∃ (a b : Addr) (n : Nat) (t1 t2 t3 : Int), vs = [.ref a, .ref b] ∧ n + 20 < 2 ^ 40 ∧
  Tri [tape a n, pt b (il [t1, t2, t3])] (fun v L' => ∃ d, okD d ∧ L' = [dP v d, tape a (n + 20), pt b (il [t1, t2, t3])]) NoX H Q E
def sp__law_done (K : PySem.W.Frag) : Sp := fun vs H Q E => ∃ (r : Addr) (ta : List Addr) (S : PS) (N : Nat) (v : V) (d : Dd), vs = [.ref r, v] ∧ calm8 S N ∧ N ≤ 900 ∧ okD d ∧
  Tri [rooms K r ta S, dP v d] (fun w L' => ∃ b ta' S', w = .bl b ∧ calm8 S' (N + 1) ∧ (b = false → S' = S) ∧ (b = true → eff S S' d) ∧ L' = [rooms K r ta' S', dP v d]) NoX H Q E
def sp__law_last (K : PySem.W.Frag) : Sp := fun vs H Q E => ∃ (u v : V) (l : Option Ow) (d : Dd), vs = [u, v] ∧ okD d ∧
  Tri [lP u l, dP v d] (fun w L' => L' = [lP w (lastOf l d), dP v d]) NoX H Q E
def sp_law (K : PySem.W.Frag) : Sp := fun vs H Q E => ∃ (a : Addr) (ns : List Int), vs = [.ref a] ∧ ns.length ≤ 63 ∧ Tri [scr K a ns] (fun v _ => v = .bl true) NoX H Q E
end S
set_option Elab.async false
set_option linter.all false
set_option maxRecDepth 100000
set_option maxHeartbeats 1000000
namespace S
open PySem PySem.Spec L2
def t_Store___init__ (K : PySem.W.Frag) (W : WX) : TS :=
  (tSeq (tS (c_Store K) "owners" (tVar 0) (tOp rRep (tLst (tCons (tC (.int 0)) tNil)) (tVar 1)))
  (tS (c_Store K) "contents" (tVar 0) (tLc (iRng1 (tCons (tVar 1) tNil)) (gName 2) tYes (tOp rRep (tLst (tCons (tC (.int 0)) tNil)) (tC (.int 8))) [2])))
abbrev n_Store___init__ : List Str := ["self", "many", "page"]
def t_Store_take (K : PySem.W.Frag) (W : WX) : TS :=
  (tSeq (tIfS (tTest (tOp (rIn K true) (tC (.int 0)) (tF (c_Store K) "owners" (tVar 0)))) (tRet (tC .non)) tNext)
  (tSeq (tAsg (tBM K "list" (rIndex K) (tF (c_Store K) "owners" (tVar 0)) (tCons (tC (.int 0)) tNil)) (gName 1))
  (tSeq (tAsg (tC (.int 1)) (gSub (tF (c_Store K) "owners" (tVar 0)) (tVar 1) rSetL))
  (tSeq (tAsg (tOp rRep (tLst (tCons (tC (.int 0)) tNil)) (tC (.int 8))) (gSub (tF (c_Store K) "contents" (tVar 0)) (tVar 1) rSetL))
  (tRet (tVar 1))))))
abbrev n_Store_take : List Str := ["self", "page"]
def t_Store_count (K : PySem.W.Frag) (W : WX) : TS :=
  (tSeq (tIfS (tNot (tTest (tChain rLe rLt (tC (.int 0)) (tVar 1) (tCB (rLen K) (tCons (tF (c_Store K) "owners" (tVar 0)) tNil))))) (tRet (tC (.int 0))) tNext)
  (tRet (tOp (rIxL K) (tF (c_Store K) "owners" (tVar 0)) (tVar 1))))
abbrev n_Store_count : List Str := ["self", "page"]
def t_Store_free (K : PySem.W.Frag) (W : WX) : TS :=
  (tRet (tBM K "list" (rCntI K) (tF (c_Store K) "owners" (tVar 0)) (tCons (tC (.int 0)) tNil)))
abbrev n_Store_free : List Str := ["self"]
def t_Table___init__ (K : PySem.W.Frag) (W : WX) : TS :=
  (tS (c_Table K) "firsts" (tVar 0) tDNewK)
abbrev n_Table___init__ : List Str := ["self"]
def t_Table_get (K : PySem.W.Frag) (W : WX) : TS :=
  (tSeq (tAsg (tDGet2 (tF (c_Table K) "firsts" (tVar 0)) (tOp rFdiv (tVar 1) (tC (.int 8))) (tC .non)) (gName 2))
  (tSeq (tIfS (tTest (tOp rIsN (tVar 2) (tC .non))) (tRet (tC .non)) tNext)
  (tRet (tDGet2 (tVar 2) (tOp rMod (tVar 1) (tC (.int 8))) (tC .non)))))
abbrev n_Table_get : List Str := ["self", "page", "second"]
def t_Table_lay (K : PySem.W.Frag) (W : WX) : TS :=
  (tSeq (tIfS (tB (tDNotIn (tOp rFdiv (tVar 1) (tC (.int 8))) (tF (c_Table K) "firsts" (tVar 0)))) (sDPut (tF (c_Table K) "firsts" (tVar 0)) (tOp rFdiv (tVar 1) (tC (.int 8))) tDNewK) tNext)
  (sDPut (tDGet (tF (c_Table K) "firsts" (tVar 0)) (tOp rFdiv (tVar 1) (tC (.int 8)))) (tOp rMod (tVar 1) (tC (.int 8))) (tVar 2)))
abbrev n_Table_lay : List Str := ["self", "page", "entry"]
def t_Table_clear (K : PySem.W.Frag) (W : WX) : TS :=
  (tSeq (tAsg (tDGet2 (tF (c_Table K) "firsts" (tVar 0)) (tOp rFdiv (tVar 1) (tC (.int 8))) (tC .non)) (gName 2))
  (tSeq (tIfS (tTest (tOp rIsN (tVar 2) (tC .non))) tRetN tNext)
  (tSeq (tDrop (tDPop2 (tVar 2) (tOp rMod (tVar 1) (tC (.int 8))) (tC .non)))
  (tIfS (tTest (tOp rEq (tCB rLenD (tCons (tVar 2) tNil)) (tC (.int 0)))) (tDrop (tDPop2 (tF (c_Table K) "firsts" (tVar 0)) (tOp rFdiv (tVar 1) (tC (.int 8))) (tC .non))) tNext))))
abbrev n_Table_clear : List Str := ["self", "page", "second"]
def t_Table_pages (K : PySem.W.Frag) (W : WX) : TS :=
  (tSeq (tAsg (tLst tNil) (gName 1))
  (tSeq (tFor (iList K (tCB rSortedDI (tCons (tF (c_Table K) "firsts" (tVar 0)) tNil))) (gName 2)
  (tFor (iList K (tCB rSortedDI (tCons (tDGet (tF (c_Table K) "firsts" (tVar 0)) (tVar 2)) tNil))) (gName 3)
  (tDrop (tBM K "list" rAppend (tVar 1) (tCons (tOp rPlus (tOp rMul (tVar 2) (tC (.int 8))) (tVar 3)) tNil)))))
  (tRet (tVar 1))))
abbrev n_Table_pages : List Str := ["self", "found", "first", "second"]
def t_pages_asked (K : PySem.W.Frag) (W : WX) : TS :=
  (tSeq (tIfS (tOr (tTest (tOp rLt (tVar 1) (tC (.int 1)))) (tOr (tTest (tOp rLt (tVar 0) (tC (.int 0)))) (tTest (tOp rGt (tOp rPlus (tVar 0) (tVar 1)) (tC (.int 64)))))) (tRaise (c_NoPage K) W) tNext)
  (tRet (tLstRg (tRg2 (tVar 0) (tOp rPlus (tVar 0) (tVar 1))))))
abbrev n_pages_asked : List Str := ["page", "many"]
def t_stretches_of (K : PySem.W.Frag) (W : WX) : TS :=
  (tSeq (tAsg (tLst tNil) (gName 2))
  (tSeq (tAsg (tVar 0) (gName 3))
  (tSeq (tWhile (tTest (tOp rLt (tVar 3) (tOp rPlus (tVar 0) (tVar 1)))) (tSeq (tAsg (tCB rMin2 (tCons (tOp rPlus (tVar 0) (tVar 1)) (tCons (tOp rMul (tOp rPlus (tOp rFdiv (tVar 3) (tC (.int 8))) (tC (.int 1))) (tC (.int 8))) tNil))) (gName 4))
  (tSeq (tDrop (tBM K "list" rAppend (tVar 2) (tCons (tTup (tCons (tOp rFdiv (tVar 3) (tC (.int 8))) (tCons (tOp rMod (tVar 3) (tC (.int 8))) (tCons (tOp rMinus (tOp rPlus (tOp rMod (tVar 3) (tC (.int 8))) (tVar 4)) (tVar 3)) tNil)))) tNil)))
  (tAsg (tVar 4) (gName 3)))))
  (tRet (tVar 2)))))
abbrev n_stretches_of : List Str := ["address", "many", "found", "at", "end"]
def t_Rooms_table_of (K : PySem.W.Frag) (W : WX) : TS :=
  (tSeq (tIfS (tB (tDNotIn (tVar 1) (tF (c_Paging K) "tables" (tF (c_Rooms K) "paging" (tVar 0))))) (tRaise (c_NoTask K) W) tNext)
  (tRet (tDGet (tF (c_Paging K) "tables" (tF (c_Rooms K) "paging" (tVar 0))) (tVar 1))))
abbrev n_Rooms_table_of : List Str := ["self", "task"]
def t__law_tape (K : PySem.W.Frag) (W : WX) : TS :=
  (tSeq (tAsg (tIf (tTest (tOp rLt (tVar 1) (tCB (rLen K) (tCons (tVar 0) tNil)))) (tOp (rIxL K) (tVar 0) (tVar 1)) (tC (.int 0))) (gName 2))
  (tRet (tLst (tCons (tOp rMul (tCB rAbs (tCons (tVar 2) tNil)) (tCB rInt1 (tCons (tOp rGe (tCB rAbs (tCons (tVar 2) tNil)) (tOp rPow (tC (.int 10)) (tC (.int 18)))) tNil))) (tCons (tOp rPlus (tOp rPlus (tOp rMod (tVar 2) (tC (.int 2305843009213693951))) (tOp rMul (tC (.int 39373)) (tVar 1))) (tC (.int 17))) (tCons (tC (.int 0)) tNil))))))
abbrev n__law_tape : List Str := ["script", "k", "cell"]
def t__law_draw (K : PySem.W.Frag) (W : WX) : TS :=
  (tSeq (tIfS (tTest (tOp rGt (tOp (rIxL K) (tVar 0) (tC (.int 0))) (tC (.int 0)))) (tSeq (tAsg (tOp rMod (tOp (rIxL K) (tVar 0) (tC (.int 0))) (tVar 1)) (gName 2))
  (tSeq (tAsg (tOp rFdiv (tOp (rIxL K) (tVar 0) (tC (.int 0))) (tVar 1)) (gSub (tVar 0) (tC (.int 0)) rSetL))
  (tRet (tVar 2)))) tNext)
  (tSeq (tAsg (tOp rPlus (tOp (rIxL K) (tVar 0) (tC (.int 2))) (tC (.int 1))) (gSub (tVar 0) (tC (.int 2)) rSetL))
  (tSeq (tAsg (tOp rMod (tOp rPow (tOp rPlus (tOp (rIxL K) (tVar 0) (tC (.int 1))) (tOp rMul (tC (.int 39373)) (tOp (rIxL K) (tVar 0) (tC (.int 2))))) (tC (.int 5))) (tC (.int 2147483647))) (gName 3))
  (tSeq (tAsg (tOp rMod (tOp rMul (tOp rPlus (tVar 3) (tOp (rIxL K) (tVar 0) (tC (.int 2)))) (tOp rPlus (tOp rPlus (tOp rMod (tVar 3) (tC (.int 40009))) (tC (.int 7))) (tOp (rIxL K) (tVar 0) (tC (.int 2))))) (tC (.int 2147483629))) (gName 4))
  (tRet (tOp rMod (tOp rFdiv (tOp rMod (tOp rPlus (tOp rMul (tVar 4) (tC (.int 48271))) (tVar 3)) (tC (.int 2147483587))) (tC (.int 64))) (tVar 1)))))))
abbrev n__law_draw : List Str := ["tape", "many", "found", "once", "twice"]
def t__law_last (K : PySem.W.Frag) (W : WX) : TS :=
  (tSeq (tIfS (tTest (tOp (rIn K false) (tOp (rIxT K) (tVar 1) (tC (.int 0))) (tTup (tCons (tC (.str "peek")) (tCons (tC (.str "poke")) tNil))))) (tSeq (tAsg (tIf (tTest (tOp rEq (tOp (rIxT K) (tVar 1) (tC (.int 0))) (tC (.str "peek")))) (tOp (rIxT K) (tVar 1) (tC (.int 3))) (tCB (rLen K) (tCons (tOp (rIxT K) (tVar 1) (tC (.int 3))) tNil))) (gName 2))
  (tRet (tIf (tTest (tOp rGt (tVar 2) (tC (.int 0)))) (tTup (tCons (tOp (rIxT K) (tVar 1) (tC (.int 1))) (tCons (tOp rFdiv (tOp rMinus (tOp rPlus (tOp (rIxT K) (tVar 1) (tC (.int 2))) (tVar 2)) (tC (.int 1))) (tC (.int 8))) tNil))) (tVar 0)))) tNext)
  (tSeq (tIfS (tAnd (tTest (tOp rNotN (tVar 0) (tC .non))) (tTest (tOp rEq (tOp (rIxT K) (tVar 1) (tC (.int 1))) (tOp (rIxT K) (tVar 0) (tC (.int 0)))))) (tIfS (tOr (tTest (tOp rEq (tOp (rIxT K) (tVar 1) (tC (.int 0))) (tC (.str "close")))) (tAnd (tTest (tOp rEq (tOp (rIxT K) (tVar 1) (tC (.int 0))) (tC (.str "drop")))) (tTest (tChain rLe rLt (tOp (rIxT K) (tVar 1) (tC (.int 2))) (tOp (rIxT K) (tVar 0) (tC (.int 1))) (tOp rPlus (tOp (rIxT K) (tVar 1) (tC (.int 2))) (tOp (rIxT K) (tVar 1) (tC (.int 3)))))))) (tRet (tC .non)) tNext) tNext)
  (tRet (tVar 0))))
abbrev n__law_last : List Str := ["last", "deed", "many"]
def t_Store_look_taken (K : PySem.W.Frag) (W : WX) : TS :=
  (tIfS (tTest (tOp rEq (tM (c_Store K) "count" (sp_Store_count K) (WE W) (tVar 0) (tCons (tVar 1) tNil)) (tC (.int 0)))) (tRaise (c_NoOwner K) W) tNext)
abbrev n_Store_look_taken : List Str := ["self", "page"]
def t_Paging_entry (K : PySem.W.Frag) (W : WX) : TS :=
  (tSeq (tAsg (tVar 1) (gTup K 2 (gCons (gName 2) (gCons (gName 3) gNil))))
  (tRet (tM (c_Table K) "get" (sp_Table_get K) (WE W) (tDGet (tF (c_Paging K) "tables" (tVar 0)) (tVar 2)) (tCons (tVar 3) tNil))))
abbrev n_Paging_entry : List Str := ["self", "owner", "task", "page"]
def t_Paging_lay (K : PySem.W.Frag) (W : WX) : TS :=
  (tSeq (tAsg (tVar 1) (gTup K 2 (gCons (gName 3) (gCons (gName 4) gNil))))
  (tSeq (tDrop (tM (c_Table K) "lay" (sp_Table_lay K) (WE W) (tDGet (tF (c_Paging K) "tables" (tVar 0)) (tVar 3)) (tCons (tVar 4) (tCons (tVar 2) tNil))))
  (tIfS (tTest (tOp (rNeD K) (tVar 2) (tC (.ref (g_BLANK K))))) (sDPut (tDSetT (tF (c_Paging K) "owners" (tVar 0)) (tVar 2) tDNewT) (tVar 1) (tC (.bl true))) tNext)))
abbrev n_Paging_lay : List Str := ["self", "owner", "entry", "task", "page"]
def t_Rooms_held (K : PySem.W.Frag) (W : WX) : TS :=
  (tRet (tCB (rSum K) (tCons (tLockE (tLc (iVals (tF (c_Paging K) "tables" (tF (c_Rooms K) "paging" (tVar 0)))) (gName 1) tYes (tCB (rLen K) (tCons (tM (c_Table K) "pages" (sp_Table_pages K) (WE WF) (tVar 1) tNil) tNil)) [1])) tNil)))
abbrev n_Rooms_held : List Str := ["self", "table"]
def t_Rooms_look_mapped (K : PySem.W.Frag) (W : WX) : TS :=
  (tIfS (tB (tCB (rAny K) (tCons (tLc (iList K (tVar 2)) (gName 3) tYes (tOp rIsN (tM (c_Table K) "get" (sp_Table_get K) (WE WF) (tVar 1) (tCons (tVar 3) tNil)) (tC .non)) [3]) tNil))) (tRaise (c_NoPage K) W) tNext)
abbrev n_Rooms_look_mapped : List Str := ["self", "table", "pages", "one"]
def t_Rooms_place (K : PySem.W.Frag) (W : WX) : TS :=
  (tRet (tM (c_Table K) "get" (sp_Table_get K) (WE W) (tM (c_Rooms K) "table_of" (sp_Rooms_table_of K) (WE W) (tVar 0) (tCons (tVar 1) tNil)) (tCons (tVar 2) tNil)))
abbrev n_Rooms_place : List Str := ["self", "task", "page"]
def t__law_deed (K : PySem.W.Frag) (W : WX) : TS :=
  (tSeq (tPar 2 3 (tCons (tK (sp__law_draw K) (WE W) (tCons (tVar 0) (tCons (tC (.int 14)) tNil))) (tCons (tOp (rIxL K) (tVar 1) (tK (sp__law_draw K) (WE W) (tCons (tVar 0) (tCons (tC (.int 3)) tNil)))) tNil)))
  (tSeq (tPar 4 5 (tCons (tK (sp__law_draw K) (WE W) (tCons (tVar 0) (tCons (tC (.int 4)) tNil))) (tCons (tOp rPlus (tC (.int 1)) (tK (sp__law_draw K) (WE W) (tCons (tVar 0) (tCons (tC (.int 3)) tNil)))) tNil)))
  (tSeq (tIfS (tTest (tOp rLt (tVar 2) (tC (.int 2)))) (tRet (tIf (tTest (tOp rEq (tVar 2) (tC (.int 0)))) (tTup (tCons (tC (.str "begin")) (tCons (tVar 3) tNil))) (tTup (tCons (tC (.str "close")) (tCons (tVar 3) tNil))))) tNext)
  (tSeq (tIfS (tTest (tOp rLt (tVar 2) (tC (.int 5)))) (tRet (tTup (tCons (tC (.str "map")) (tCons (tVar 3) (tCons (tVar 4) (tCons (tVar 5) tNil)))))) tNext)
  (tSeq (tIfS (tTest (tOp rEq (tVar 2) (tC (.int 5)))) (tRet (tTup (tCons (tC (.str "drop")) (tCons (tVar 3) (tCons (tVar 4) (tCons (tC (.int 1)) tNil)))))) tNext)
  (tSeq (tIfS (tTest (tOp rLt (tVar 2) (tC (.int 8)))) (tRet (tTup (tCons (tC (.str "peek")) (tCons (tVar 3) (tCons (tOp rPlus (tOp rMul (tC (.int 8)) (tVar 4)) (tK (sp__law_draw K) (WE W) (tCons (tVar 0) (tCons (tC (.int 8)) tNil)))) (tCons (tK (sp__law_draw K) (WE W) (tCons (tVar 0) (tCons (tC (.int 12)) tNil))) tNil)))))) tNext)
  (tSeq (tIfS (tTest (tOp rLt (tVar 2) (tC (.int 11)))) (tRet (tTup (tCons (tC (.str "poke")) (tCons (tVar 3) (tCons (tOp rPlus (tOp rMul (tC (.int 8)) (tVar 4)) (tK (sp__law_draw K) (WE W) (tCons (tVar 0) (tCons (tC (.int 8)) tNil)))) (tCons (tOp rRep (tLst (tCons (tK (sp__law_draw K) (WE W) (tCons (tVar 0) (tCons (tC (.int 256)) tNil))) tNil)) (tK (sp__law_draw K) (WE W) (tCons (tVar 0) (tCons (tC (.int 12)) tNil)))) tNil)))))) tNext)
  (tRet (tTup (tCons (tC (.str "copy")) (tCons (tVar 3) (tCons (tOp (rIxL K) (tVar 1) (tK (sp__law_draw K) (WE W) (tCons (tVar 0) (tCons (tC (.int 3)) tNil)))) tNil))))))))))))
abbrev n__law_deed : List Str := ["tape", "tasks", "way", "task", "page", "many"]
def t_Store_more (K : PySem.W.Frag) (W : WX) : TS :=
  (tSeq (tDrop (tM (c_Store K) "look_taken" (sp_Store_look_taken K) (WE W) (tVar 0) (tCons (tVar 1) tNil)))
  (tAugS (tF (c_Store K) "owners" (tVar 0)) (tVar 1) (tC (.int 1)) (rIxL K) (ipI fun i j => i + j) rSetL))
abbrev n_Store_more : List Str := ["self", "page"]
def t_Store_less (K : PySem.W.Frag) (W : WX) : TS :=
  (tSeq (tDrop (tM (c_Store K) "look_taken" (sp_Store_look_taken K) (WE W) (tVar 0) (tCons (tVar 1) tNil)))
  (tAugS (tF (c_Store K) "owners" (tVar 0)) (tVar 1) (tC (.int 1)) (rIxL K) (ipI fun i j => i - j) rSetL))
abbrev n_Store_less : List Str := ["self", "page"]
def t_Store_cells (K : PySem.W.Frag) (W : WX) : TS :=
  (tSeq (tDrop (tM (c_Store K) "look_taken" (sp_Store_look_taken K) (WE W) (tVar 0) (tCons (tVar 1) tNil)))
  (tRet (tCB (rListOf K) (tCons (tOp (rIxL K) (tF (c_Store K) "contents" (tVar 0)) (tVar 1)) tNil))))
abbrev n_Store_cells : List Str := ["self", "page"]
def t_Store_put (K : PySem.W.Frag) (W : WX) : TS :=
  (tSeq (tDrop (tM (c_Store K) "look_taken" (sp_Store_look_taken K) (WE W) (tVar 0) (tCons (tVar 1) tNil)))
  (tAsg (tCB (rListOf K) (tCons (tVar 2) tNil)) (gSub (tF (c_Store K) "contents" (tVar 0)) (tVar 1) rSetL)))
abbrev n_Store_put : List Str := ["self", "page", "cells"]
def t_Paging___init__ (K : PySem.W.Frag) (W : WX) : TS :=
  (tSeq (tS (c_Paging K) "stores" (tVar 0) (tDisp [((tC (.str "frame")), (tN (c_Store K) (sp_Store___init__ K) (WE W) (tCons (tVar 1) tNil))), ((tC (.str "slot")), (tN (c_Store K) (sp_Store___init__ K) (WE W) (tCons (tVar 2) tNil)))]))
  (tSeq (tS (c_Paging K) "frames" (tVar 0) (tVar 1))
  (tSeq (tS (c_Paging K) "slots" (tVar 0) (tVar 2))
  (tSeq (tS (c_Paging K) "tables" (tVar 0) tDNewK)
  (tSeq (tS (c_Paging K) "owners" (tVar 0) tDNewT)
  (tS (c_Paging K) "hand" (tVar 0) (tC (.int 0))))))))
abbrev n_Paging___init__ : List Str := ["self", "frames", "slots"]
def t_Rooms_begin (K : PySem.W.Frag) (W : WX) : TS :=
  (tSeq (tIfS (tB (tDIn (tVar 1) (tF (c_Paging K) "tables" (tF (c_Rooms K) "paging" (tVar 0))))) (tRaise (c_Taken K) W) tNext)
  (sDPut (tF (c_Paging K) "tables" (tF (c_Rooms K) "paging" (tVar 0))) (tVar 1) (tN (c_Table K) (sp_Table___init__ K) (WE W) tNil)))
abbrev n_Rooms_begin : List Str := ["self", "task"]
def t_Rooms_ask_room (K : PySem.W.Frag) (W : WX) : TS :=
  (tIfS (tTest (tOp rGt (tOp rPlus (tM (c_Rooms K) "held" (sp_Rooms_held K) (WE W) (tVar 0) tNil) (tVar 1)) (tOp rPlus (tF (c_Paging K) "frames" (tF (c_Rooms K) "paging" (tVar 0))) (tF (c_Paging K) "slots" (tF (c_Rooms K) "paging" (tVar 0)))))) (tRaise (c_NoRoom K) W) tNext)
abbrev n_Rooms_ask_room : List Str := ["self", "many"]
def t_Rooms_stretches (K : PySem.W.Frag) (W : WX) : TS :=
  (tSeq (tAsg (tM (c_Rooms K) "table_of" (sp_Rooms_table_of K) (WE W) (tVar 0) (tCons (tVar 1) tNil)) (gName 4))
  (tSeq (tIfS (tOr (tTest (tOp rLt (tVar 3) (tC (.int 0)))) (tAnd (tTest (tOp rGt (tVar 3) (tC (.int 0)))) (tOr (tTest (tOp rLt (tVar 2) (tC (.int 0)))) (tTest (tOp rGt (tOp rPlus (tVar 2) (tVar 3)) (tOp rMul (tC (.int 64)) (tC (.int 8)))))))) (tRaise (c_NoPage K) W) tNext)
  (tSeq (tAsg (tK (sp_stretches_of K) (WE W) (tCons (tVar 2) (tCons (tVar 3) tNil))) (gName 5))
  (tSeq (tDrop (tM (c_Rooms K) "look_mapped" (sp_Rooms_look_mapped K) (WE W) (tVar 0) (tCons (tVar 4) (tCons (tLc (iList K (tVar 5)) (gTup K 3 (gCons (gName 6) (gCons (gName 7) (gCons (gName 8) gNil)))) tYes (tVar 6) [6, 7, 8]) tNil))))
  (tRet (tVar 5))))))
abbrev n_Rooms_stretches : List Str := ["self", "task", "address", "many", "table", "found", "page", "low", "high"]
def t_Paging_share (K : PySem.W.Frag) (W : WX) : TS :=
  (tSeq (tIfS (tTest (tOp (rNeD K) (tVar 2) (tC (.ref (g_BLANK K))))) (tDrop (tM (c_Store K) "more" (sp_Store_more K) (WE W) (tDGet (tF (c_Paging K) "stores" (tVar 0)) (tOp (rIxT K) (tVar 2) (tC (.int 0)))) (tCons (tOp (rIxT K) (tVar 2) (tC (.int 1))) tNil))) tNext)
  (tDrop (tM (c_Paging K) "lay" (sp_Paging_lay K) (WE W) (tVar 0) (tCons (tVar 1) (tCons (tVar 2) tNil)))))
abbrev n_Paging_share : List Str := ["self", "owner", "entry"]
def t_Paging_leave (K : PySem.W.Frag) (W : WX) : TS :=
  (tSeq (tAsg (tM (c_Paging K) "entry" (sp_Paging_entry K) (WE W) (tVar 0) (tCons (tVar 1) tNil)) (gName 2))
  (tIfS (tTest (tOp (rNeD K) (tVar 2) (tC (.ref (g_BLANK K))))) (tSeq (tDrop (tDPopT (tDGet (tF (c_Paging K) "owners" (tVar 0)) (tVar 2)) (tVar 1)))
  (tDrop (tM (c_Store K) "less" (sp_Store_less K) (WE W) (tDGet (tF (c_Paging K) "stores" (tVar 0)) (tOp (rIxT K) (tVar 2) (tC (.int 0)))) (tCons (tOp (rIxT K) (tVar 2) (tC (.int 1))) tNil)))) tNext))
abbrev n_Paging_leave : List Str := ["self", "owner", "entry"]
def t_Paging_lifted (K : PySem.W.Frag) (W : WX) : TS :=
  (tSeq (tAsg (tDGet (tF (c_Paging K) "stores" (tVar 0)) (tOp (rIxT K) (tVar 1) (tC (.int 0)))) (gName 2))
  (tSeq (tAsg (tM (c_Store K) "cells" (sp_Store_cells K) (WE W) (tVar 2) (tCons (tOp (rIxT K) (tVar 1) (tC (.int 1))) tNil)) (gName 3))
  (tSeq (tAsg (tCB rListT (tCons (tDPopT (tF (c_Paging K) "owners" (tVar 0)) (tVar 1)) tNil)) (gName 4))
  (tSeq (tFor (iList K (tVar 4)) (gName 5)
  (tDrop (tM (c_Store K) "less" (sp_Store_less K) (WE W) (tVar 2) (tCons (tOp (rIxT K) (tVar 1) (tC (.int 1))) tNil))))
  (tRet (tTup (tCons (tVar 3) (tCons (tVar 4) tNil))))))))
abbrev n_Paging_lifted : List Str := ["self", "entry", "store", "cells", "owners", "owner"]
def t_Paging_settle (K : PySem.W.Frag) (W : WX) : TS :=
  (tSeq (tAsg (tDGet (tF (c_Paging K) "stores" (tVar 0)) (tOp (rIxT K) (tVar 1) (tC (.int 0)))) (gName 4))
  (tSeq (tDrop (tM (c_Store K) "put" (sp_Store_put K) (WE W) (tVar 4) (tCons (tOp (rIxT K) (tVar 1) (tC (.int 1))) (tCons (tVar 2) tNil))))
  (tSeq (tFor (iList K (tSl (rSlL K) (tVar 3) (tPart (tC (.int 1))) tNoPart)) (gName 5)
  (tDrop (tM (c_Store K) "more" (sp_Store_more K) (WE W) (tVar 4) (tCons (tOp (rIxT K) (tVar 1) (tC (.int 1))) tNil))))
  (tFor (iList K (tVar 3)) (gName 5)
  (tDrop (tM (c_Paging K) "lay" (sp_Paging_lay K) (WE W) (tVar 0) (tCons (tVar 5) (tCons (tVar 1) tNil))))))))
abbrev n_Paging_settle : List Str := ["self", "entry", "cells", "owners", "store", "owner"]
def t_Paging_cells (K : PySem.W.Frag) (W : WX) : TS :=
  (tSeq (tAsg (tM (c_Paging K) "entry" (sp_Paging_entry K) (WE W) (tVar 0) (tCons (tVar 1) tNil)) (gName 2))
  (tSeq (tIfS (tTest (tOp (rEqD K) (tVar 2) (tC (.ref (g_BLANK K))))) (tRet (tOp rRep (tLst (tCons (tC (.int 0)) tNil)) (tC (.int 8)))) tNext)
  (tRet (tM (c_Store K) "cells" (sp_Store_cells K) (WE W) (tDGet (tF (c_Paging K) "stores" (tVar 0)) (tOp (rIxT K) (tVar 2) (tC (.int 0)))) (tCons (tOp (rIxT K) (tVar 2) (tC (.int 1))) tNil)))))
abbrev n_Paging_cells : List Str := ["self", "owner", "entry"]
def t_Paging_put (K : PySem.W.Frag) (W : WX) : TS :=
  (tSeq (tAsg (tM (c_Paging K) "entry" (sp_Paging_entry K) (WE W) (tVar 0) (tCons (tVar 1) tNil)) (gName 3))
  (tDrop (tM (c_Store K) "put" (sp_Store_put K) (WE W) (tDGet (tF (c_Paging K) "stores" (tVar 0)) (tOp (rIxT K) (tVar 3) (tC (.int 0)))) (tCons (tOp (rIxT K) (tVar 3) (tC (.int 1))) (tCons (tVar 2) tNil)))))
abbrev n_Paging_put : List Str := ["self", "owner", "cells", "entry"]
def t_Rooms_map (K : PySem.W.Frag) (W : WX) : TS :=
  (tSeq (tAsg (tM (c_Rooms K) "table_of" (sp_Rooms_table_of K) (WE W) (tVar 0) (tCons (tVar 1) tNil)) (gName 4))
  (tSeq (tAsg (tK (sp_pages_asked K) (WE W) (tCons (tVar 2) (tCons (tVar 3) tNil))) (gName 5))
  (tSeq (tIfS (tB (tCB (rAny K) (tCons (tLc (iList K (tVar 5)) (gName 6) tYes (tOp rNotN (tM (c_Table K) "get" (sp_Table_get K) (WE WF) (tVar 4) (tCons (tVar 6) tNil)) (tC .non)) [6]) tNil))) (tRaise (c_Taken K) W) tNext)
  (tSeq (tDrop (tM (c_Rooms K) "ask_room" (sp_Rooms_ask_room K) (WE W) (tVar 0) (tCons (tVar 3) tNil)))
  (tFor (iList K (tVar 5)) (gName 6)
  (tDrop (tM (c_Paging K) "lay" (sp_Paging_lay K) (WE W) (tF (c_Rooms K) "paging" (tVar 0)) (tCons (tTup (tCons (tVar 1) (tCons (tVar 6) tNil))) (tCons (tC (.ref (g_BLANK K))) tNil)))))))))
abbrev n_Rooms_map : List Str := ["self", "task", "page", "many", "table", "asked", "one"]
def t_Paging_put_out (K : PySem.W.Frag) (W : WX) : TS :=
  (tSeq (tAsg (tM (c_Paging K) "lifted" (sp_Paging_lifted K) (WE W) (tVar 0) (tCons (tTup (tCons (tC (.str "frame")) (tCons (tF (c_Paging K) "hand" (tVar 0)) tNil))) tNil)) (gTup K 2 (gCons (gName 1) (gCons (gName 2) gNil))))
  (tSeq (tS (c_Paging K) "hand" (tVar 0) (tOp rMod (tOp rPlus (tF (c_Paging K) "hand" (tVar 0)) (tC (.int 1))) (tF (c_Paging K) "frames" (tVar 0))))
  (tDrop (tM (c_Paging K) "settle" (sp_Paging_settle K) (WE W) (tVar 0) (tCons (tTup (tCons (tC (.str "slot")) (tCons (tM (c_Store K) "take" (sp_Store_take K) (WE W) (tDGet (tF (c_Paging K) "stores" (tVar 0)) (tC (.str "slot"))) tNil) tNil))) (tCons (tVar 1) (tCons (tVar 2) tNil)))))))
abbrev n_Paging_put_out : List Str := ["self", "cells", "owners"]
def t_Rooms___init__ (K : PySem.W.Frag) (W : WX) : TS :=
  (tS (c_Rooms K) "paging" (tVar 0) (tN (c_Paging K) (sp_Paging___init__ K) (WE W) (tCons (tVar 1) (tCons (tVar 2) tNil))))
abbrev n_Rooms___init__ : List Str := ["self", "frames", "slots"]
def t_Rooms_close (K : PySem.W.Frag) (W : WX) : TS :=
  (tSeq (tFor (iList K (tM (c_Table K) "pages" (sp_Table_pages K) (WE W) (tM (c_Rooms K) "table_of" (sp_Rooms_table_of K) (WE W) (tVar 0) (tCons (tVar 1) tNil)) tNil)) (gName 2)
  (tDrop (tM (c_Paging K) "leave" (sp_Paging_leave K) (WE W) (tF (c_Rooms K) "paging" (tVar 0)) (tCons (tTup (tCons (tVar 1) (tCons (tVar 2) tNil))) tNil))))
  (tDrop (tDPop1 (tF (c_Paging K) "tables" (tF (c_Rooms K) "paging" (tVar 0))) (tVar 1))))
abbrev n_Rooms_close : List Str := ["self", "task", "page"]
def t_Rooms_drop (K : PySem.W.Frag) (W : WX) : TS :=
  (tSeq (tAsg (tM (c_Rooms K) "table_of" (sp_Rooms_table_of K) (WE W) (tVar 0) (tCons (tVar 1) tNil)) (gName 4))
  (tSeq (tAsg (tK (sp_pages_asked K) (WE W) (tCons (tVar 2) (tCons (tVar 3) tNil))) (gName 5))
  (tSeq (tDrop (tM (c_Rooms K) "look_mapped" (sp_Rooms_look_mapped K) (WE W) (tVar 0) (tCons (tVar 4) (tCons (tVar 5) tNil))))
  (tFor (iList K (tVar 5)) (gName 6)
  (tSeq (tDrop (tM (c_Paging K) "leave" (sp_Paging_leave K) (WE W) (tF (c_Rooms K) "paging" (tVar 0)) (tCons (tTup (tCons (tVar 1) (tCons (tVar 6) tNil))) tNil)))
  (tDrop (tM (c_Table K) "clear" (sp_Table_clear K) (WE W) (tVar 4) (tCons (tVar 6) tNil))))))))
abbrev n_Rooms_drop : List Str := ["self", "task", "page", "many", "table", "asked", "one"]
def t_Rooms_copy (K : PySem.W.Frag) (W : WX) : TS :=
  (tSeq (tAsg (tM (c_Rooms K) "table_of" (sp_Rooms_table_of K) (WE W) (tVar 0) (tCons (tVar 1) tNil)) (gName 3))
  (tSeq (tIfS (tB (tDIn (tVar 2) (tF (c_Paging K) "tables" (tF (c_Rooms K) "paging" (tVar 0))))) (tRaise (c_Taken K) W) tNext)
  (tSeq (tDrop (tM (c_Rooms K) "ask_room" (sp_Rooms_ask_room K) (WE W) (tVar 0) (tCons (tCB (rLen K) (tCons (tM (c_Table K) "pages" (sp_Table_pages K) (WE W) (tVar 3) tNil) tNil)) tNil)))
  (tSeq (sDPut (tF (c_Paging K) "tables" (tF (c_Rooms K) "paging" (tVar 0))) (tVar 2) (tN (c_Table K) (sp_Table___init__ K) (WE W) tNil))
  (tFor (iList K (tM (c_Table K) "pages" (sp_Table_pages K) (WE W) (tVar 3) tNil)) (gName 4)
  (tDrop (tM (c_Paging K) "share" (sp_Paging_share K) (WE W) (tF (c_Rooms K) "paging" (tVar 0)) (tCons (tTup (tCons (tVar 2) (tCons (tVar 4) tNil))) (tCons (tM (c_Table K) "get" (sp_Table_get K) (WE W) (tVar 3) (tCons (tVar 4) tNil)) tNil)))))))))
abbrev n_Rooms_copy : List Str := ["self", "task", "other", "table", "page"]
def t_Paging_frame_taken (K : PySem.W.Frag) (W : WX) : TS :=
  (tSeq (tIfS (tTest (tOp rEq (tM (c_Store K) "free" (sp_Store_free K) (WE W) (tDGet (tF (c_Paging K) "stores" (tVar 0)) (tC (.str "frame"))) tNil) (tC (.int 0)))) (tDrop (tM (c_Paging K) "put_out" (sp_Paging_put_out K) (WE W) (tVar 0) tNil)) tNext)
  (tRet (tTup (tCons (tC (.str "frame")) (tCons (tM (c_Store K) "take" (sp_Store_take K) (WE W) (tDGet (tF (c_Paging K) "stores" (tVar 0)) (tC (.str "frame"))) tNil) tNil)))))
abbrev n_Paging_frame_taken : List Str := ["self"]
def t_Paging_fetch (K : PySem.W.Frag) (W : WX) : TS :=
  (tSeq (tAsg (tM (c_Paging K) "entry" (sp_Paging_entry K) (WE W) (tVar 0) (tCons (tVar 1) tNil)) (gName 2))
  (tIfS (tTest (tOp rEq (tOp (rIxT K) (tVar 2) (tC (.int 0))) (tC (.str "slot")))) (tSeq (tAsg (tM (c_Paging K) "lifted" (sp_Paging_lifted K) (WE W) (tVar 0) (tCons (tVar 2) tNil)) (gTup K 2 (gCons (gName 3) (gCons (gName 4) gNil))))
  (tDrop (tM (c_Paging K) "settle" (sp_Paging_settle K) (WE W) (tVar 0) (tCons (tM (c_Paging K) "frame_taken" (sp_Paging_frame_taken K) (WE W) (tVar 0) tNil) (tCons (tVar 3) (tCons (tVar 4) tNil)))))) tNext))
abbrev n_Paging_fetch : List Str := ["self", "owner", "entry", "cells", "owners"]
def t_Paging_part (K : PySem.W.Frag) (W : WX) : TS :=
  (tSeq (tAsg (tM (c_Paging K) "entry" (sp_Paging_entry K) (WE W) (tVar 0) (tCons (tVar 1) tNil)) (gName 2))
  (tSeq (tIfS (tAnd (tTest (tOp (rNeD K) (tVar 2) (tC (.ref (g_BLANK K))))) (tTest (tOp rEq (tM (c_Store K) "count" (sp_Store_count K) (WE W) (tDGet (tF (c_Paging K) "stores" (tVar 0)) (tOp (rIxT K) (tVar 2) (tC (.int 0)))) (tCons (tOp (rIxT K) (tVar 2) (tC (.int 1))) tNil)) (tC (.int 1))))) (tSeq (tDrop (tM (c_Paging K) "fetch" (sp_Paging_fetch K) (WE W) (tVar 0) (tCons (tVar 1) tNil)))
  tRetN) tNext)
  (tSeq (tAsg (tM (c_Paging K) "cells" (sp_Paging_cells K) (WE W) (tVar 0) (tCons (tVar 1) tNil)) (gName 3))
  (tSeq (tDrop (tM (c_Paging K) "leave" (sp_Paging_leave K) (WE W) (tVar 0) (tCons (tVar 1) tNil)))
  (tDrop (tM (c_Paging K) "settle" (sp_Paging_settle K) (WE W) (tVar 0) (tCons (tM (c_Paging K) "frame_taken" (sp_Paging_frame_taken K) (WE W) (tVar 0) tNil) (tCons (tVar 3) (tCons (tLst (tCons (tVar 1) tNil)) tNil)))))))))
abbrev n_Paging_part : List Str := ["self", "owner", "entry", "cells"]
def t_Rooms_peek (K : PySem.W.Frag) (W : WX) : TS :=
  (tSeq (tAsg (tLst tNil) (gName 4))
  (tSeq (tFor (iList K (tM (c_Rooms K) "stretches" (sp_Rooms_stretches K) (WE W) (tVar 0) (tCons (tVar 1) (tCons (tVar 2) (tCons (tVar 3) tNil))))) (gTup K 3 (gCons (gName 5) (gCons (gName 6) (gCons (gName 7) gNil))))
  (tSeq (tDrop (tM (c_Paging K) "fetch" (sp_Paging_fetch K) (WE W) (tF (c_Rooms K) "paging" (tVar 0)) (tCons (tTup (tCons (tVar 1) (tCons (tVar 5) tNil))) tNil)))
  (tDrop (tBM K "list" rExtend (tVar 4) (tCons (tSl (rSlL K) (tM (c_Paging K) "cells" (sp_Paging_cells K) (WE W) (tF (c_Rooms K) "paging" (tVar 0)) (tCons (tTup (tCons (tVar 1) (tCons (tVar 5) tNil))) tNil)) (tPart (tVar 6)) (tPart (tVar 7))) tNil)))))
  (tRet (tVar 4))))
abbrev n_Rooms_peek : List Str := ["self", "task", "address", "many", "cells", "page", "low", "high"]
def t_Rooms_poke (K : PySem.W.Frag) (W : WX) : TS :=
  (tSeq (tAsg (tCB (rListOf K) (tCons (tVar 3) tNil)) (gName 4))
  (tFor (iList K (tM (c_Rooms K) "stretches" (sp_Rooms_stretches K) (WE W) (tVar 0) (tCons (tVar 1) (tCons (tVar 2) (tCons (tCB (rLen K) (tCons (tVar 4) tNil)) tNil))))) (gTup K 3 (gCons (gName 5) (gCons (gName 6) (gCons (gName 7) gNil))))
  (tSeq (tAsg (tTup (tCons (tVar 1) (tCons (tVar 5) tNil))) (gName 8))
  (tSeq (tDrop (tM (c_Paging K) "part" (sp_Paging_part K) (WE W) (tF (c_Rooms K) "paging" (tVar 0)) (tCons (tVar 8) tNil)))
  (tSeq (tAsg (tM (c_Paging K) "cells" (sp_Paging_cells K) (WE W) (tF (c_Rooms K) "paging" (tVar 0)) (tCons (tVar 8) tNil)) (gName 9))
  (tSeq (tDrop (tM (c_Paging K) "put" (sp_Paging_put K) (WE W) (tF (c_Rooms K) "paging" (tVar 0)) (tCons (tVar 8) (tCons (tOp rCat (tOp rCat (tSl (rSlL K) (tVar 9) tNoPart (tPart (tVar 6))) (tSl (rSlL K) (tVar 4) tNoPart (tPart (tOp rMinus (tVar 7) (tVar 6))))) (tSl (rSlL K) (tVar 9) (tPart (tVar 7)) tNoPart)) tNil))))
  (tAsg (tSl (rSlL K) (tVar 4) (tPart (tOp rMinus (tVar 7) (tVar 6))) tNoPart) (gName 4))))))))
abbrev n_Rooms_poke : List Str := ["self", "task", "address", "cells", "left", "page", "low", "high", "owner", "kept"]
def t__law_done (K : PySem.W.Frag) (W : WX) : TS :=
  (tSeq (tAsg (tC (.bl true)) (gName 2))
  (tSeq (tTry K (.ref (c_KernelError K)) (fun _ _ _ => (tAsg (tC (.bl false)) (gName 2))) (fun W1 => (tIfS (tTest (tOp rEq (tOp (rIxT K) (tVar 1) (tC (.int 0))) (tC (.str "begin")))) (tDrop (tM (c_Rooms K) "begin" (sp_Rooms_begin K) (WE W1) (tVar 0) (tCons (tOp (rIxT K) (tVar 1) (tC (.int 1))) tNil))) (tIfS (tTest (tOp rEq (tOp (rIxT K) (tVar 1) (tC (.int 0))) (tC (.str "close")))) (tDrop (tM (c_Rooms K) "close" (sp_Rooms_close K) (WE W1) (tVar 0) (tCons (tOp (rIxT K) (tVar 1) (tC (.int 1))) tNil))) (tIfS (tTest (tOp rEq (tOp (rIxT K) (tVar 1) (tC (.int 0))) (tC (.str "map")))) (tDrop (tM (c_Rooms K) "map" (sp_Rooms_map K) (WE W1) (tVar 0) (tCons (tOp (rIxT K) (tVar 1) (tC (.int 1))) (tCons (tOp (rIxT K) (tVar 1) (tC (.int 2))) (tCons (tOp (rIxT K) (tVar 1) (tC (.int 3))) tNil))))) (tIfS (tTest (tOp rEq (tOp (rIxT K) (tVar 1) (tC (.int 0))) (tC (.str "drop")))) (tDrop (tM (c_Rooms K) "drop" (sp_Rooms_drop K) (WE W1) (tVar 0) (tCons (tOp (rIxT K) (tVar 1) (tC (.int 1))) (tCons (tOp (rIxT K) (tVar 1) (tC (.int 2))) (tCons (tOp (rIxT K) (tVar 1) (tC (.int 3))) tNil))))) (tIfS (tTest (tOp rEq (tOp (rIxT K) (tVar 1) (tC (.int 0))) (tC (.str "peek")))) (tDrop (tM (c_Rooms K) "peek" (sp_Rooms_peek K) (WE W1) (tVar 0) (tCons (tOp (rIxT K) (tVar 1) (tC (.int 1))) (tCons (tOp (rIxT K) (tVar 1) (tC (.int 2))) (tCons (tOp (rIxT K) (tVar 1) (tC (.int 3))) tNil))))) (tIfS (tTest (tOp rEq (tOp (rIxT K) (tVar 1) (tC (.int 0))) (tC (.str "poke")))) (tDrop (tM (c_Rooms K) "poke" (sp_Rooms_poke K) (WE W1) (tVar 0) (tCons (tOp (rIxT K) (tVar 1) (tC (.int 1))) (tCons (tOp (rIxT K) (tVar 1) (tC (.int 2))) (tCons (tOp (rIxT K) (tVar 1) (tC (.int 3))) tNil))))) (tDrop (tM (c_Rooms K) "copy" (sp_Rooms_copy K) (WE W1) (tVar 0) (tCons (tOp (rIxT K) (tVar 1) (tC (.int 1))) (tCons (tOp (rIxT K) (tVar 1) (tC (.int 2))) tNil))))))))))) W)
  (tRet (tVar 2))))
abbrev n__law_done : List Str := ["rooms", "deed", "fine"]
def t_law (K : PySem.W.Frag) (W : WX) : TS :=
  (tSeq (tFor (iRng1 (tCons (tCB rMax2 (tCons (tC (.int 2)) (tCons (tCB rMin2 (tCons (tCB (rLen K) (tCons (tVar 0) tNil)) (tCons (tC (.int 3)) tNil))) tNil))) tNil)) (gName 1)
  (tSeq (tAsg (tK (sp__law_tape K) (WE W) (tCons (tVar 0) (tCons (tVar 1) tNil))) (gName 2))
  (tSeq (tPar 3 4 (tCons (tN (c_Rooms K) (sp_Rooms___init__ K) (WE W) (tCons (tOp rPlus (tC (.int 2)) (tK (sp__law_draw K) (WE W) (tCons (tVar 2) (tCons (tC (.int 4)) tNil)))) (tCons (tK (sp__law_draw K) (WE W) (tCons (tVar 2) (tCons (tC (.int 8)) tNil))) tNil))) (tCons (tC .non) tNil)))
  (tSeq (tAsg (tLst (tCons (tC (.int 1)) (tCons (tOp rPlus (tC (.int 2)) (tK (sp__law_draw K) (WE W) (tCons (tVar 2) (tCons (tC (.int 9)) tNil)))) (tCons (tOp rPlus (tOp rPow (tC (.int 10)) (tC (.int 30))) (tK (sp__law_draw K) (WE W) (tCons (tVar 2) (tCons (tC (.int 9)) tNil)))) tNil)))) (gName 5))
  (tSeq (tFor (iList K (tSl (rSlL K) (tVar 5) tNoPart (tPart (tOp rPlus (tC (.int 1)) (tK (sp__law_draw K) (WE W) (tCons (tVar 2) (tCons (tC (.int 2)) tNil))))))) (gName 6)
  (tDrop (tM (c_Rooms K) "begin" (sp_Rooms_begin K) (WE W) (tVar 3) (tCons (tVar 6) tNil))))
  (tFor (iRng1 (tCons (tC (.int 30)) tNil)) (gName 7)
  (tSeq (tAsg (tK (sp__law_deed K) (WE W) (tCons (tVar 2) (tCons (tVar 5) tNil))) (gName 8))
  (tSeq (tIfS (tB (tK (sp__law_done K) (WE W) (tCons (tVar 3) (tCons (tVar 8) tNil)))) (tAsg (tK (sp__law_last K) (WE W) (tCons (tVar 4) (tCons (tVar 8) tNil))) (gName 4)) tNext)
  (tIfS (tTest (tOp rNotN (tVar 4) (tC .non))) (tSeq (tAsg (tM (c_Rooms K) "place" (sp_Rooms_place K) (WE W) (tVar 3) (tCons (tOp (rIxT K) (tVar 4) (tC (.int 0))) (tCons (tOp (rIxT K) (tVar 4) (tC (.int 1))) tNil))) (gName 9))
  (tIfS (tOr (tNot (tB (tCB (rIsi K) (tCons (tVar 9) (tCons (tC (.ty "tuple")) tNil))))) (tAnd (tTest (tOp (rNeD K) (tVar 9) (tTup (tCons (tC (.str "blank")) tNil)))) (tTest (tOp rNe (tOp (rIxT K) (tVar 9) (tC (.int 0))) (tC (.str "frame")))))) (tRet (tC (.bl false))) tNext)) tNext)))))))))
  (tRet (tC (.bl true))))
abbrev n_law : List Str := ["script", "k", "tape", "rooms", "last", "tasks", "task", "turn", "deed", "place"]
end S
set_option Elab.async false
set_option linter.all false
set_option maxRecDepth 100000
set_option maxHeartbeats 1000000
namespace S
open PySem PySem.Spec L2
local macro_rules | `(tactic| wtm_at "z_sel") => `(tactic| with_reducible first
  | exact Sel.here | exact (Sel.there Sel.here) | exact (Sel.there (Sel.there Sel.here)) | exact (Sel.there (Sel.there (Sel.there Sel.here))) | exact (Sel.there (Sel.there (Sel.there (Sel.there Sel.here)))) | exact (Sel.there (Sel.there (Sel.there (Sel.there (Sel.there Sel.here))))) | exact (Sel.there (Sel.there (Sel.there (Sel.there (Sel.there (Sel.there Sel.here)))))) | exact (Sel.there (Sel.there (Sel.there (Sel.there (Sel.there (Sel.there (Sel.there Sel.here))))))) | exact (Sel.there (Sel.there (Sel.there (Sel.there (Sel.there (Sel.there (Sel.there (Sel.there Sel.here)))))))) | exact (Sel.there (Sel.there (Sel.there (Sel.there (Sel.there (Sel.there (Sel.there (Sel.there (Sel.there Sel.here))))))))) | exact (Sel.there (Sel.there (Sel.there (Sel.there (Sel.there (Sel.there (Sel.there (Sel.there (Sel.there (Sel.there Sel.here)))))))))) | exact (Sel.there (Sel.there (Sel.there (Sel.there (Sel.there (Sel.there (Sel.there (Sel.there (Sel.there (Sel.there (Sel.there Sel.here))))))))))) | exact (Sel.there (Sel.there (Sel.there (Sel.there (Sel.there (Sel.there (Sel.there (Sel.there (Sel.there (Sel.there (Sel.there (Sel.there Sel.here)))))))))))) | exact (Sel.there (Sel.there (Sel.there (Sel.there (Sel.there (Sel.there (Sel.there (Sel.there (Sel.there (Sel.there (Sel.there (Sel.there (Sel.there Sel.here))))))))))))) | exact (Sel.there (Sel.there (Sel.there (Sel.there (Sel.there (Sel.there (Sel.there (Sel.there (Sel.there (Sel.there (Sel.there (Sel.there (Sel.there (Sel.there Sel.here)))))))))))))) | exact (Sel.there (Sel.there (Sel.there (Sel.there (Sel.there (Sel.there (Sel.there (Sel.there (Sel.there (Sel.there (Sel.there (Sel.there (Sel.there (Sel.there (Sel.there Sel.here))))))))))))))) | exact (Sel.there (Sel.there (Sel.there (Sel.there (Sel.there (Sel.there (Sel.there (Sel.there (Sel.there (Sel.there (Sel.there (Sel.there (Sel.there (Sel.there (Sel.there (Sel.there Sel.here)))))))))))))))) | exact (Sel.there (Sel.there (Sel.there (Sel.there (Sel.there (Sel.there (Sel.there (Sel.there (Sel.there (Sel.there (Sel.there (Sel.there (Sel.there (Sel.there (Sel.there (Sel.there (Sel.there Sel.here))))))))))))))))))
local macro_rules | `(tactic| wtm_at "z_arr") => `(tactic| repeat' (with_reducible first
  | exact Arr.nil | apply Arr.cons Sel.here | apply Arr.cons (Sel.there Sel.here) | apply Arr.cons (Sel.there (Sel.there Sel.here)) | apply Arr.cons (Sel.there (Sel.there (Sel.there Sel.here))) | apply Arr.cons (Sel.there (Sel.there (Sel.there (Sel.there Sel.here)))) | apply Arr.cons (Sel.there (Sel.there (Sel.there (Sel.there (Sel.there Sel.here))))) | apply Arr.cons (Sel.there (Sel.there (Sel.there (Sel.there (Sel.there (Sel.there Sel.here)))))) | apply Arr.cons (Sel.there (Sel.there (Sel.there (Sel.there (Sel.there (Sel.there (Sel.there Sel.here))))))) | apply Arr.cons (Sel.there (Sel.there (Sel.there (Sel.there (Sel.there (Sel.there (Sel.there (Sel.there Sel.here)))))))) | apply Arr.cons (Sel.there (Sel.there (Sel.there (Sel.there (Sel.there (Sel.there (Sel.there (Sel.there (Sel.there Sel.here))))))))) | apply Arr.cons (Sel.there (Sel.there (Sel.there (Sel.there (Sel.there (Sel.there (Sel.there (Sel.there (Sel.there (Sel.there Sel.here)))))))))) | apply Arr.cons (Sel.there (Sel.there (Sel.there (Sel.there (Sel.there (Sel.there (Sel.there (Sel.there (Sel.there (Sel.there (Sel.there Sel.here))))))))))) | apply Arr.cons (Sel.there (Sel.there (Sel.there (Sel.there (Sel.there (Sel.there (Sel.there (Sel.there (Sel.there (Sel.there (Sel.there (Sel.there Sel.here)))))))))))) | apply Arr.cons (Sel.there (Sel.there (Sel.there (Sel.there (Sel.there (Sel.there (Sel.there (Sel.there (Sel.there (Sel.there (Sel.there (Sel.there (Sel.there Sel.here))))))))))))) | apply Arr.cons (Sel.there (Sel.there (Sel.there (Sel.there (Sel.there (Sel.there (Sel.there (Sel.there (Sel.there (Sel.there (Sel.there (Sel.there (Sel.there (Sel.there Sel.here)))))))))))))) | apply Arr.cons (Sel.there (Sel.there (Sel.there (Sel.there (Sel.there (Sel.there (Sel.there (Sel.there (Sel.there (Sel.there (Sel.there (Sel.there (Sel.there (Sel.there (Sel.there Sel.here))))))))))))))) | apply Arr.cons (Sel.there (Sel.there (Sel.there (Sel.there (Sel.there (Sel.there (Sel.there (Sel.there (Sel.there (Sel.there (Sel.there (Sel.there (Sel.there (Sel.there (Sel.there (Sel.there Sel.here)))))))))))))))) | apply Arr.cons (Sel.there (Sel.there (Sel.there (Sel.there (Sel.there (Sel.there (Sel.there (Sel.there (Sel.there (Sel.there (Sel.there (Sel.there (Sel.there (Sel.there (Sel.there (Sel.there (Sel.there Sel.here)))))))))))))))))))
local macro_rules | `(tactic| wtm_at "z_sql") => `(tactic| first | (with_reducible assumption) | exact sqL_at (by assumption) (by wtm_at "z_sel") | exact sqL_fz (by assumption) (by wtm_at "z_sel"))
local macro_rules | `(tactic| wtm_at "z_sqt") => `(tactic| first | (with_reducible assumption) | exact sqT_at (by assumption) (by wtm_at "z_sel"))
local macro_rules | `(tactic| wtm_at "z_lk0") => `(tactic| (repeat (with_reducible first | exact lk_hd | exact lk_nil | refine Eq.trans (lk_tl (by decide +kernel)) ?_)))
local macro_rules | `(tactic| wtm_at "z_pf0") => `(tactic| (simp only [pf_hd, pf_nil, pf_tl (k := _) (a := _) (by decide +kernel)]))
local macro_rules | `(tactic| wtm_at "z_line") => `(tactic| (first | decide | (simp only [List.length_cons, List.length_nil, List.length_append, List.length_map, List.length_reverse, List.length_replicate, PySem.sizeLine_eq] at *; omega)))
local macro_rules | `(tactic| wtm_at "z_s") => `(tactic| simp only [q_asg, q_dpop1, q_dpop2, q_dpopT, q_dsetT, q_augS, q_drop, q_ret, q_retN, q_ifS, q_next, q_break, q_cont, q_raise, q_wd, q_we, q_par, q_par2, q_gname, q_gnil, q_gcons, q_gsub, q_var0, q_varS, q_c, q_op, q_un, q_nil, q_cons, q_cb, q_chain, q_k, q_m, q_n, q_f, q_s, q_sa, q_tup, q_lst, q_sl, q_nopart, q_part, q_exint, q_exbl, q_tif, q_test, q_B, q_and, q_or, q_not, q_andV, q_orV, q_notV, q_yes, q_iftt, q_ifff, q_plus, q_minus, q_radd, q_rsub, q_ipI, q_lt, q_le, q_gt, q_ge, q_eqII, q_neII, q_eqSS, q_neSS, q_eqNI, q_isnN, q_isnI, q_isnR, q_notnN, q_notnI, q_notnR, q_neg, q_abs, q_min2, q_max2, q_int1b, q_bm, q_bm0, q_dput, q_dget, q_dget2, q_din, q_dnotin, q_set0, q_setS, List.length_map, q_rng1, q_list, q_tupI, q_enum, q_lc, q_for, wipe, Bool.not_true, Bool.not_false, if_true, if_false, Bool.false_eq_true, decide_true, decide_false, Option.getD_some, Option.getD_none])
local macro_rules | `(tactic| wtm_at "z_start") => `(tactic| (refine s_start (by (simp only [L2.start, List.map_cons, List.map_nil, List.length_cons, List.length_nil, Nat.reduceAdd, Nat.reduceSub, List.replicate, List.cons_append, List.nil_append]; try exact rfl)) ?_))
set_option hygiene false
local macro_rules | `(tactic| wtm_at "z_hp") => `(tactic| first
  | ((with_reducible show kF _ _ _ _ _); (with_reducible refine' s_kF (by assumption) (by wtm_at "z_sel") (by wtm_at "z_lk") ?_))
  | ((with_reducible show kS _ _ _ _ _ _); (with_reducible refine' s_kS (by assumption) (by wtm_at "z_sel") (by wtm_at "z_pf") ?z ?_); (case z => exact of_decide_eq_true rfl); intro _ h)
  | ((with_reducible show gTup _ _ _ _ _ _ _); (with_reducible refine' s_gtup (by wtm_at "z_sqt") ?z ?_); (case z => rfl))
  | ((with_reducible show newL _ _ _); (with_reducible refine' s_newL (by assumption) ?z ?_); (case z => wtm_at "z_line"); intro _ _ h)
  | ((with_reducible show newT _ _ _); (with_reducible refine' s_newTp (by assumption) ?z ?_); (case z => wtm_at "z_line"); intro _ _ h)
  | ((with_reducible show newI _ _ _); (with_reducible refine' s_newIn (by assumption) ?_); intro _ _ h)
  | ((with_reducible show tDNewK _ _ _); (with_reducible refine' s_dnewK (by assumption) ?_); intro _ _ h)
  | ((with_reducible show tDNewT _ _ _); (with_reducible refine' s_dnewT' (by assumption) ?_); intro _ _ h)
  | ((with_reducible show rLen _ _ _ _); (with_reducible refine' s_len (by wtm_at "z_sql") ?_))
  | ((with_reducible show rIxL _ _ (V.int 0) _ _); (with_reducible refine' s_ixL0 (by wtm_at "z_sql") ?_))
  | ((with_reducible show rIxL _ _ (V.int 1) _ _); (with_reducible refine' s_ixL1 (by wtm_at "z_sql") ?_))
  | ((with_reducible show rIxL _ _ (V.int 2) _ _); (with_reducible refine' s_ixL2 (by wtm_at "z_sql") ?_))
  | ((with_reducible show rIxT _ _ _ _ _); (with_reducible refine' s_ixT (by wtm_at "z_sqt") ?e ?_); (case e => rfl))
  | ((with_reducible show tyV _ _ _ _ ∧ _); (with_reducible refine' s_tyL (by wtm_at "z_sql") ?_))
  | ((with_reducible show rAppend _ _ _ _); (with_reducible refine' s_append (by assumption) (by wtm_at "z_sel") ?z ?_); (case z => wtm_at "z_line"); intro _ h)
  | ((with_reducible show rListOf _ _ _ _); (with_reducible refine' s_listOf (by assumption) (Or.inl (by wtm_at "z_sql")) ?_); intro _ _ h)
  | ((with_reducible show rSlL _ _ _ _ _ _); (with_reducible refine' s_slL (by assumption) (by wtm_at "z_sql") ?_); intro _ _ h)
  | ((with_reducible show rCat _ _ _ _); (with_reducible refine' s_cat (by assumption) (by wtm_at "z_sel") (by wtm_at "z_sel") ?z ?_); (case z => wtm_at "z_line"); intro _ _ h)
  | ((with_reducible show rRep _ _ _ _); (with_reducible refine' s_rep1 (by assumption) (by wtm_at "z_sel") (by first | decide | omega) (by first | decide | omega) ?z ?_); (case z => first | decide +kernel | wtm_at "z_line"); intro _ _ h)
  | ((with_reducible show rRep _ _ _ _); (with_reducible refine' s_rep (by assumption) (by wtm_at "z_sel") (by decide) (by decide) ?z ?_); (case z => first | decide | wtm_at "z_line"); intro _ _ h)
  | ((with_reducible show rLenD _ _ _); (with_reducible refine' s_lenD (by assumption) (by wtm_at "z_sel") ?_))
  | ((with_reducible show rFdiv _ _ _ _); (with_reducible refine s_fdiv ?c ?_); (case c => exact divW (by first | decide | omega) (by first | decide | omega)))
  | ((with_reducible show rMod _ _ _ _); (with_reducible refine s_mod ?c ?_); (case c => first | decide | omega))
  | ((with_reducible show rMul _ _ _ _); (with_reducible refine s_mul ?c ?_); (case c => first | exact Or.inl ⟨by omega, by omega⟩ | exact Or.inr ⟨by omega, by omega⟩))
  | ((with_reducible show rSetL _ (V.int 0) _ _ _); (with_reducible refine' s_setL0 (by assumption) (by wtm_at "z_sel") ?_); intro _ h)
  | ((with_reducible show rSetL _ (V.int 1) _ _ _); (with_reducible refine' s_setL1 (by assumption) (by wtm_at "z_sel") ?_); intro _ h)
  | ((with_reducible show rSetL _ (V.int 2) _ _ _); (with_reducible refine' s_setL2 (by assumption) (by wtm_at "z_sel") ?_); intro _ h))
set_option hygiene true
local macro_rules | `(tactic| wtm_at "z_if") => `(tactic| first
  | (with_reducible refine s_ifyes (by omega) ?_) | (with_reducible refine s_ifno (by omega) ?_)
  | (with_reducible refine s_ifnF (by omega) ?_) | (with_reducible refine s_ifnT (by omega) ?_)
  | (with_reducible refine s_ifnd ?_ ?_ <;> intro _)
  | (with_reducible refine s_ifd ?_ ?_ <;> intro _))
local macro_rules | `(tactic| wtm_at "z_in") => `(tactic| repeat (first | wtm_at "z_s" | wtm_at "z_hp"))
local macro_rules | `(tactic| wtm_at "z_st") => `(tactic| ((with_reducible refine s_seq ?_); wtm_at "z_in"))
local macro_rules | `(tactic| wtm_at "z_go") => `(tactic| repeat (first | (with_reducible refine s_seq ?_) | wtm_at "z_s" | wtm_at "z_hp"))
local macro_rules | `(tactic| wtm_at "z_lk") => `(tactic| with_reducible first
  | exact lk_Store_owners
  | exact lk_Store_contents
  | exact lk_Paging_stores
  | exact lk_Paging_frames
  | exact lk_Paging_slots
  | exact lk_Paging_tables
  | exact lk_Paging_owners
  | exact lk_Paging_hand
  | exact lk_Table_firsts
  | exact lk_Rooms_paging)
local macro_rules | `(tactic| wtm_at "z_pf") => `(tactic| with_reducible first
  | exact pf_Store_owners
  | exact pb_Store_owners
  | exact pf_Store_contents
  | exact pb_Store_contents
  | exact pf_Paging_stores
  | exact pb_Paging_stores
  | exact pf_Paging_frames
  | exact pb_Paging_frames
  | exact pf_Paging_slots
  | exact pb_Paging_slots
  | exact pf_Paging_tables
  | exact pb_Paging_tables
  | exact pf_Paging_owners
  | exact pb_Paging_owners
  | exact pf_Paging_hand
  | exact pb_Paging_hand
  | exact pf_Table_firsts
  | exact pb_Table_firsts
  | exact pf_Rooms_paging
  | exact pb_Rooms_paging)
local macro_rules | `(tactic| wtm_at "z_no") => `(tactic| with_reducible first
  | exact no_Store_take
  | exact no_Store_look_taken
  | exact no_Store_more
  | exact no_Store_less
  | exact no_Store_count
  | exact no_Store_cells
  | exact no_Store_put
  | exact no_Store_free
  | exact no_Paging_entry
  | exact no_Paging_lay
  | exact no_Paging_share
  | exact no_Paging_leave
  | exact no_Paging_lifted
  | exact no_Paging_settle
  | exact no_Paging_put_out
  | exact no_Paging_frame_taken
  | exact no_Paging_fetch
  | exact no_Paging_part
  | exact no_Paging_cells
  | exact no_Paging_put
  | exact no_Table_get
  | exact no_Table_lay
  | exact no_Table_clear
  | exact no_Table_pages
  | exact no_Rooms_begin
  | exact no_Rooms_table_of
  | exact no_Rooms_close
  | exact no_Rooms_held
  | exact no_Rooms_ask_room
  | exact no_Rooms_map
  | exact no_Rooms_look_mapped
  | exact no_Rooms_drop
  | exact no_Rooms_stretches
  | exact no_Rooms_peek
  | exact no_Rooms_poke
  | exact no_Rooms_copy
  | exact no_Rooms_place)
abbrev Goal (t : TS) (n : List Str) (vs : List V) (H : Hp) (Q : VK) : Prop := t ⟨fun _ H' => Q .non H', Q, fun _ _ => False, fun _ _ => False⟩ (start n vs) H
section
variable {K : PySem.W.Frag} {F0 : FP} {H0 H : Hp} {L L1 : List HP} {s q b1 b2 : Addr} {X : St} {as : List Addr} {n : Nat} {c : Int} {r : List Int} {vs : List V} {Q : VK} {E : XK} {A : Prop}
theorem At.storeE (h : At F0 H0 L H) (s1 : Sel (store K s X) L L1) : ∃ b1 b2 as, At F0 H0 (obj (c_Store K) s [("owners", .ref b1), ("contents", .ref b2)] :: pt b1 (il X.own) :: pt b2 (.lst (as.map V.ref)) :: rows as X.cont :: L1) H := by
  obtain ⟨b1, h⟩ := (h.sel s1).exE
  obtain ⟨b2, h⟩ := h.exE
  obtain ⟨as, h⟩ := h.exE
  exact ⟨b1, b2, as, h.allE⟩
theorem At.storeI (h : At F0 H0 L H) (s1 : Arr [obj (c_Store K) s [("owners", .ref b1), ("contents", .ref b2)], pt b1 (il X.own), pt b2 (.lst (as.map V.ref)), rows as X.cont] L L1) : At F0 H0 (store K s X :: L1) H :=
  (((At.allI (h.arr s1)).exI as).exI b2).exI b1
theorem s_mstore {m : Str} (h : At F0 H0 L H) (s1 : Sel (store K s X) L L1) (l : ∀ b1 b2, List.lookup m [(("owners" : Str), V.ref b1), ("contents", V.ref b2)] = none) (q : A) : kIns (c_Store K) m (.ref s) H ∧ A := by
  obtain ⟨b1, b2, as, h⟩ := h.storeE s1
  obtain ⟨dx, e⟩ := h.ob .here
  exact ⟨⟨s, dx, _, rfl, e, l b1 b2⟩, q⟩
theorem getE_lt {xs : List Int} (h : xs[n]? = some c) : n < xs.length := (List.getElem?_eq_some_iff.mp h).1
theorem pure_Store___init__ (h : sp_Store___init__ K vs H Q E) : Goal (t_Store___init__ K (WD E)) n_Store___init__ vs H Q := by
  obtain ⟨x, m, rfl, m1, t⟩ := h
  obtain ⟨F, h, hq, -⟩ := t.open
  unfold Goal t_Store___init__; wtm_at "z_start"
  wtm_at "z_st"
  rw [show List.replicate (Int.toNat (m : Int)) (V.int 0) = (List.replicate m (0 : Int)).map V.int by simp] at h
  rename_i b1 _ _ _
  refine s_rng1 (by omega) (by omega) ?_
  refine s_lcR (fun j => rowI (List.replicate j (List.replicate 8 0)) [obj (c_Store K) x [("owners", .ref b1)], pt b1 (.lst ((List.replicate m (0 : Int)).map V.int))]) (by rw [List.replicate_zero]; exact h.rowsNil.only (by wtm_at "z_arr")) ⟨[], rfl, rfl⟩ (fun j acc L D H j1 ⟨as, e1, e2⟩ h => ?_) (fun acc L D H ⟨as, e1, e2⟩ h => ?_)
  · subst e1 e2
    wtm_at "z_in"
    rw [show List.replicate (Int.toNat 8) (V.int 0) = (List.replicate 8 (0 : Int)).map V.int from rfl] at h
    exact s_accRow (rs := List.replicate j (List.replicate 8 0)) (r := List.replicate 8 0) (as := as) h (by wtm_at "z_arr") (by simp [sizeLine_eq]; omega) (by rw [List.replicate_succ'])
  · subst e1 e2
    rw [Int.toNat_natCast] at h
    wtm_at "z_in"
    exact hq _ _ _ ⟨rfl, rfl⟩ (At.storeI (X := ⟨List.replicate m 0, List.replicate m (List.replicate 8 0)⟩) (b1 := b1) (b2 := D) (as := as) h (by wtm_at "z_arr"))
theorem pure_Store_count (h : sp_Store_count K vs H Q E) : Goal (t_Store_count K (WD E)) n_Store_count vs H Q := by
  obtain ⟨s, X, n, c, rfl, h1, t⟩ := h
  obtain ⟨F, h, hq, -⟩ := t.open
  obtain ⟨b1, b2, as, h⟩ := h.storeE .here
  have nl := getE_lt h1
  unfold Goal t_Store_count; wtm_at "z_start"
  wtm_at "z_st"
  wtm_at "z_if"
  wtm_at "z_in"
  wtm_at "z_if"
  wtm_at "z_in"
  refine s_ixLn (v := .int c) (by wtm_at "z_sql") (by omega) (by simp [h1]) ?_
  exact hq _ _ _ ⟨rfl, rfl⟩ (h.storeI (by wtm_at "z_arr"))
theorem c_count (h : At F0 H0 L H) (s1 : Sel (store K s X) L L1) (e : X.own[n]? = some c) (q : ∀ H', At F0 H0 (store K s X :: L1) H' → Q (.int c) H') : sp_Store_count K [.ref s, .int n] H Q E :=
  ⟨s, X, n, c, rfl, e, h.call (.cons s1 .nil) (fun v L' H' ⟨e1, e2⟩ h => by subst e1 e2; exact q H' h) fun _ _ _ _ z => z.elim⟩
theorem pure_Store_look_taken (h : sp_Store_look_taken K vs H Q E) : Goal (t_Store_look_taken K (WD E)) n_Store_look_taken vs H Q := by
  obtain ⟨s, X, n, c, rfl, h1, c0, t⟩ := h
  obtain ⟨F, h, hq, -⟩ := t.open
  unfold Goal t_Store_look_taken; wtm_at "z_start"
  wtm_at "z_in"
  refine s_mstore h (by wtm_at "z_sel") (fun _ _ => by wtm_at "z_no") ?_
  wtm_at "z_in"
  refine c_count h (by wtm_at "z_sel") h1 fun H h => ?_
  wtm_at "z_in"
  wtm_at "z_if"
  wtm_at "z_in"
  exact hq _ _ _ ⟨rfl, rfl⟩ h
theorem c_look (h : At F0 H0 L H) (s1 : Sel (store K s X) L L1) (e : X.own[n]? = some c) (c0 : c ≠ 0) (q : ∀ H', At F0 H0 (store K s X :: L1) H' → Q .non H') : sp_Store_look_taken K [.ref s, .int n] H Q E :=
  ⟨s, X, n, c, rfl, e, c0, h.call (.cons s1 .nil) (fun v L' H' ⟨e1, e2⟩ h => by subst e1 e2; exact q H' h) fun _ _ _ _ z => z.elim⟩
theorem pure_Store_more (h : sp_Store_more K vs H Q E) : Goal (t_Store_more K (WD E)) n_Store_more vs H Q := by
  obtain ⟨s, X, n, c, rfl, h1, c0, t⟩ := h
  obtain ⟨F, h, hq, -⟩ := t.open
  have nl := getE_lt h1
  unfold Goal t_Store_more; wtm_at "z_start"
  wtm_at "z_st"
  refine s_mstore h (by wtm_at "z_sel") (fun _ _ => by wtm_at "z_no") ?_
  wtm_at "z_in"
  refine c_look h (by wtm_at "z_sel") h1 c0 fun H h => ?_
  obtain ⟨b1, b2, as, h⟩ := h.storeE .here
  wtm_at "z_in"
  refine s_ixLn (v := .int c) (by wtm_at "z_sql") (by omega) (by simp [h1]) ?_
  wtm_at "z_in"
  refine s_setLn h (by wtm_at "z_sel") (by omega) (by simp; omega) fun H h => ?_
  have e : (X.own.map V.int).set (n : Int).toNat (.int (c + 1)) = (addN X n 1).own.map V.int := by simp [addN, List.map_set, List.getD, h1]
  rw [e] at h
  exact hq _ _ _ ⟨rfl, rfl⟩ (At.storeI (X := addN X n 1) h (by wtm_at "z_arr"))
theorem pure_Store_less (h : sp_Store_less K vs H Q E) : Goal (t_Store_less K (WD E)) n_Store_less vs H Q := by
  obtain ⟨s, X, n, c, rfl, h1, c0, t⟩ := h
  obtain ⟨F, h, hq, -⟩ := t.open
  have nl := getE_lt h1
  unfold Goal t_Store_less; wtm_at "z_start"
  wtm_at "z_st"
  refine s_mstore h (by wtm_at "z_sel") (fun _ _ => by wtm_at "z_no") ?_
  wtm_at "z_in"
  refine c_look h (by wtm_at "z_sel") h1 c0 fun H h => ?_
  obtain ⟨b1, b2, as, h⟩ := h.storeE .here
  wtm_at "z_in"
  refine s_ixLn (v := .int c) (by wtm_at "z_sql") (by omega) (by simp [h1]) ?_
  wtm_at "z_in"
  refine s_setLn h (by wtm_at "z_sel") (by omega) (by simp; omega) fun H h => ?_
  have e : (X.own.map V.int).set (n : Int).toNat (.int (c - 1)) = (addN X n (-1)).own.map V.int := by simp [addN, List.map_set, List.getD, h1]; rfl
  rw [e] at h
  exact hq _ _ _ ⟨rfl, rfl⟩ (At.storeI (X := addN X n (-1)) h (by wtm_at "z_arr"))
theorem pure_Store_cells (h : sp_Store_cells K vs H Q E) : Goal (t_Store_cells K (WD E)) n_Store_cells vs H Q := by
  obtain ⟨s, X, n, c, r, rfl, h1, c0, h2, t⟩ := h
  obtain ⟨F, h, hq, -⟩ := t.open
  unfold Goal t_Store_cells; wtm_at "z_start"
  wtm_at "z_st"
  refine s_mstore h (by wtm_at "z_sel") (fun _ _ => by wtm_at "z_no") ?_
  wtm_at "z_in"
  refine c_look h (by wtm_at "z_sel") h1 c0 fun H h => ?_
  obtain ⟨b1, b2, as, h⟩ := h.storeE .here
  wtm_at "z_in"
  obtain ⟨a, e1, e2⟩ := h.rowsAt (by wtm_at "z_sel") h2
  refine s_ixLn (v := .ref a) (by wtm_at "z_sql") (by omega) (by simp [e1]) ?_
  refine s_listOf h (Or.inl (.of e2)) fun p H' h => ?_
  have h := h.storeI (X := X) (by wtm_at "z_arr")
  exact hq _ _ _ ⟨p, rfl, rfl⟩ (h.only (by wtm_at "z_arr"))
theorem pure_Store_put (h : sp_Store_put K vs H Q E) : Goal (t_Store_put K (WD E)) n_Store_put vs H Q := by
  obtain ⟨s, q, X, n, c, r, rfl, h1, c0, h2, t⟩ := h
  obtain ⟨F, h, hq, -⟩ := t.open
  unfold Goal t_Store_put; wtm_at "z_start"
  wtm_at "z_st"
  refine s_mstore h (by wtm_at "z_sel") (fun _ _ => by wtm_at "z_no") ?_
  wtm_at "z_in"
  refine c_look h (by wtm_at "z_sel") h1 c0 fun H h => ?_
  obtain ⟨b1, b2, as, h⟩ := h.storeE .here
  have el := h.rowsLen (by wtm_at "z_sel")
  wtm_at "z_in"
  rename_i p2 _
  refine s_setLn (by assumption) (by wtm_at "z_sel") (by omega) (by simp; omega) fun H4 h => ?_
  rw [Int.toNat_natCast] at h
  have h := At.putA (n := n) (p := p2) (r := r) (rs := X.cont) (as := as) h (by wtm_at "z_arr") h2
  rw [← List.map_set] at h
  exact hq _ _ _ ⟨rfl, rfl⟩ ((At.storeI (X := putN X n r) h (by wtm_at "z_arr")).only (by wtm_at "z_arr"))
theorem pure_Store_free (h : sp_Store_free K vs H Q E) : Goal (t_Store_free K (WD E)) n_Store_free vs H Q := by
  obtain ⟨s, X, rfl, t⟩ := h
  obtain ⟨F, h, hq, -⟩ := t.open
  obtain ⟨b1, b2, as, h⟩ := h.storeE .here
  unfold Goal t_Store_free; wtm_at "z_start"
  wtm_at "z_in"
  refine s_countI (by wtm_at "z_sql") ?_
  exact hq _ _ _ ⟨rfl, rfl⟩ (h.storeI (by wtm_at "z_arr"))
theorem pure_Store_take (h : sp_Store_take K vs H Q E) : Goal (t_Store_take K (WD E)) n_Store_take vs H Q := by
  obtain ⟨s, X, rfl, lx, t⟩ := h
  obtain ⟨F, h, hq, -⟩ := t.open
  obtain ⟨b1, b2, as, h⟩ := h.storeE .here
  have el := h.rowsLen (by wtm_at "z_sel")
  unfold Goal t_Store_take; wtm_at "z_start"
  wtm_at "z_st"
  refine s_notInIL (by wtm_at "z_sql") ?_
  wtm_at "z_in"
  refine s_ifnd (fun z => ?_) (fun z => ?_)
  · wtm_at "z_in"
    exact hq _ _ _ (.inl ⟨rfl, fun c hc e => z (e ▸ hc), rfl⟩) (h.storeI (by wtm_at "z_arr"))
  · wtm_at "z_in"
    wtm_at "z_st"
    refine s_indexI (by wtm_at "z_sql") z fun j hj => ?_
    have jl := getE_lt hj
    wtm_at "z_in"
    wtm_at "z_st"
    refine s_setLn (by assumption) (by wtm_at "z_sel") (by omega) (by simp; omega) fun H4 h => ?_
    wtm_at "z_in"
    wtm_at "z_st"
    refine s_setLn (by assumption) (by wtm_at "z_sel") (by omega) (by simp; omega) fun H4 h => ?_
    wtm_at "z_in"
    rw [Int.toNat_natCast] at h
    rename_i p _ _
    rw [show List.replicate (Int.toNat 8) (V.int 0) = (List.replicate 8 (0 : Int)).map V.int from rfl] at h
    have h := At.putA (n := j) (p := p) (r := List.replicate 8 0) (rs := X.cont) (as := as) h (by wtm_at "z_arr") (by omega)
    rw [← List.map_set, ← List.map_set] at h
    exact hq _ _ _ (.inr ⟨j, rfl, hj, rfl⟩) ((At.storeI (X := takeN X j) h (by wtm_at "z_arr")).only (by wtm_at "z_arr"))
end
set_option Elab.async false
set_option linter.all false
set_option maxRecDepth 100000
set_option maxHeartbeats 1000000
section
variable {κ β : Type} [DecidableEq κ] {m : List (κ × β)} {k k' : κ} {x y : β} {i : Nat}
theorem ag_none (h : ¬ k ∈ m.map (·.1)) : ag m k = none := by
  rw [ag, List.find?_eq_none.mpr]
  · rfl
  · intro q hq e
    exact h (List.mem_map.mpr ⟨q, hq, by simpa using e⟩)
theorem ag_at : ∀ {m : List (κ × β)} {i : Nat}, (m.map (·.1)).Nodup → m[i]? = some (k, x) → ag m k = some x
  | p :: m, 0, _, h => by
    obtain rfl : p = (k, x) := by simpa using h
    simp [ag]
  | p :: m, i + 1, nd, h => by
    have nd := List.nodup_cons.mp nd
    rw [List.getElem?_cons_succ] at h
    have ne : ¬ p.1 = k := fun e => nd.1 (List.mem_map.mpr ⟨_, List.mem_of_getElem? h, e.symm⟩)
    have ih := ag_at nd.2 h
    simpa [ag, List.find?_cons, ne] using ih
  | [], _, _, h => by simp at h
theorem ag_mem (h : ag m k = some x) : (k, x) ∈ m := by
  rw [ag] at h
  cases e : m.find? (fun q => decide (q.1 = k)) with
  | none => rw [e] at h; cases h
  | some q =>
    rw [e] at h
    have h1 := List.mem_of_find?_eq_some e
    have h2 := List.find?_some e
    simp at h h2
    subst h h2
    exact h1
theorem ag_idx (h : ag m k = some x) : ∃ i : Nat, m[i]? = some (k, x) := by
  obtain ⟨i, hi, e⟩ := List.mem_iff_getElem.mp (ag_mem h)
  exact ⟨i, by simp [hi, e]⟩
theorem ag_key (h : k ∈ m.map (·.1)) : ∃ x, ag m k = some x := by
  cases e : ag m k with
  | some x => exact ⟨x, rfl⟩
  | none =>
    rw [ag, Option.map_eq_none_iff, List.find?_eq_none] at e
    obtain ⟨q, hq, e2⟩ := List.mem_map.mp h
    exact (e q hq (by simpa using e2)).elim
theorem ag_iff : ag m k = none ↔ ¬ k ∈ m.map (·.1) := by
  constructor
  · intro e h
    obtain ⟨x, e2⟩ := ag_key h
    rw [e] at e2; cases e2
  · exact ag_none
theorem set_keys {m : List (κ × β)} {i : Nat} (h : m[i]? = some (k, x)) : (m.set i (k, y)).map (·.1) = m.map (·.1) := by
  obtain ⟨il, ie⟩ := List.getElem?_eq_some_iff.mp h
  rw [List.map_set]
  apply List.ext_getElem (by simp)
  intro j j1 j2
  rw [List.getElem_set]
  split
  · next e => subst e; simp [ie]
  · rfl
theorem ag_set (nd : (m.map (·.1)).Nodup) (h : m[i]? = some (k, x)) : ag (m.set i (k, y)) k' = if k' = k then some y else ag m k' := by
  obtain ⟨il, ie⟩ := List.getElem?_eq_some_iff.mp h
  by_cases e : k' = k
  · subst e
    rw [if_pos rfl]
    exact ag_at (i := i) (by rw [set_keys h]; exact nd) (by simp [il])
  · rw [if_neg e]
    cases e2 : ag m k' with
    | none =>
      rw [ag_iff, set_keys h]
      exact ag_iff.mp e2
    | some z =>
      obtain ⟨j, ej⟩ := ag_idx e2
      have ij : i ≠ j := by
        rintro rfl
        rw [h] at ej; cases ej; exact e rfl
      exact ag_at (i := j) (by rw [set_keys h]; exact nd) (by rw [List.getElem?_set]; simp [ij, ej])
theorem ag_app (h : ¬ k ∈ m.map (·.1)) : ag (m ++ [(k, y)]) k' = if k' = k then some y else ag m k' := by
  by_cases e : k' = k
  · subst e
    rw [if_pos rfl, ag, List.find?_append, List.find?_eq_none.mpr]
    · simp
    · intro q hq e
      exact h (List.mem_map.mpr ⟨q, hq, by simpa using e⟩)
  · rw [if_neg e, ag, ag, List.find?_append]
    cases m.find? (fun q => decide (q.1 = k')) with
    | some _ => rfl
    | none => simp [Ne.symm e]
theorem ag_erase (nd : (m.map (·.1)).Nodup) (h : m[i]? = some (k, x)) : ag (m.eraseIdx i) k' = if k' = k then none else ag m k' := by
  have nd2 : ((m.eraseIdx i).map (·.1)).Nodup := nd.sublist (List.Sublist.map _ (List.eraseIdx_sublist ..))
  obtain ⟨il, ie⟩ := List.getElem?_eq_some_iff.mp h
  have mem : ∀ q, q ∈ m.eraseIdx i ↔ q ∈ m ∧ q.1 ≠ k := by
    intro q
    rw [List.mem_eraseIdx_iff_getElem]
    constructor
    · rintro ⟨j, jl, ne, rfl⟩
      refine ⟨List.getElem_mem _, fun e => ne ?_⟩
      exact (List.getElem_inj (h₀ := by simpa using jl) (h₁ := by simpa using il) nd).mp (by simp [e, ie])
    · rintro ⟨hq, ne⟩
      obtain ⟨j, jl, rfl⟩ := List.mem_iff_getElem.mp hq
      exact ⟨j, jl, fun e => ne (by subst e; rw [ie]), rfl⟩
  by_cases e : k' = k
  · subst e
    rw [if_pos rfl, ag_iff]
    intro hk
    obtain ⟨q, hq, e2⟩ := List.mem_map.mp hk
    exact ((mem q).mp hq).2 e2
  · rw [if_neg e]
    cases e2 : ag m k' with
    | none =>
      rw [ag_iff] at e2 ⊢
      intro hk
      obtain ⟨q, hq, e3⟩ := List.mem_map.mp hk
      exact e2 (List.mem_map.mpr ⟨q, ((mem q).mp hq).1, e3⟩)
    | some z =>
      obtain ⟨j, jl, ej⟩ := List.mem_iff_getElem.mp ((mem (k', z)).mpr ⟨ag_mem e2, e⟩)
      exact ag_at (i := j) nd2 (by simp [jl, ej])
end
set_option Elab.async false
set_option linter.all false
set_option maxRecDepth 100000
set_option maxHeartbeats 1000000
theorem ki_inj (a b : Int) (h : ki a = ki b) : a = b := by cases h; rfl
section
variable {K : PySem.W.Frag} {F0 : FP} {H0 H : Hp} {L L1 : List HP} {t d a : Addr} {f : Tb} {m : List (Int × List (Int × En))} {as : List Addr} {s : List (Int × En)} {v w : V} {vs' : List V} {e : En} {vs : List V} {Q : VK} {E : XK} {A : Prop} {i : Nat} {p : Int} {M2 : List HP}
theorem At.tableE (h : At F0 H0 L H) (s1 : Sel (table K t f) L L1) : ∃ d as m, TbOk m f ∧ as.length = m.length ∧ At F0 H0 (obj (c_Table K) t [("firsts", .ref d)] :: pt d (.dK (zv ki m (as.map V.ref))) :: rowsG (secP K) as (m.map (·.2)) :: L1) H := by
  obtain ⟨d, h⟩ := (h.sel s1).exE
  obtain ⟨as, h⟩ := h.exE
  obtain ⟨m, h⟩ := h.exE
  obtain ⟨o, h⟩ := h.purE
  have h := h.allE
  exact ⟨d, as, m, o, by simpa using h.gLen (.there (.there .here)), h⟩
theorem At.tableI (h : At F0 H0 L H) (o : TbOk m f) (s1 : Arr [obj (c_Table K) t [("firsts", .ref d)], pt d (.dK (zv ki m (as.map V.ref))), rowsG (secP K) as (m.map (·.2))] L L1) : At F0 H0 (table K t f :: L1) H :=
  ((((At.allI (h.arr s1)).purI o).exI m).exI as).exI d
theorem s_mtable {n : Str} (h : At F0 H0 L H) (s1 : Sel (table K t f) L L1) (l : ∀ b1, List.lookup n [(("firsts" : Str), V.ref b1)] = none) (q : A) : kIns (c_Table K) n (.ref t) H ∧ A := by
  obtain ⟨b1, as, m, o, -, h⟩ := h.tableE s1
  obtain ⟨dx, e⟩ := h.ob .here
  exact ⟨⟨t, dx, _, rfl, e, l b1⟩, q⟩
theorem At.secE (h : At F0 H0 L H) (s1 : Sel (secP K a s) L L1) : ∃ vs, vs.length = s.length ∧ At F0 H0 (pt a (.dK (zv ki s vs)) :: enAll K vs (s.map (·.2)) :: L1) H := by
  obtain ⟨vs, h⟩ := (h.sel s1).exE
  obtain ⟨l, h⟩ := h.purE
  exact ⟨vs, l, h.allE⟩
theorem At.secI (h : At F0 H0 L H) (l : vs'.length = s.length) (s1 : Arr [pt a (.dK (zv ki s vs')), enAll K vs' (s.map (·.2))] L L1) : At F0 H0 (secP K a s :: L1) H := ((At.allI (h.arr s1)).purI l).exI vs'
theorem At.enGet (h : At F0 H0 L H) (s1 : Sel (enAll K vs' (s.map (·.2))) L L1) (h1 : vs'[i]? = some v) (h2 : s[i]? = some (p, e)) : EnV K H v e := h.know s1 fun _ k => k i v e h1 (by simp [h2])
theorem At.enPut (h : At F0 H0 L H) (s1 : Sel (enAll K vs' (s.map (·.2))) L L1) (s2 : Sel (enP K w e) L1 M2) : At F0 H0 (enAll K (vs'.set i w) ((s.set i (p, e)).map (·.2)) :: enP K w e :: M2) H := by
  have h1 := h.know s1 fun _ k => k
  have h2 : EnV K H w e := (h.sel s1).know (.there s2) fun _ k => k
  refine ((h.sel s1).drop.sel s2).addP ?_
  intro j v e' q1 q2
  rw [List.map_set, List.getElem?_set] at q2
  rw [List.getElem?_set] at q1
  by_cases ij : i = j
  · subst ij
    simp at q1 q2
    rw [← q1.2, ← q2.2]
    exact h2
  · rw [if_neg ij] at q1 q2
    exact h1 j v e' q1 q2
theorem At.enSnoc (l : vs'.length = s.length) (h : At F0 H0 L H) (s1 : Sel (enAll K vs' (s.map (·.2))) L L1) (s2 : Sel (enP K w e) L1 M2) : At F0 H0 (enAll K (vs' ++ [w]) ((s ++ [(p, e)]).map (·.2)) :: enP K w e :: M2) H := by
  have h1 := h.know s1 fun _ k => k
  have h2 : EnV K H w e := (h.sel s1).know (.there s2) fun _ k => k
  refine ((h.sel s1).drop.sel s2).addP ?_
  intro j v e' q1 q2
  by_cases jl : j < vs'.length
  · rw [List.getElem?_append_left jl] at q1
    rw [List.map_append, List.getElem?_append_left (by simp; omega)] at q2
    exact h1 j v e' q1 q2
  · rw [List.getElem?_append_right (by omega)] at q1
    rw [List.map_append, List.getElem?_append_right (by simp; omega)] at q2
    have : j - vs'.length = 0 := by
      have := (List.getElem?_eq_some_iff.mp q1).1
      simp at this; omega
    rw [this] at q1
    rw [show j - (s.map (·.2)).length = 0 by simp; omega] at q2
    simp at q1 q2
    rw [← q1, ← q2]
    exact h2
theorem pure_Table___init__ (h : sp_Table___init__ K vs H Q E) : Goal (t_Table___init__ K (WD E)) n_Table___init__ vs H Q := by
  obtain ⟨x, rfl, t⟩ := h
  obtain ⟨F, h, hq, -⟩ := t.open
  unfold Goal t_Table___init__; wtm_at "z_start"
  wtm_at "z_in"
  have h := h.gNil (P := secP K)
  exact hq _ _ _ ⟨rfl, rfl⟩ (At.tableI (m := []) (as := []) h ⟨.nil, by simp, by simp, by simp, fun p => rfl⟩ (.cons (.there .here) (.cons (.there .here) (.cons .here .nil))))
theorem pure_Table_get (h : sp_Table_get K vs H Q E) : Goal (t_Table_get K (WD E)) n_Table_get vs H Q := by
  obtain ⟨t, f, p, rfl, tr⟩ := h
  obtain ⟨F, h, hq, -⟩ := tr.open
  obtain ⟨d, as, m, o, al, h⟩ := h.tableE .here
  unfold Goal t_Table_get; wtm_at "z_start"
  wtm_at "z_st"
  refine s_isDv h (by wtm_at "z_sel") ?_
  wtm_at "z_in"
  refine s_getOI h (by wtm_at "z_sel") ?_
  have fe := o.eq p
  by_cases hk : (p / 8) ∈ m.map (·.1)
  · obtain ⟨i, v, s, e1, e2, e3⟩ := zv_get (enc := ki) (vs := as.map V.ref) ki_inj (by simpa using al) hk
    obtain ⟨a, ea, rfl⟩ : ∃ a, as[i]? = some a ∧ V.ref a = v := by rw [List.getElem?_map] at e1; simpa using e1
    rw [show valV (zv ki m (as.map V.ref)) (Sum.inl (p / 8) : Key) = some (.ref a) from e3]
    have e4 := ag_at o.nd e2
    rw [e4] at fe
    have em : (m.map (·.2))[i]? = some s := by simp [e2]
    have h := h.gPop (by wtm_at "z_sel") ea em
    obtain ⟨ws, wl, h⟩ := h.secE .here
    wtm_at "z_in"
    wtm_at "z_st"
    refine s_isDv h (by wtm_at "z_sel") ?_
    wtm_at "z_in"
    refine s_getOI h (by wtm_at "z_sel") ?_
    have hb := (o.nd2 _ (List.mem_of_getElem? e2))
    by_cases hk2 : (p % 8) ∈ s.map (·.1)
    · obtain ⟨j, v, e, g1, g2, g3⟩ := zv_get (enc := ki) (vs := ws) ki_inj wl hk2
      rw [show valV (zv ki s ws) (Sum.inl (p % 8) : Key) = some v from g3]
      have g4 : f p = some e := by rw [fe]; exact ag_at hb g2
      have ev := h.enGet (by wtm_at "z_sel") g1 g2
      have h := h.secI wl (by wtm_at "z_arr")
      have h := h.gBack (as := as) (xs := m.map (·.2)) (n := i) (a := a) (x := s) (by wtm_at "z_arr") ea em (by simpa using al)
      have h := h.tableI o (by wtm_at "z_arr")
      exact hq _ _ _ (.inr ⟨e, g4, rfl⟩) (h.addP ev)
    · rw [show valV (zv ki s ws) (Sum.inl (p % 8) : Key) = none from zv_none ki_inj wl hk2]
      have g4 : f p = none := by rw [fe]; exact ag_none hk2
      have h := h.secI wl (by wtm_at "z_arr")
      have h := h.gBack (as := as) (xs := m.map (·.2)) (n := i) (a := a) (x := s) (by wtm_at "z_arr") ea em (by simpa using al)
      have h := h.tableI o (by wtm_at "z_arr")
      exact hq _ _ _ (.inl ⟨rfl, g4, rfl⟩) h
  · rw [show valV (zv ki m (as.map V.ref)) (Sum.inl (p / 8) : Key) = none from zv_none ki_inj (by simpa using al) hk]
    have g4 : f p = none := by rw [fe, ag_none hk]; rfl
    wtm_at "z_in"
    wtm_at "z_st"
    exact hq _ _ _ (.inl ⟨rfl, g4, rfl⟩) (h.tableI o (by wtm_at "z_arr"))
end
set_option Elab.async false
set_option linter.all false
set_option maxRecDepth 100000
set_option maxHeartbeats 1000000
theorem zv_setval {κ Λ β : Type} {enc : κ → Λ} {k : κ} {x y : β} : ∀ {m : List (κ × β)} {vs : List V} {i : Nat}, m[i]? = some (k, x) → zv enc (m.set i (k, y)) vs = zv enc m vs
  | p :: m, v :: vs, 0, h => by
    obtain rfl : p = (k, x) := by simpa using h
    rfl
  | p :: m, v :: vs, i + 1, h => by
    show (enc p.1, v) :: zv enc (m.set i (k, y)) vs = _
    rw [zv_setval (by simpa using h)]; rfl
  | _ :: _, [], 0, _ => rfl
  | _ :: _, [], _ + 1, _ => rfl
  | [], _, _, h => by simp at h
section
variable {m : List (Int × List (Int × En))} {f : Tb} {i : Nat} {p : Int} {s s' : List (Int × En)} {oe : Option En}
theorem tb_put (o : TbOk m f) (h : m[i]? = some (p / 8, s)) (h1 : ∀ r, ag s' r = if r = p % 8 then oe else ag s r) (h2 : (s'.map (·.1)).Nodup) (h3 : ∀ r ∈ s', 0 ≤ r.1 ∧ r.1 < 8) : TbOk (m.set i (p / 8, s')) (upd1 f p oe) := by
  have mem := List.mem_of_getElem? h
  refine ⟨by rw [set_keys h]; exact o.nd, fun q hq => ?_, fun q hq => ?_, fun q hq => ?_, fun q => ?_⟩
  · rcases List.mem_or_eq_of_mem_set hq with z | rfl
    · exact o.b1 q z
    · exact o.b1 (p / 8, s) mem
  · rcases List.mem_or_eq_of_mem_set hq with z | rfl
    · exact o.nd2 q z
    · exact h2
  · rcases List.mem_or_eq_of_mem_set hq with z | rfl
    · exact o.b2 q z
    · exact h3
  · rw [ag_set o.nd h, upd1, o.eq q]
    by_cases e : q / 8 = p / 8
    · rw [if_pos e]
      have e2 := ag_at o.nd h
      rw [e, e2]
      show _ = ag s' (q % 8)
      rw [h1]
      by_cases e3 : q = p
      · rw [if_pos e3, if_pos (by rw [e3])]
      · rw [if_neg e3, if_neg (by omega)]; rfl
    · rw [if_neg e, if_neg (by rintro rfl; exact e rfl)]
theorem tb_new (o : TbOk m f) (h : ¬ (p / 8) ∈ m.map (·.1)) (p0 : 0 ≤ p) (p1 : p < 64) : TbOk (m ++ [(p / 8, [])]) f := by
  refine ⟨?_, fun q hq => ?_, fun q hq => ?_, fun q hq => ?_, fun q => ?_⟩
  · rw [List.map_append, List.nodup_append]
    refine ⟨o.nd, by simp, ?_⟩
    intro a ha b hb e
    simp at hb
    subst hb e
    exact h ha
  · rcases List.mem_append.mp hq with z | z
    · exact o.b1 q z
    · simp at z; subst z; show 0 ≤ p / 8 ∧ p / 8 < 8; omega
  · rcases List.mem_append.mp hq with z | z
    · exact o.nd2 q z
    · simp at z; subst z; exact .nil
  · rcases List.mem_append.mp hq with z | z
    · exact o.b2 q z
    · simp at z; subst z; intro r hr; cases hr
  · rw [ag_app h, o.eq q]
    by_cases e : q / 8 = p / 8
    · rw [if_pos e, e, ag_none h]; rfl
    · rw [if_neg e]
theorem tb_del (o : TbOk m f) (h : m[i]? = some (p / 8, [])) : TbOk (m.eraseIdx i) f := by
  have sub := List.eraseIdx_sublist m i
  refine ⟨o.nd.sublist (sub.map _), fun q hq => o.b1 q (sub.subset hq), fun q hq => o.nd2 q (sub.subset hq), fun q hq => o.b2 q (sub.subset hq), fun q => ?_⟩
  rw [ag_erase o.nd h, o.eq q]
  by_cases e : q / 8 = p / 8
  · rw [if_pos e, e, ag_at o.nd h]; rfl
  · rw [if_neg e]
theorem TbOk.len (o : TbOk m f) : m.length ≤ 8 := by
  have := pigeon (n := 8) o.nd fun x hx => by
    obtain ⟨q, hq, rfl⟩ := List.mem_map.mp hx
    exact o.b1 q hq
  simpa using this
theorem TbOk.len2 (o : TbOk m f) (h : m[i]? = some (p, s)) : s.length ≤ 8 := by
  have mem := List.mem_of_getElem? h
  have := pigeon (n := 8) (o.nd2 _ mem) fun x hx => by
    obtain ⟨q, hq, rfl⟩ := List.mem_map.mp hx
    exact o.b2 _ mem q hq
  simpa using this
end
section
variable {K : PySem.W.Frag} {F0 : FP} {H0 H : Hp} {L L1 : List HP} {vs : List V} {Q : VK} {E : XK}
theorem pure_Table_lay (h : sp_Table_lay K vs H Q E) : Goal (t_Table_lay K (WD E)) n_Table_lay vs H Q := by
  obtain ⟨t, f, p, v, e, rfl, p0, p1, tr⟩ := h
  obtain ⟨F, h, hq, -⟩ := tr.open
  obtain ⟨d, as, m, o, al, h⟩ := h.tableE .here
  unfold Goal t_Table_lay; wtm_at "z_start"
  have fin : ∀ (m : List (Int × List (Int × En))) (as : List Addr) (H' : Hp), TbOk m f → as.length = m.length → (p / 8) ∈ m.map (·.1) →
      At F H [obj (c_Table K) t [("firsts", .ref d)], pt d (.dK (zv ki m (as.map V.ref))), rowsG (secP K) as (m.map (·.2)), enP K v e] H' →
      sDPut (tDGet (tF (c_Table K) "firsts" (tVar 0)) (tOp rFdiv (tVar 1) (tC (.int 8)))) (tOp rMod (tVar 1) (tC (.int 8))) (tVar 2) ⟨fun _ H' => Q .non H', Q, fun _ _ => False, fun _ _ => False⟩ [some (.ref t), some (.int p), some v] H' := by
    clear h al o as m
    intro m as H' o al hk h
    obtain ⟨i, v', s, e1, e2, e3⟩ := zv_get (enc := ki) (vs := as.map V.ref) ki_inj (by simpa using al) hk
    obtain ⟨a, ea, rfl⟩ : ∃ a, as[i]? = some a ∧ V.ref a = v' := by rw [List.getElem?_map] at e1; simpa using e1
    have em : (m.map (·.2))[i]? = some s := by simp [e2]
    have s8 := o.len2 e2
    have hb := o.nd2 _ (List.mem_of_getElem? e2)
    have hb2 := o.b2 _ (List.mem_of_getElem? e2)
    wtm_at "z_in"
    refine s_getI h (by wtm_at "z_sel") e3 ?_
    wtm_at "z_in"
    have h := h.gPop (by wtm_at "z_sel") ea em
    obtain ⟨ws, wl, h⟩ := h.secE .here
    refine s_putI h (by wtm_at "z_sel") (by simp [zv, wl, sizeLine_eq]; omega) fun H h => ?_
    by_cases hk2 : (p % 8) ∈ s.map (·.1)
    · obtain ⟨j, v2, e', g1, g2, g3⟩ := zv_get (enc := ki) (vs := ws) ki_inj wl hk2
      rw [show putK (zv ki s ws) (Sum.inl (p % 8)) v = zv ki (s.set j (p % 8, e)) (ws.set j v) from zv_put_old ki_inj wl hb g2] at h
      have h := h.enPut (i := j) (w := v) (p := p % 8) (e := e) (by wtm_at "z_sel") (by wtm_at "z_sel")
      have h := h.secI (a := a) (s := s.set j (p % 8, e)) (vs' := ws.set j v) (by simpa using wl) (by wtm_at "z_arr")
      have h := h.gSet (as := as) (xs := m.map (·.2)) (n := i) (a := a) (by wtm_at "z_arr") ea (by simpa using al)
      have ho := tb_put (s' := s.set j (p % 8, e)) (oe := some e) o e2 (fun r => ag_set hb g2) (by rw [set_keys g2]; exact hb) (fun r hr => by
        rcases List.mem_or_eq_of_mem_set hr with z | rfl
        · exact hb2 r z
        · show 0 ≤ p % 8 ∧ p % 8 < 8; omega)
      rw [show (m.map (·.2)).set i (s.set j (p % 8, e)) = (m.set i (p / 8, s.set j (p % 8, e))).map (·.2) by rw [List.map_set]] at h
      rw [← zv_setval (y := s.set j (p % 8, e)) e2] at h
      have h := h.tableI ho (by wtm_at "z_arr")
      exact hq _ _ _ ⟨rfl, rfl⟩ h
    · rw [show putK (zv ki s ws) (Sum.inl (p % 8)) v = zv ki (s ++ [(p % 8, e)]) (ws ++ [v]) from zv_put_new ki_inj wl hk2] at h
      have h := h.enSnoc (w := v) (p := p % 8) (e := e) wl (by wtm_at "z_sel") (by wtm_at "z_sel")
      have h := h.secI (a := a) (s := s ++ [(p % 8, e)]) (vs' := ws ++ [v]) (by simpa using wl) (by wtm_at "z_arr")
      have h := h.gSet (as := as) (xs := m.map (·.2)) (n := i) (a := a) (by wtm_at "z_arr") ea (by simpa using al)
      have ho := tb_put (s' := s ++ [(p % 8, e)]) (oe := some e) o e2 (fun r => ag_app hk2) (by
        rw [List.map_append, List.nodup_append]
        refine ⟨hb, by simp, ?_⟩
        intro a ha b hb e
        simp at hb
        subst hb e
        exact hk2 ha) (fun r hr => by
        rcases List.mem_append.mp hr with z | z
        · exact hb2 r z
        · simp at z; subst z; show 0 ≤ p % 8 ∧ p % 8 < 8; omega)
      rw [show (m.map (·.2)).set i (s ++ [(p % 8, e)]) = (m.set i (p / 8, s ++ [(p % 8, e)])).map (·.2) by rw [List.map_set]] at h
      rw [← zv_setval (y := s ++ [(p % 8, e)]) e2] at h
      have h := h.tableI ho (by wtm_at "z_arr")
      exact hq _ _ _ ⟨rfl, rfl⟩ h
  refine s_seq ?_
  simp only [q_ifS, q_B, q_dnotin, q_op, q_var0, q_varS, q_c, q_f]
  wtm_at "z_hp"
  wtm_at "z_hp"
  refine s_notInI h (by wtm_at "z_sel") ?_
  by_cases hk : (p / 8) ∈ m.map (·.1)
  · obtain ⟨i, v', s, e1, e2, e3⟩ := zv_get (enc := ki) (vs := as.map V.ref) ki_inj (by simpa using al) hk
    rw [show valV (zv ki m (as.map V.ref)) (Sum.inl (p / 8) : Key) = some v' from e3]
    refine ⟨_, rfl, ?_⟩
    simp only [Option.isSome_some, Bool.not_true, Bool.false_eq_true, if_false, q_next]
    exact fin m as _ o al hk h
  · rw [show valV (zv ki m (as.map V.ref)) (Sum.inl (p / 8) : Key) = none from zv_none ki_inj (by simpa using al) hk]
    refine ⟨_, rfl, ?_⟩
    simp only [Option.isSome_none, Bool.not_false, if_true, q_dput]
    wtm_at "z_in"
    have m8 := o.len
    rename_i a _
    refine s_putI h (by wtm_at "z_sel") (by simp [zv, al, sizeLine_eq]; omega) fun H h => ?_
    rw [show putK (zv ki m (as.map V.ref)) (Sum.inl (p / 8)) (.ref a) = zv ki (m ++ [(p / 8, [])]) ((as ++ [a]).map V.ref) by rw [List.map_append]; exact zv_put_new ki_inj (by simpa using al) hk] at h
    have h := h.addP (R := enAll K [] (([] : List (Int × En)).map (·.2))) (fun i v e h1 _ => by simp at h1)
    have h := h.secI (a := a) (s := []) (vs' := []) rfl (.cons (.there (.there .here)) (.cons .here .nil))
    have h := h.gSnoc (a := a) (x := []) (as := as) (xs := m.map (·.2)) (P := secP K) (by wtm_at "z_arr")
    have e5 : m.map (·.2) ++ [[]] = (m ++ [(p / 8, ([] : List (Int × En)))]).map (·.2) := by simp
    rw [e5] at h
    have g := fin (m ++ [(p / 8, [])]) (as ++ [a]) _ (tb_new o hk p0 p1) (by simpa using al) (by simp) (h.only (by wtm_at "z_arr"))
    simp only [q_dput, q_dget, q_op, q_f, q_var0, q_varS, q_c] at g
    exact g
end
set_option Elab.async false
set_option linter.all false
set_option maxRecDepth 100000
set_option maxHeartbeats 1000000
section
variable {K : PySem.W.Frag} {F0 : FP} {H0 H : Hp} {L L1 M2 : List HP} {vs ws : List V} {Q : VK} {E : XK} {a : Addr} {s : List (Int × En)} {k : Int} {z : V} {j : Nat}
theorem At.enErase (h : At F0 H0 L H) (s1 : Sel (enAll K ws (s.map (·.2))) L L1) : At F0 H0 (enAll K (ws.eraseIdx j) ((s.eraseIdx j).map (·.2)) :: L1) H := by
  have h1 := h.know s1 fun _ k => k
  refine ((h.sel s1).drop).addP ?_
  intro i v e q1 q2
  rw [List.getElem?_map, List.getElem?_eraseIdx] at q2
  rw [List.getElem?_eraseIdx] at q1
  split at q1
  · rename_i l; rw [if_pos l] at q2; exact h1 i v e q1 (by rw [List.getElem?_map]; exact q2)
  · rename_i l; rw [if_neg l] at q2; exact h1 (i + 1) v e q1 (by rw [List.getElem?_map]; exact q2)
theorem s_popSec (h : At F0 H0 L H) (s1 : Sel (pt a (.dK (zv ki s ws))) L L1) (s2 : Sel (enAll K ws (s.map (·.2))) L1 M2) (wl : ws.length = s.length) (nd : (s.map (·.1)).Nodup)
    (q : ∀ w s' ws' H', ws'.length = s'.length → s'.Sublist s → (∀ r, ag s' r = if r = k then none else ag s r) → At F0 H0 (pt a (.dK (zv ki s' ws')) :: enAll K ws' (s'.map (·.2)) :: M2) H' → Q w H') : popD2 (.ref a) (.int k) z H Q := by
  refine s_pop2I h s1 (fun v e H' h => ?_) (fun e => ?_)
  · by_cases hk : k ∈ s.map (·.1)
    · obtain ⟨j, v2, e', g1, g2, g3⟩ := zv_get (enc := ki) (vs := ws) ki_inj wl hk
      rw [show dropK (zv ki s ws) (Sum.inl k) = zv ki (s.eraseIdx j) (ws.eraseIdx j) from zv_drop ki_inj wl nd g2] at h
      have h := h.enErase (j := j) (.there s2)
      have l1 := (List.getElem?_eq_some_iff.mp g1).1
      have l2 := (List.getElem?_eq_some_iff.mp g2).1
      exact q v (s.eraseIdx j) (ws.eraseIdx j) H' (by rw [List.length_eraseIdx, List.length_eraseIdx, if_pos l1, if_pos l2, wl]) (List.eraseIdx_sublist ..) (fun r => ag_erase nd g2) (h.arr (.cons (.there .here) (.cons .here .nil)))
    · rw [show valV (zv ki s ws) (Sum.inl k : Key) = none from zv_none ki_inj wl hk] at e
      cases e
  · have hk : ¬ k ∈ s.map (·.1) := fun hk => by
      obtain ⟨j, v2, e', g1, g2, g3⟩ := zv_get (enc := ki) (vs := ws) ki_inj wl hk
      rw [show valV (zv ki s ws) (Sum.inl k : Key) = some v2 from g3] at e
      cases e
    refine q z s ws H wl (List.Sublist.refl _) (fun r => ?_) (h.arr (.cons s1 (.cons s2 .nil)))
    by_cases er : r = k
    · rw [if_pos er, er, ag_none hk]
    · rw [if_neg er]
theorem pure_Table_clear (h : sp_Table_clear K vs H Q E) : Goal (t_Table_clear K (WD E)) n_Table_clear vs H Q := by
  obtain ⟨t, f, p, rfl, tr⟩ := h
  obtain ⟨F, h, hq, -⟩ := tr.open
  obtain ⟨d, as, m, o, al, h⟩ := h.tableE .here
  unfold Goal t_Table_clear; wtm_at "z_start"
  wtm_at "z_st"
  refine s_isDv h (by wtm_at "z_sel") ?_
  wtm_at "z_in"
  refine s_getOI h (by wtm_at "z_sel") ?_
  by_cases hk : (p / 8) ∈ m.map (·.1)
  · obtain ⟨i, v, s, e1, e2, e3⟩ := zv_get (enc := ki) (vs := as.map V.ref) ki_inj (by simpa using al) hk
    obtain ⟨a, ea, rfl⟩ : ∃ a, as[i]? = some a ∧ V.ref a = v := by rw [List.getElem?_map] at e1; simpa using e1
    rw [show valV (zv ki m (as.map V.ref)) (Sum.inl (p / 8) : Key) = some (.ref a) from e3]
    have em : (m.map (·.2))[i]? = some s := by simp [e2]
    have s8 := o.len2 e2
    have hb := o.nd2 _ (List.mem_of_getElem? e2)
    have hb2 := o.b2 _ (List.mem_of_getElem? e2)
    have il := (List.getElem?_eq_some_iff.mp e2).1
    have h := h.gPop (by wtm_at "z_sel") ea em
    obtain ⟨ws, wl, h⟩ := h.secE .here
    wtm_at "z_in"
    wtm_at "z_st"
    wtm_at "z_st"
    refine s_isDv h (by wtm_at "z_sel") ?_
    wtm_at "z_in"
    refine s_popSec h (by wtm_at "z_sel") (by wtm_at "z_sel") wl hb fun w s' ws' H wl' sub ha h => ?_
    have ho := tb_put (oe := none) (s' := s') o e2 ha (hb.sublist (sub.map _)) (fun r hr => hb2 r (sub.subset hr))
    have s8' := sub.length_le
    wtm_at "z_in"
    have zl : (zv ki s' ws').length = s'.length := zv_len wl'
    rw [zl]
    wtm_at "z_if"
    · have es : s' = [] := List.length_eq_zero_iff.mp (by omega)
      subst es
      wtm_at "z_in"
      refine s_isDv h (by wtm_at "z_sel") ?_
      wtm_at "z_in"
      refine s_pop2I h (by wtm_at "z_sel") (fun v e H h => ?_) (fun e => ?_)
      · rw [show dropK (zv ki m (as.map V.ref)) (Sum.inl (p / 8)) = zv ki (m.eraseIdx i) ((as.eraseIdx i).map V.ref) by rw [er_map]; exact zv_drop ki_inj (by simpa using al) o.nd e2] at h
        have hd := tb_del (p := p) (i := i) ho (by simp [il])
        rw [show (m.set i (p / 8, [])).eraseIdx i = m.eraseIdx i from List.eraseIdx_set_eq ..] at hd
        rw [show (m.map (·.2)).eraseIdx i = (m.eraseIdx i).map (·.2) from er_map.symm] at h
        exact hq _ _ _ ⟨rfl, rfl⟩ ((h.tableI hd (by wtm_at "z_arr")).only (by wtm_at "z_arr"))
      · rw [show valV (zv ki m (as.map V.ref)) (Sum.inl (p / 8) : Key) = some (.ref a) from e3] at e
        cases e
    · wtm_at "z_in"
      have h := h.secI (a := a) (s := s') (vs' := ws') wl' (by wtm_at "z_arr")
      have h := h.gSet (as := as) (xs := m.map (·.2)) (n := i) (a := a) (by wtm_at "z_arr") ea (by simpa using al)
      rw [show (m.map (·.2)).set i s' = (m.set i (p / 8, s')).map (·.2) by rw [List.map_set]] at h
      rw [← zv_setval (y := s') e2] at h
      exact hq _ _ _ ⟨rfl, rfl⟩ (h.tableI ho (by wtm_at "z_arr"))
  · rw [show valV (zv ki m (as.map V.ref)) (Sum.inl (p / 8) : Key) = none from zv_none ki_inj (by simpa using al) hk]
    have e : upd1 f p none = f := by
      funext q
      rw [upd1]
      by_cases e : q = p
      · subst e; rw [if_pos rfl, o.eq, ag_none hk]; rfl
      · rw [if_neg e]
    wtm_at "z_in"
    wtm_at "z_st"
    refine hq _ _ _ ⟨rfl, rfl⟩ ?_
    rw [e]
    exact h.tableI o (by wtm_at "z_arr")
end
set_option Elab.async false
set_option linter.all false
set_option maxRecDepth 100000
set_option maxHeartbeats 1000000
theorem sorted_eq : ∀ {xs ys : List Int}, xs.Pairwise (· < ·) → ys.Pairwise (· < ·) → (∀ p, p ∈ xs ↔ p ∈ ys) → xs = ys
  | [], [], _, _, _ => rfl
  | [], y :: ys, _, _, h => by have := (h y).mpr (.head _); cases this
  | x :: xs, [], _, _, h => by have := (h x).mp (.head _); cases this
  | x :: xs, y :: ys, h1, h2, h => by
    have a1 := List.pairwise_cons.mp h1
    have a2 := List.pairwise_cons.mp h2
    have e : x = y := by
      rcases List.mem_cons.mp ((h x).mp (.head _)) with e | e
      · exact e
      · rcases List.mem_cons.mp ((h y).mpr (.head _)) with e2 | e2
        · exact e2.symm
        · have := a2.1 x e; have := a1.1 y e2; omega
    subst e
    congr 1
    refine sorted_eq a1.2 a2.2 fun p => ?_
    constructor
    · intro hp
      rcases List.mem_cons.mp ((h p).mp (.tail _ hp)) with e | e
      · subst e; have := a1.1 p hp; omega
      · exact e
    · intro hp
      rcases List.mem_cons.mp ((h p).mpr (.tail _ hp)) with e | e
      · subst e; have := a2.1 p hp; omega
      · exact e
theorem pgs_mem {f : Tb} {p : Int} : p ∈ pgs f ↔ 0 ≤ p ∧ p < 64 ∧ (f p).isSome = true := by
  rw [pgs, List.mem_map]
  constructor
  · rintro ⟨n, hn, rfl⟩
    rw [List.mem_filter, List.mem_range] at hn
    exact ⟨by omega, by omega, hn.2⟩
  · rintro ⟨h0, h1, h2⟩
    exact ⟨p.toNat, List.mem_filter.mpr ⟨List.mem_range.mpr (by omega), by rw [show ((p.toNat : Nat) : Int) = p by omega]; exact h2⟩, by omega⟩
theorem pgs_sorted {f : Tb} : (pgs f).Pairwise (· < ·) := by
  rw [pgs, List.pairwise_map]
  exact (List.Pairwise.filter _ List.pairwise_lt_range).imp fun h => by omega
theorem TbOk.dom {m : List (Int × List (Int × En))} {f : Tb} (o : TbOk m f) {p : Int} {e : En} (h : f p = some e) : ∃ s, ag m (p / 8) = some s ∧ ag s (p % 8) = some e ∧ 0 ≤ p ∧ p < 64 := by
  rw [o.eq] at h
  cases e1 : ag m (p / 8) with
  | none => rw [e1] at h; cases h
  | some s =>
    rw [e1] at h
    have b1 := o.b1 _ (ag_mem e1)
    exact ⟨s, rfl, h, by simp at b1; omega, by simp at b1; omega⟩
theorem strict {xs : List Int} (h : xs.Pairwise (· ≤ ·)) (nd : xs.Nodup) : xs.Pairwise (· < ·) := by
  have := List.Pairwise.and h nd
  exact this.imp fun ⟨a, b⟩ => by omega
theorem take_lt {ys : List Int} {j : Nat} {y : Int} (h : ys.Pairwise (· < ·)) (e : ys[j]? = some y) : ∀ x ∈ ys.take j, x < y := by
  intro x hx
  obtain ⟨i, hi, rfl⟩ := List.mem_iff_getElem.mp hx
  obtain ⟨jl, rfl⟩ := List.getElem?_eq_some_iff.mp e
  simp at hi
  rw [List.getElem_take]
  exact List.pairwise_iff_getElem.mp h i j (by omega) jl (by omega)

section
variable {K : PySem.W.Frag} {F0 : FP} {H0 H : Hp} {L L1 : List HP} {vs : List V} {Q : VK} {E : XK} {a : Addr} {kvs : List (Key × V)} {ks : List Int}
theorem s_sortDI (h : At F0 H0 L H) (s : Sel (pt a (.dK kvs)) L L1) (e : kvs.map (·.1) = ks.map Sum.inl) (l : ks.length < 64) (q : ∀ (ys : List Int) p H', ys.Perm ks → ys.Pairwise (· ≤ ·) → At F0 H0 (pt p (.lst (ys.map V.int)) :: L) H' → Q (.ref p) H') : rSortedDI [.ref a] H Q :=
  ⟨a, kvs, ks, rfl, .of (h.get s), e, l, fun ys p h1 h2 hp => q ys p _ h1 h2 (h.new hp)⟩
theorem pure_Table_pages (h : sp_Table_pages K vs H Q E) : Goal (t_Table_pages K (WD E)) n_Table_pages vs H Q := by
  obtain ⟨t, f, rfl, tr⟩ := h
  obtain ⟨F, h, hq, -⟩ := tr.open
  obtain ⟨d, as, m, o, al, h⟩ := h.tableE .here
  unfold Goal t_Table_pages; wtm_at "z_start"
  wtm_at "z_st"
  wtm_at "z_st"
  rename_i q _
  have m8 := o.len
  refine s_sortDI (ks := m.map (·.1)) h (by wtm_at "z_sel") (by rw [zv_keys (by simpa using al)]) (by simp; omega) fun ys p H' pm sr h => ?_
  have ny : ys.Nodup := pm.nodup_iff.mpr o.nd
  have sy := strict sr ny
  rw [show HO.lst [] = il [] from rfl] at h
  refine s_list (by wtm_at "z_sql") ?_
  refine s_forL (xs := ys.map V.int) (fun j σ L => ∃ xs u1 u2, σ = [some (.ref t), some (.ref q), u1, u2] ∧ L = [pt q (il xs), obj (c_Table K) t [("firsts", .ref d)], pt d (.dK (zv ki m (as.map V.ref))), rowsG (secP K) as (m.map (·.2)), pt p (.lst (ys.map V.int))] ∧
      xs.Pairwise (· < ·) ∧ xs.length ≤ 8 * j ∧ ∀ x, x ∈ xs ↔ x / 8 ∈ ys.take j ∧ (f x).isSome = true) (h.only (by wtm_at "z_arr")) ⟨[], none, none, rfl, rfl, .nil, by simp, by simp⟩
    (fun j σ L H ⟨xs, u1, u2, e1, e2, _⟩ h => by subst e1 e2; exact sqL_at h (by wtm_at "z_sel")) (fun j x σ L H hx ⟨xs, u1, u2, e1, e2, g1, g2, g3⟩ h => ?_) (fun σ L H ⟨xs, u1, u2, e1, e2, g1, g2, g3⟩ h => ?_)
  · subst e1 e2
    obtain ⟨y, hy, rfl⟩ : ∃ y, ys[j]? = some y ∧ V.int y = x := by rw [List.getElem?_map] at hx; simpa using hx
    have jl := (List.getElem?_eq_some_iff.mp hy).1
    have yl : ys.length = m.length := by rw [pm.length_eq]; simp
    have hk : y ∈ m.map (·.1) := pm.mem_iff.mp (List.mem_of_getElem? hy)
    obtain ⟨i, v', s, k1, k2, k3⟩ := zv_get (enc := ki) (vs := as.map V.ref) ki_inj (by simpa using al) hk
    obtain ⟨a, ea, rfl⟩ : ∃ a, as[i]? = some a ∧ V.ref a = v' := by rw [List.getElem?_map] at k1; simpa using k1
    have em : (m.map (·.2))[i]? = some s := by simp [k2]
    have s8 := o.len2 k2
    have hb := o.nd2 _ (List.mem_of_getElem? k2)
    have hb2 := o.b2 _ (List.mem_of_getElem? k2)
    have y8 := o.b1 _ (List.mem_of_getElem? k2)
    wtm_at "z_in"
    refine s_getI h (by wtm_at "z_sel") k3 ?_
    have h := h.gPop (by wtm_at "z_sel") ea em
    obtain ⟨ws, wl, h⟩ := h.secE .here
    refine s_sortDI (ks := s.map (·.1)) h (by wtm_at "z_sel") (by rw [zv_keys wl]) (by simp; omega) fun zs p2 H' pm2 sr2 h => ?_
    have zl : zs.length = s.length := by rw [pm2.length_eq]; simp
    have nz : zs.Nodup := pm2.nodup_iff.mpr hb
    have sz := strict sr2 nz
    have h := h.secI (a := a) (s := s) wl (by wtm_at "z_arr")
    have h := h.gBack (as := as) (xs := m.map (·.2)) (n := i) (a := a) (x := s) (by wtm_at "z_arr") ea em (by simpa using al)
    refine s_list (a := p2) (xs := zs.map V.int) (by wtm_at "z_sql") ?_
    refine s_forL (xs := zs.map V.int) (fun k σ L => ∃ xs u2, σ = [some (.ref t), some (.ref q), some (.int y), u2] ∧ L = [pt q (il xs), obj (c_Table K) t [("firsts", .ref d)], pt d (.dK (zv ki m (as.map V.ref))), rowsG (secP K) as (m.map (·.2)), pt p (.lst (ys.map V.int)), pt p2 (.lst (zs.map V.int))] ∧
      xs.Pairwise (· < ·) ∧ xs.length ≤ 8 * j + k ∧ ∀ x, x ∈ xs ↔ (x / 8 ∈ ys.take j ∧ (f x).isSome = true) ∨ (x / 8 = y ∧ x % 8 ∈ zs.take k)) (h.only (by wtm_at "z_arr")) ⟨xs, u2, rfl, rfl, g1, by omega, by simpa using g3⟩
      (fun j σ L H ⟨xs, u2, e1, e2, _⟩ h => by subst e1 e2; exact sqL_at h (by wtm_at "z_sel")) (fun k x σ L H hx ⟨xs, u2, e1, e2, g1, g2, g3⟩ h => ?_) (fun σ L H ⟨xs, u2, e1, e2, g1, g2, g3⟩ h => ?_)
    · subst e1 e2
      obtain ⟨z, hz, rfl⟩ : ∃ z, zs[k]? = some z ∧ V.int z = x := by rw [List.getElem?_map] at hx; simpa using hx
      have kl := (List.getElem?_eq_some_iff.mp hz).1
      have hz2 : z ∈ s.map (·.1) := pm2.mem_iff.mp (List.mem_of_getElem? hz)
      obtain ⟨r, hr, er⟩ := List.mem_map.mp hz2
      have z8 := hb2 r hr
      rw [er] at z8
      wtm_at "z_in"
      have ap : List.map V.int xs ++ [V.int (y * 8 + z)] = List.map V.int (xs ++ [y * 8 + z]) := by simp
      rw [ap] at h
      refine ⟨_, ⟨xs ++ [y * 8 + z], _, rfl, rfl, ?_, by simp; omega, fun x => ?_⟩, h⟩
      · rw [List.pairwise_append]
        refine ⟨g1, by simp, fun x hx w hw => ?_⟩
        simp at hw
        subst hw
        rcases (g3 x).mp hx with c | c
        · have := take_lt sy hy _ c.1; omega
        · have := take_lt sz hz _ c.2; omega
      · rw [List.mem_append, g3, List.take_add_one, hz]
        simp only [List.mem_append, List.mem_singleton, Option.toList_some]
        constructor
        · rintro ((c | c) | c)
          · exact .inl c
          · exact .inr ⟨c.1, .inl c.2⟩
          · exact .inr ⟨by omega, .inr (by omega)⟩
        · rintro (c | ⟨c1, c | c⟩)
          · exact .inl (.inl c)
          · exact .inl (.inr ⟨c1, c⟩)
          · exact .inr (by omega)
    · subst e1 e2
      have ln : (zs.map V.int).length = zs.length := by simp
      rw [ln] at g2 g3
      refine ⟨_, ⟨xs, _, _, rfl, rfl, g1, by omega, fun x => ?_⟩, h.only (by wtm_at "z_arr")⟩
      rw [g3, List.take_add_one, hy, List.take_of_length_le (Nat.le_refl _)]
      simp only [List.mem_append, List.mem_singleton, Option.toList_some]
      constructor
      · rintro (c | ⟨c1, c2⟩)
        · exact ⟨.inl c.1, c.2⟩
        · refine ⟨.inr c1, ?_⟩
          rw [o.eq, c1, ag_at o.nd k2]
          obtain ⟨e, he⟩ := ag_key (pm2.mem_iff.mp c2)
          show (ag s (x % 8)).isSome = true
          rw [he]; rfl
      · rintro ⟨c1 | c1, c2⟩
        · exact .inl ⟨c1, c2⟩
        · refine .inr ⟨c1, ?_⟩
          obtain ⟨e, he⟩ := Option.isSome_iff_exists.mp c2
          obtain ⟨s', a1, a2, _⟩ := o.dom he
          rw [c1, ag_at o.nd k2] at a1
          cases a1
          exact pm2.mem_iff.mpr (List.mem_map.mpr ⟨_, ag_mem a2, rfl⟩)
  · subst e1 e2
    wtm_at "z_in"
    have e : xs = pgs f := by
      refine sorted_eq g1 pgs_sorted fun x => ?_
      rw [g3, pgs_mem, List.take_of_length_le (by simp)]
      constructor
      · rintro ⟨c1, c2⟩
        obtain ⟨e, he⟩ := Option.isSome_iff_exists.mp c2
        obtain ⟨s', a1, a2, a3, a4⟩ := o.dom he
        exact ⟨a3, a4, c2⟩
      · rintro ⟨c1, c2, c3⟩
        obtain ⟨e, he⟩ := Option.isSome_iff_exists.mp c3
        obtain ⟨s', a1, a2, a3, a4⟩ := o.dom he
        exact ⟨pm.mem_iff.mpr (List.mem_map.mpr ⟨_, ag_mem a1, rfl⟩), c3⟩
    subst e
    refine hq _ _ _ ⟨q, rfl, rfl⟩ ?_
    exact ((h.tableI (t := t) o (by wtm_at "z_arr")).only (by wtm_at "z_arr"))
end
set_option Elab.async false
set_option linter.all false
set_option maxRecDepth 100000
set_option maxHeartbeats 1000000
section
theorem ag_cons {κ β : Type} [DecidableEq κ] {p : κ × β} {m : List (κ × β)} {k : κ} : ag (p :: m) k = if p.1 = k then some p.2 else ag m k := by
  unfold ag; rw [List.find?_cons]; by_cases h : p.1 = k <;> simp [h]
variable {S S' S1 : PS} {o o' : Ow} {e e' : En} {X A : List Ow} {r : List Int} {tabs : List (Int × Tb)} {v : Option En} {k : Int}
theorem upT_keys : (upT tabs o v).map (·.1) = tabs.map (·.1) := by
  unfold upT; rw [List.map_map]; apply List.map_congr_left; intro q hq
  show (if q.1 = o.1 then (q.1, upd1 q.2 o.2 v) else q).1 = q.1
  split <;> rfl
theorem ag_upT : ∀ {tabs : List (Int × Tb)}, ag (upT tabs o v) k = (ag tabs k).map fun f => if k = o.1 then upd1 f o.2 v else f
  | [] => rfl
  | q :: tabs => by
    have ih := ag_upT (tabs := tabs)
    show ag ((if q.1 = o.1 then (q.1, upd1 q.2 o.2 v) else q) :: upT tabs o v) k = _
    rw [ag_cons, ag_cons, ih]
    by_cases h1 : q.1 = o.1
    · rw [if_pos h1]
      by_cases h2 : q.1 = k
      · rw [if_pos h2, if_pos h2, ← h2]; simp [h1]
      · rw [if_neg h2, if_neg h2]
    · rw [if_neg h1]
      by_cases h2 : q.1 = k
      · rw [if_pos h2, if_pos h2, ← h2]; simp [h1]
      · rw [if_neg h2, if_neg h2]
def getT (tabs : List (Int × Tb)) (o : Ow) : Option En := (ag tabs o.1).bind fun f => f o.2
theorem getE_T : getE S o = getT S.tabs o := rfl
theorem getT_up (h : o.1 ∈ tabs.map (·.1)) : getT (upT tabs o v) o' = if o' = o then v else getT tabs o' := by
  unfold getT
  rw [ag_upT]
  obtain ⟨f, hf⟩ := ag_key h
  by_cases e : o' = o
  · subst e; rw [if_pos rfl, hf]; simp [upd1]
  · rw [if_neg e]
    by_cases e1 : o'.1 = o.1
    · have e2 : o'.2 ≠ o.2 := fun z => e (Prod.ext e1 z)
      rw [e1, hf]; simp [upd1, e2]
    · cases ag tabs o'.1 with
      | none => rfl
      | some f => simp [e1]
theorem getT_dom (h : getT tabs o = some e) : o.1 ∈ tabs.map (·.1) := by
  unfold getT at h
  cases hf : ag tabs o.1 with
  | none => rw [hf] at h; cases h
  | some f => exact List.mem_map.mpr ⟨_, ag_mem hf, rfl⟩
/-! ### pages that are mapped -/
def domT (tabs : List (Int × Tb)) : Prop := ∀ q ∈ tabs, ∀ p e, q.2 p = some e → 0 ≤ p ∧ p < 64
def mapd (tabs : List (Int × Tb)) : List Ow := tabs.flatMap fun q => (pgs q.2).map fun p => (q.1, p)
def heldT (tabs : List (Int × Tb)) : Nat := (tabs.map fun q => (pgs q.2).length).sum
theorem heldT_len : heldT tabs = (mapd tabs).length := by
  unfold heldT mapd; rw [List.length_flatMap]; simp
theorem domT_get (d : domT tabs) (h : getT tabs o = some e) : 0 ≤ o.2 ∧ o.2 < 64 := by
  unfold getT at h
  cases hf : ag tabs o.1 with
  | none => rw [hf] at h; cases h
  | some f => rw [hf] at h; exact d _ (ag_mem hf) _ _ h
theorem mapd_mem (nk : (tabs.map (·.1)).Nodup) (d : domT tabs) : o ∈ mapd tabs ↔ (getT tabs o).isSome = true := by
  unfold mapd
  rw [List.mem_flatMap]
  constructor
  · rintro ⟨q, hq, h⟩
    obtain ⟨p, hp, rfl⟩ := List.mem_map.mp h
    obtain ⟨i, hi, e⟩ := List.mem_iff_getElem.mp hq
    have e2 : ag tabs q.1 = some q.2 := ag_at (i := i) nk (by simp [hi, e])
    show (getT tabs (q.1, p)).isSome = true
    unfold getT
    rw [e2]
    exact (pgs_mem.mp hp).2.2
  · intro h
    obtain ⟨e, he⟩ := Option.isSome_iff_exists.mp h
    have b := domT_get d he
    unfold getT at he
    cases hf : ag tabs o.1 with
    | none => rw [hf] at he; cases he
    | some f =>
      rw [hf] at he
      refine ⟨_, ag_mem hf, List.mem_map.mpr ⟨o.2, pgs_mem.mpr ⟨b.1, b.2, ?_⟩, rfl⟩⟩
      have he : f o.2 = some e := he
      show (f o.2).isSome = true
      rw [he]; rfl
theorem pgs_nodup {f : Tb} : (pgs f).Nodup := (pgs_sorted (f := f)).imp fun h => by omega
theorem mapd_nodup : ∀ {tabs : List (Int × Tb)}, (tabs.map (·.1)).Nodup → (mapd tabs).Nodup
  | [], _ => .nil
  | q :: tabs, nk => by
    have nk := List.nodup_cons.mp nk
    show (((pgs q.2).map fun p => (q.1, p)) ++ mapd tabs).Nodup
    rw [List.nodup_append]
    refine ⟨?_, mapd_nodup nk.2, ?_⟩
    · unfold List.Nodup
      rw [List.pairwise_map]
      exact (pgs_sorted (f := q.2)).imp fun h e => by cases e; omega
    · intro a ha b hb e
      subst e
      obtain ⟨p, hp, rfl⟩ := List.mem_map.mp ha
      unfold mapd at hb
      rw [List.mem_flatMap] at hb
      obtain ⟨q2, hq2, h⟩ := hb
      obtain ⟨p2, hp2, e⟩ := List.mem_map.mp h
      have : q2.1 = q.1 := congrArg (fun z : Ow => z.1) e
      exact nk.1 (List.mem_map.mpr ⟨q2, hq2, this⟩)
theorem nodup_len {α : Type} [DecidableEq α] : ∀ {l m : List α}, l.Nodup → (∀ x ∈ l, x ∈ m) → l.length ≤ m.length
  | [], _, _, _ => Nat.zero_le _
  | x :: l, m, nd, h => by
    have nd := List.nodup_cons.mp nd
    have hx := h x (.head _)
    have := nodup_len (l := l) (m := m.erase x) nd.2 fun y hy => by
      have ne : y ≠ x := fun e => nd.1 (e ▸ hy)
      exact (List.mem_erase_of_ne ne).mpr (h y (.tail _ hy))
    rw [List.length_erase_of_mem hx] at this
    have := List.length_pos_of_mem hx
    simp only [List.length_cons]; omega
variable {tabs' : List (Int × Tb)}
theorem held_le (nk : (tabs.map (·.1)).Nodup) (d : domT tabs) (nk' : (tabs'.map (·.1)).Nodup) (d' : domT tabs') (h : ∀ o, (getT tabs o).isSome = true → (getT tabs' o).isSome = true) : heldT tabs ≤ heldT tabs' := by
  rw [heldT_len, heldT_len]
  exact nodup_len (mapd_nodup nk) fun o ho => (mapd_mem nk' d').mpr (h o ((mapd_mem nk d).mp ho))
theorem held_le1 (nk : (tabs.map (·.1)).Nodup) (d : domT tabs) (nk' : (tabs'.map (·.1)).Nodup) (d' : domT tabs') (h : ∀ o, (getT tabs o).isSome = true → o = o' ∨ (getT tabs' o).isSome = true) : heldT tabs ≤ heldT tabs' + 1 := by
  rw [heldT_len, heldT_len]
  have := nodup_len (m := o' :: mapd tabs') (mapd_nodup nk) fun o ho => by
    rcases h o ((mapd_mem nk d).mp ho) with e | e
    · exact e ▸ .head _
    · exact .tail _ ((mapd_mem nk' d').mpr e)
  simpa using this
theorem domT_up (d : domT tabs) (h : ∀ e, v = some e → 0 ≤ o.2 ∧ o.2 < 64) : domT (upT tabs o v) := by
  intro q hq p e he
  unfold upT at hq
  obtain ⟨q0, h0, rfl⟩ := List.mem_map.mp hq
  by_cases h1 : q0.1 = o.1
  · rw [if_pos h1] at he
    have he : upd1 q0.2 o.2 v p = some e := he
    unfold upd1 at he
    by_cases h2 : p = o.2
    · rw [if_pos h2] at he; rw [h2]; exact h e he
    · rw [if_neg h2] at he; exact d q0 h0 p e he
  · rw [if_neg h1] at he; exact d q0 h0 p e he
/-! ### pages on the way: X -/
structure PX (S : PS) (X : List Ow) : Prop extends WI S where
  o3 : ∀ o e, e ≠ .bl → getE S o = some e → o ∈ S.O e ∨ o ∈ X
  xd : ∀ e, e ≠ .bl → ∀ o ∈ S.O e, o ∉ X
  xn : X.Nodup
  xs : ∀ o ∈ X, (getE S o).isSome = true
theorem PI.px (P : PI S) : PX S [] := { P.toWI with o3 := fun o e h1 h2 => .inl (P.o3 o e h1 h2), xd := fun _ _ _ _ z => (by cases z), xn := List.Pairwise.nil, xs := fun _ z => (by cases z) }
theorem PX.pi (P : PX S []) : PI S := { P.toWI with o3 := fun o e h1 h2 => (P.o3 o e h1 h2).elim id fun z => (by cases z) }
theorem WI.len (W : WI S) (eb : e ≠ .bl) : (stE S e).own.length = (stE S e).cont.length := by
  cases e with
  | bl => exact (eb rfl).elim
  | fr n => exact W.lf.1.trans W.lf.2.symm
  | sl n => exact W.ls.1.trans W.ls.2.symm
/-- owners of one entry have no other -/
theorem WI.one (W : WI S) (h1 : e ≠ .bl) (h2 : e' ≠ .bl) (m1 : o ∈ S.O e) (m2 : o ∈ S.O e') : e = e' := by
  have a := W.o1 e h1 o m1
  have b := W.o1 e' h2 o m2
  rw [a] at b; exact Option.some.inj b
theorem WI.zero (W : WI S) (eb : e ≠ .bl) (z : (stE S e).own[e.n]? = some 0) : S.O e = [] := by
  have := W.cn e eb 0 z
  exact List.length_eq_zero_iff.mp (by omega)
theorem WI.cnt (W : WI S) (eb : e ≠ .bl) (z : S.O e ≠ []) : (stE S e).own[e.n]? = some ((S.O e).length : Int) := by
  have l := W.rg e eb z
  have h : (stE S e).own[e.n]? = some (stE S e).own[e.n] := by simp [l]
  rw [h, W.cn e eb _ h]
/-- frames and slots are not all taken while a page is on the way -/
theorem PX.room (P : PX S X) (x0 : X ≠ []) (n1 : noFree S.fs) : ¬ noFree S.ss := by
  intro n2
  obtain ⟨o, X', rfl⟩ : ∃ o X', X = o :: X' := by
    cases X with
    | nil => exact (x0 rfl).elim
    | cons o X' => exact ⟨o, X', rfl⟩
  have key : ∀ (mk : Nat → En) (N : Nat), (∀ n, mk n ≠ .bl) → (∀ a b, mk a = mk b → a = b) → (∀ n, n < N → 1 ≤ (S.O (mk n)).length) →
      ((List.range N).flatMap fun n => S.O (mk n)).Nodup ∧ N ≤ ((List.range N).flatMap fun n => S.O (mk n)).length := by
    intro mk N hb inj
    induction N with
    | zero => intro _; exact ⟨.nil, Nat.zero_le _⟩
    | succ N ih =>
      intro h
      obtain ⟨i1, i2⟩ := ih fun n hn => h n (by omega)
      have hN := h N (by omega)
      rw [List.range_succ, List.flatMap_append]
      simp only [List.flatMap_cons, List.flatMap_nil, List.append_nil, List.length_append]
      refine ⟨?_, by omega⟩
      rw [List.nodup_append]
      refine ⟨i1, P.o2 _ (hb N), ?_⟩
      intro a ha b hb2 e
      subst e
      rw [List.mem_flatMap] at ha
      obtain ⟨n, hn, hm⟩ := ha
      have := inj _ _ (P.toWI.one (hb n) (hb N) hm hb2)
      rw [List.mem_range] at hn; omega
  have one : ∀ (e : En) (l : Nat), e ≠ .bl → e.n < l → (stE S e).own.length = l → noFree (stE S e) → 1 ≤ (S.O e).length := by
    intro e l eb hl el nf
    have h : (stE S e).own[e.n]? = some (stE S e).own[e.n] := by simp [el, hl]
    have := P.cn e eb _ h
    have := nf _ (List.getElem_mem (h := by omega) : (stE S e).own[e.n] ∈ _)
    omega
  obtain ⟨a1, a2⟩ := key .fr S.frames (fun n h => by cases h) (fun a b h => by cases h; rfl) fun n hn => one (.fr n) S.frames (fun h => by cases h) hn P.lf.1 n1
  obtain ⟨b1, b2⟩ := key .sl S.slots (fun n h => by cases h) (fun a b h => by cases h; rfl) fun n hn => one (.sl n) S.slots (fun h => by cases h) hn P.ls.1 n2
  have mem : ∀ (mk : Nat → En) (N : Nat) x, (∀ n, mk n ≠ .bl) → x ∈ ((List.range N).flatMap fun n => S.O (mk n)) → ∃ n, mk n ≠ .bl ∧ x ∈ S.O (mk n) := by
    intro mk N x hb h
    rw [List.mem_flatMap] at h
    obtain ⟨n, _, hm⟩ := h
    exact ⟨n, hb n, hm⟩
  have nd : (o :: (((List.range S.frames).flatMap fun n => S.O (.fr n)) ++ ((List.range S.slots).flatMap fun n => S.O (.sl n)))).Nodup := by
    rw [List.nodup_cons]
    constructor
    · intro h
      rcases List.mem_append.mp h with h | h
      · obtain ⟨n, hb, hm⟩ := mem .fr _ _ (fun n h => by cases h) h
        exact P.xd _ hb _ hm (.head _)
      · obtain ⟨n, hb, hm⟩ := mem .sl _ _ (fun n h => by cases h) h
        exact P.xd _ hb _ hm (.head _)
    · rw [List.nodup_append]
      refine ⟨a1, b1, ?_⟩
      intro a ha b hb e
      subst e
      obtain ⟨n, hb1, hm1⟩ := mem .fr _ _ (fun n h => by cases h) ha
      obtain ⟨m, hb2, hm2⟩ := mem .sl _ _ (fun n h => by cases h) hb
      cases P.toWI.one hb1 hb2 hm1 hm2
  have len := nodup_len (m := mapd S.tabs) nd fun x hx => by
    rw [mapd_mem P.nk P.dom]
    rcases List.mem_cons.mp hx with rfl | hx
    · exact P.xs x (.head _)
    · rcases List.mem_append.mp hx with h | h
      · obtain ⟨n, hb, hm⟩ := mem .fr _ _ (fun n h => by cases h) h
        rw [← getE_T, P.o1 _ hb _ hm]; rfl
      · obtain ⟨n, hb, hm⟩ := mem .sl _ _ (fun n h => by cases h) h
        rw [← getE_T, P.o1 _ hb _ hm]; rfl
  have hl : heldT S.tabs ≤ S.frames + S.slots := P.hl
  rw [heldT_len] at hl
  simp only [List.length_cons, List.length_append] at len
  omega
end
section
variable {S S' T : PS} {o o' : Ow} {e e' : En} {X A : List Ow} {r : List Int} {Y : St}
structure Laid (S S' : PS) (e : En) (os : List Ow) : Prop where
  fs : S'.fs = S.fs
  ss : S'.ss = S.ss
  frames : S'.frames = S.frames
  slots : S'.slots = S.slots
  hand : S'.hand = S.hand
  keys : S'.tabs.map (·.1) = S.tabs.map (·.1)
  dom : domT S.tabs → domT S'.tabs
  get : ∀ o, getE S' o = if o ∈ os then some e else getE S o
  O : ∀ x, S'.O x = if x = e then S.O e ++ os else S.O x
theorem lay_O (eb : e ≠ .bl) (h : o ∉ S.O e) {x : En} : (layS S o e).O x = if x = e then S.O e ++ [o] else S.O x := by
  show (if e = .bl then S.O else addO S.O e o) x = _
  rw [if_neg eb]
  unfold addO
  rw [if_neg h]
theorem lay_all (eb : e ≠ .bl) : ∀ {os : List Ow} {S : PS}, (∀ o ∈ os, o.1 ∈ S.tabs.map (·.1) ∧ 0 ≤ o.2 ∧ o.2 < 64) → os.Nodup → (∀ o ∈ os, o ∉ S.O e) → Laid S (os.foldl (fun S o => layS S o e) S) e os
  | [], S, _, _, _ => ⟨rfl, rfl, rfl, rfl, rfl, rfl, id, fun o => by simp, fun x => by
    show S.O x = _
    split
    · next h => subst h; simp
    · rfl⟩
  | o :: os, S, h, nd, h2 => by
    have nd := List.nodup_cons.mp nd
    have ho := h o (.head _)
    have h3 := h2 o (.head _)
    have kk : (layS S o e).tabs.map (·.1) = S.tabs.map (·.1) := upT_keys
    have ih := lay_all eb (os := os) (S := layS S o e) (fun q hq => by rw [kk]; exact h q (.tail _ hq)) nd.2 (fun q hq => by
      rw [lay_O eb h3, if_pos rfl]
      intro hm
      rcases List.mem_append.mp hm with hm | hm
      · exact h2 q (.tail _ hq) hm
      · simp at hm; subst hm; exact nd.1 hq)
    refine ⟨ih.fs, ih.ss, ih.frames, ih.slots, ih.hand, ih.keys.trans kk, fun d => ih.dom (domT_up d fun _ _ => ho.2), fun q => ?_, fun x => ?_⟩
    · show getE (os.foldl (fun S o => layS S o e) (layS S o e)) q = _
      rw [ih.get, show getE (layS S o e) q = _ from getT_up ho.1]
      by_cases e1 : q = o
      · subst e1; simp
      · simp only [List.mem_cons, e1, if_false, false_or]; rfl
    · show (os.foldl (fun S o => layS S o e) (layS S o e)).O x = _
      rw [ih.O, lay_O eb h3, lay_O eb h3, if_pos rfl]
      by_cases e1 : x = e
      · simp [e1]
      · simp [e1]
def kd : En → Bool
  | .sl _ => true
  | _ => false
theorem stE_set : stE (setSt S e Y) e' = if kd e = kd e' then Y else stE S e' := by cases e <;> cases e' <;> rfl
theorem stE_kd (h : kd e = kd e') : stE S e' = stE S e := by cases e <;> cases e' <;> first | rfl | cases h
theorem kd_n (eb : e ≠ .bl) (eb' : e' ≠ .bl) (h : kd e = kd e') (n : e.n = e'.n) : e = e' := by
  cases e <;> cases e' <;> first | rfl | (exact (eb rfl).elim) | (exact (eb' rfl).elim) | (cases h; done) | (cases n; rfl)
theorem set_tabs : (setSt S e Y).tabs = S.tabs := by cases e <;> rfl
theorem set_O : (setSt S e Y).O = S.O := by cases e <;> rfl
theorem set_fr : (setSt S e Y).frames = S.frames := by cases e <;> rfl
theorem set_sl : (setSt S e Y).slots = S.slots := by cases e <;> rfl
theorem set_hd : (setSt S e Y).hand = S.hand := by cases e <;> rfl
structure Shape (S S' : PS) : Prop where
  lf : S'.fs.own.length = S.fs.own.length ∧ S'.fs.cont.length = S.fs.cont.length
  ls : S'.ss.own.length = S.ss.own.length ∧ S'.ss.cont.length = S.ss.cont.length
  c8 : (∀ r ∈ S'.fs.cont, r.length = 8) ∧ ∀ r ∈ S'.ss.cont, r.length = 8
theorem WI.c8e (W : WI S) : ∀ r ∈ (stE S e).cont, r.length = 8 := by
  cases e with
  | bl => exact W.c8.1
  | fr n => exact W.c8.1
  | sl n => exact W.c8.2
theorem set_shape (W : WI S) (l1 : Y.own.length = (stE S e).own.length) (l2 : Y.cont.length = (stE S e).cont.length) (l3 : ∀ r ∈ Y.cont, r.length = 8) : Shape S (setSt S e Y) := by
  cases e with
  | bl => exact ⟨⟨l1, l2⟩, ⟨rfl, rfl⟩, l3, W.c8.2⟩
  | fr n => exact ⟨⟨l1, l2⟩, ⟨rfl, rfl⟩, l3, W.c8.2⟩
  | sl n => exact ⟨⟨rfl, rfl⟩, ⟨l1, l2⟩, W.c8.1, l3⟩
theorem own_sett {l : List Int} {n : Nat} {k : Int} (h : n < l.length) : (l.set n 1).set n ((l.set n 1).getD n 0 + (k - 1)) = l.set n k := by
  rw [List.set_set]
  congr 1
  rw [List.getD_eq_getElem?_getD, List.getElem?_set_self h]
  simp; omega
theorem WI.bnd (W : WI S) (h : (getE S o).isSome = true) : o.1 ∈ S.tabs.map (·.1) ∧ 0 ≤ o.2 ∧ o.2 < 64 := by
  obtain ⟨e, he⟩ := Option.isSome_iff_exists.mp h
  exact ⟨getT_dom he, domT_get W.dom he⟩
/-- what a settling leaves -/
structure Moved (S S' : PS) (e : En) (A : List Ow) : Prop where
  frames : S'.frames = S.frames
  slots : S'.slots = S.slots
  hand : S'.hand = S.hand
  keys : S'.tabs.map (·.1) = S.tabs.map (·.1)
  get : ∀ o, getE S' o = if o ∈ A then some e else getE S o
theorem sett_px (P : PX S (A ++ X)) (eb : e ≠ .bl) (z : (stE S e).own[e.n]? = some 0) (a0 : A ≠ []) (r8 : r.length = 8) : PX (settS (takeS S e) e r A) X ∧ Moved S (settS (takeS S e) e r A) e A ∧ (settS (takeS S e) e r A).fs.own = (if kd e then S.fs.own else S.fs.own.set e.n A.length) := by
  have nl : e.n < (stE S e).own.length := (List.getElem?_eq_some_iff.mp z).1
  have Oe := P.toWI.zero eb z
  have nA := List.nodup_append.mp P.xn
  have iA : ∀ o ∈ A, (getE S o).isSome = true := fun o ho => P.xs o (List.mem_append_left _ ho)
  let Y : St := ⟨(stE S e).own.set e.n A.length, ((stE S e).cont.set e.n (List.replicate 8 0)).set e.n r⟩
  have hT : setSt (takeS S e) e (addN (putN (stE (takeS S e) e) e.n r) e.n (A.length - 1)) = setSt S e Y := by
    have h1 : stE (takeS S e) e = takeN (stE S e) e.n := by unfold takeS; rw [stE_set, if_pos rfl]
    rw [h1]
    have h2 : addN (putN (takeN (stE S e) e.n) e.n r) e.n (A.length - 1) = Y := by
      show (⟨_, _⟩ : St) = ⟨_, _⟩
      rw [own_sett nl]
    rw [h2]
    unfold takeS
    cases e <;> rfl
  have L : Laid (setSt S e Y) (settS (takeS S e) e r A) e A := by
    unfold settS
    rw [hT]
    refine lay_all eb (fun o ho => ?_) nA.1 fun o ho => ?_
    · rw [set_tabs]; exact P.toWI.bnd (iA o ho)
    · rw [set_O, Oe]; intro z; cases z
  generalize settS (takeS S e) e r A = S' at L ⊢
  have sh : Shape S (setSt S e Y) := set_shape P.toWI (by simp [Y]) (by simp [Y]) fun q hq => by
    rcases List.mem_or_eq_of_mem_set hq with h | rfl
    · rcases List.mem_or_eq_of_mem_set h with h | rfl
      · exact P.toWI.c8e q h
      · rfl
    · exact r8
  have keys : S'.tabs.map (·.1) = S.tabs.map (·.1) := by rw [L.keys, set_tabs]
  have get : ∀ o, getE S' o = if o ∈ A then some e else getE S o := fun o => by rw [L.get, getE_T, set_tabs]; rfl
  have O : ∀ x, S'.O x = if x = e then A else S.O x := fun x => by rw [L.O, set_O, Oe]; rfl
  have st : ∀ x, stE S' x = if kd e = kd x then Y else stE S x := fun x => by
    rw [← stE_set]
    cases x <;> first | exact L.fs | exact L.ss
  have dom : domT S'.tabs := L.dom (by rw [set_tabs]; exact P.dom)
  have nk : okTab S' := by unfold okTab; rw [keys]; exact P.nk
  have isS : ∀ o, (getE S' o).isSome = (getE S o).isSome := fun o => by
    rw [get]
    split
    · next h => rw [iA o h]; rfl
    · rfl
  have len : ∀ x, (stE S' x).own.length = (stE S x).own.length := fun x => by
    rw [st]
    split
    · next h => rw [stE_kd h]; simp [Y]
    · rfl
  refine ⟨{ nk := nk, dom := dom, lf := ?_, ls := ?_, fb := ?_, c8 := ?_, o1 := ?_, o2 := ?_, cn := ?_, rg := ?_, hd := ?_, hl := ?_, o3 := ?_, xd := ?_, xn := nA.2.1, xs := fun o ho => by rw [isS]; exact P.xs o (List.mem_append_right _ ho) }, ⟨by rw [L.frames, set_fr], by rw [L.slots, set_sl], by rw [L.hand, set_hd], keys, get⟩, ?_⟩
  · rw [L.fs, L.frames, set_fr, sh.lf.1, sh.lf.2]; exact P.lf
  · rw [L.ss, L.slots, set_sl, sh.ls.1, sh.ls.2]; exact P.ls
  · rw [L.frames, L.slots, set_fr, set_sl]; exact P.fb
  · rw [L.fs, L.ss]; exact sh.c8
  · intro x xb o ho
    rw [O] at ho
    rw [get]
    by_cases h : x = e
    · rw [if_pos h] at ho; rw [if_pos ho, h]
    · rw [if_neg h] at ho
      rw [if_neg fun ha => P.xd x xb o ho (List.mem_append_left _ ha)]
      exact P.o1 x xb o ho
  · intro x xb
    rw [O]
    split
    · exact nA.1
    · exact P.o2 x xb
  · intro x xb c hc
    rw [st] at hc
    rw [O]
    by_cases h : kd e = kd x
    · rw [if_pos h] at hc
      by_cases h2 : e.n = x.n
      · cases kd_n eb xb h h2
        rw [if_pos rfl]
        simp only [Y] at hc
        rw [List.getElem?_set_self nl] at hc
        exact (Option.some.inj hc).symm
      · rw [if_neg (by rintro rfl; exact h2 rfl)]
        simp only [Y] at hc
        rw [List.getElem?_set_ne h2, ← stE_kd h] at hc
        exact P.cn x xb c hc
    · rw [if_neg h] at hc
      rw [if_neg (by rintro rfl; exact h rfl)]
      exact P.cn x xb c hc
  · intro x xb hx
    rw [len]
    rw [O] at hx
    by_cases h : x = e
    · rw [h]; exact nl
    · rw [if_neg h] at hx; exact P.rg x xb hx
  · rw [L.hand, L.frames, set_hd, set_fr]; exact P.hd
  · have := held_le nk dom P.nk P.dom fun o ho => by rw [← getE_T, ← isS]; exact ho
    have h2 : heldT S.tabs ≤ S.frames + S.slots := P.hl
    rw [L.frames, L.slots, set_fr, set_sl]
    exact Nat.le_trans this h2
  · intro o x xb h
    rw [get] at h
    rw [O]
    by_cases ha : o ∈ A
    · rw [if_pos ha] at h; cases h; rw [if_pos rfl]; exact .inl ha
    · rw [if_neg ha] at h
      rcases P.o3 o x xb h with h3 | h3
      · rw [if_neg]
        · exact .inl h3
        · rintro rfl; rw [Oe] at h3; cases h3
      · rcases List.mem_append.mp h3 with h3 | h3
        · exact (ha h3).elim
        · exact .inr h3
  · intro x xb o ho hX
    rw [O] at ho
    by_cases h : x = e
    · rw [if_pos h] at ho; exact nA.2.2 o ho o hX rfl
    · rw [if_neg h] at ho; exact P.xd x xb o ho (List.mem_append_right _ hX)
  · rw [L.fs]
    cases e with
    | bl => exact (eb rfl).elim
    | fr n => rfl
    | sl n => rfl
end
section
variable {S S' T : PS} {o o' : Ow} {e e' : En} {X A : List Ow} {r : List Int} {Y : St} {n m : Nat} {t : Int}
/-- only owners' counts and lists change, the pages stay -/
structure Kept (S S' : PS) : Prop where
  tabs : S'.tabs = S.tabs
  frames : S'.frames = S.frames
  slots : S'.slots = S.slots
theorem Kept.get (k : Kept S S') : getE S' o = getE S o := by rw [getE_T, getE_T, k.tabs]
/-- one count changes, and its list -/
theorem cut_px (P : PX S X) (eb : e ≠ .bl) {O' : List Ow} {c : Int} {B : List Ow} (hl : e.n < (stE S e).own.length) (hc : c = O'.length) (sub : ∀ o ∈ O', o ∈ S.O e) (nd : O'.Nodup) (hB : ∀ o ∈ S.O e, o ∈ O' ∨ o ∈ B) (hBs : ∀ o ∈ B, o ∈ S.O e ∧ o ∉ O') (nB : B.Nodup)
    {S' : PS} (k : Kept S S') (hd : 0 ≤ S'.hand ∧ S'.hand < S.frames) (sO : ∀ x, S'.O x = if x = e then O' else S.O x) (sS : ∀ x, stE S' x = if kd e = kd x then (⟨(stE S e).own.set e.n c, (stE S e).cont⟩ : St) else stE S x) : PX S' (B ++ X) := by
  have get : ∀ o, getE S' o = getE S o := fun o => k.get
  have len : ∀ x, (stE S' x).own.length = (stE S x).own.length := fun x => by
    rw [sS]
    split
    · next h => rw [stE_kd h]; simp
    · rfl
  have cont : ∀ x, (stE S' x).cont = (stE S x).cont := fun x => by
    rw [sS]
    split
    · next h => rw [stE_kd h]
    · rfl
  have c1 := cont (.fr 0)
  have c2 := cont (.sl 0)
  have l1 := len (.fr 0)
  have l2 := len (.sl 0)
  refine { nk := by unfold okTab; rw [k.tabs]; exact P.nk, dom := by rw [k.tabs]; exact P.dom, lf := ?_, ls := ?_, fb := by rw [k.frames, k.slots]; exact P.fb, c8 := ?_, o1 := ?_, o2 := ?_, cn := ?_, rg := ?_, hd := by rw [k.frames]; exact hd, hl := by rw [k.tabs, k.frames, k.slots]; exact P.hl, o3 := ?_, xd := ?_, xn := ?_, xs := ?_ }
  · rw [k.frames]; exact ⟨l1.trans P.lf.1, (congrArg List.length c1).trans P.lf.2⟩
  · rw [k.slots]; exact ⟨l2.trans P.ls.1, (congrArg List.length c2).trans P.ls.2⟩
  · exact ⟨fun r hr => P.c8.1 r (c1 ▸ hr), fun r hr => P.c8.2 r (c2 ▸ hr)⟩
  · intro x xb o ho
    rw [sO] at ho
    rw [get]
    by_cases h : x = e
    · rw [if_pos h] at ho; subst h; exact P.o1 x xb o (sub o ho)
    · rw [if_neg h] at ho; exact P.o1 x xb o ho
  · intro x xb
    rw [sO]
    split
    · exact nd
    · exact P.o2 x xb
  · intro x xb d hx
    rw [sS] at hx
    rw [sO]
    by_cases h : kd e = kd x
    · rw [if_pos h] at hx
      by_cases h2 : e.n = x.n
      · cases kd_n eb xb h h2
        rw [if_pos rfl, ← hc]
        have hx : ((stE S e).own.set e.n c)[e.n]? = some d := hx
        rw [List.getElem?_set_self hl] at hx
        exact (Option.some.inj hx).symm
      · rw [if_neg (by rintro rfl; exact h2 rfl)]
        have hx : ((stE S e).own.set e.n c)[x.n]? = some d := hx
        rw [List.getElem?_set_ne h2, ← stE_kd h] at hx
        exact P.cn x xb d hx
    · rw [if_neg h] at hx
      rw [if_neg (by rintro rfl; exact h rfl)]
      exact P.cn x xb d hx
  · intro x xb hx
    rw [len]
    rw [sO] at hx
    by_cases h : x = e
    · rw [h]; exact hl
    · rw [if_neg h] at hx; exact P.rg x xb hx
  · intro q x xb h
    rw [get] at h
    rw [sO]
    rcases P.o3 q x xb h with h3 | h3
    · by_cases hx : x = e
      · rw [if_pos hx]
        subst hx
        rcases hB q h3 with h4 | h4
        · exact .inl h4
        · exact .inr (List.mem_append_left _ h4)
      · rw [if_neg hx]; exact .inl h3
    · exact .inr (List.mem_append_right _ h3)
  · intro x xb q hq hX
    rw [sO] at hq
    rcases List.mem_append.mp hX with hX | hX
    · by_cases hx : x = e
      · rw [if_pos hx] at hq; exact (hBs q hX).2 hq
      · rw [if_neg hx] at hq; exact hx (P.toWI.one xb eb hq (hBs q hX).1)
    · by_cases hx : x = e
      · rw [if_pos hx] at hq; exact P.xd e eb q (sub q hq) hX
      · rw [if_neg hx] at hq; exact P.xd x xb q hq hX
  · rw [List.nodup_append]
    refine ⟨nB, P.xn, ?_⟩
    intro a ha b hb h
    subst h
    exact P.xd e eb a (hBs a ha).1 hb
  · intro q hq
    rw [get]
    rcases List.mem_append.mp hq with h | h
    · rw [P.o1 e eb q (hBs q h).1]; rfl
    · exact P.xs q h
theorem lift_px (P : PX S X) (eb : e ≠ .bl) (h : S.O e ≠ []) {d : Int} (hd : 0 ≤ d ∧ d < S.frames) : PX { liftS S e with hand := d } (S.O e ++ X) ∧ (stE (liftS S e) e).own[e.n]? = some 0 ∧ Kept S (liftS S e) := by
  have hl := P.rg e eb h
  have cc := P.toWI.cnt eb h
  have e0 : (stE S e).own.getD e.n 0 + -((S.O e).length : Int) = 0 := by
    rw [List.getD_eq_getElem?_getD, cc]; simp; omega
  refine ⟨cut_px (O' := []) (c := 0) (B := S.O e) P eb hl rfl (fun o h => by cases h) .nil (fun o h => .inr h) (fun o h => ⟨h, fun z => by cases z⟩) (P.o2 e eb) ⟨?_, ?_, ?_⟩ hd (fun x => rfl) (fun x => ?_), ?_, ?_, ?_, ?_⟩
  · exact set_tabs
  · exact set_fr
  · exact set_sl
  · show stE (setSt S e (addN (stE S e) e.n (-(S.O e).length))) x = _
    rw [stE_set]
    show (if kd e = kd x then (⟨(stE S e).own.set e.n ((stE S e).own.getD e.n 0 + -((S.O e).length : Int)), (stE S e).cont⟩ : St) else stE S x) = _
    rw [e0]
  · show (stE (setSt S e (addN (stE S e) e.n (-(S.O e).length))) e).own[e.n]? = _
    rw [stE_set, if_pos rfl]
    show ((stE S e).own.set e.n ((stE S e).own.getD e.n 0 + -((S.O e).length : Int)))[e.n]? = some 0
    rw [e0, List.getElem?_set_self hl]
  · exact set_tabs
  · exact set_fr
  · exact set_sl
theorem noFree_O (W : WI S) (n1 : noFree S.fs) (hn : n < S.frames) : S.O (.fr n) ≠ [] := by
  intro h
  have l : n < S.fs.own.length := by rw [W.lf.1]; exact hn
  have e : S.fs.own[n]? = some S.fs.own[n] := by simp [l]
  have := W.cn (.fr n) (fun z => by cases z) _ e
  rw [h] at this
  exact n1 _ (List.getElem_mem l) this
theorem out_px (P : PX S X) (n1 : noFree S.fs) (h : S.ss.own[m]? = some 0) : PX (outS S m) X ∧ (outS S m).frames = S.frames ∧ (outS S m).slots = S.slots ∧ (outS S m).tabs.map (·.1) = S.tabs.map (·.1) ∧ (∀ o, (getE (outS S m) o).isSome = (getE S o).isSome) ∧ (outS S m).fs.own[S.hand.toNat]? = some 0 ∧
    ∀ o, getE S o = some .bl → getE (outS S m) o = some .bl := by
  have hh := P.hd
  have hO := noFree_O P.toWI n1 (n := S.hand.toNat) (by omega)
  have fb := P.fb
  have h0 : 0 < (S.frames : Int) := by omega
  have hd2 : 0 ≤ (S.hand + 1) % (S.frames : Int) ∧ (S.hand + 1) % (S.frames : Int) < S.frames := ⟨Int.emod_nonneg _ (by omega), Int.emod_lt_of_pos _ h0⟩
  obtain ⟨P1, z1, k1⟩ := lift_px (e := .fr S.hand.toNat) P (fun z => by cases z) hO hd2
  have r8 : (S.fs.cont.getD S.hand.toNat []).length = 8 := by
    have l : S.hand.toNat < S.fs.cont.length := by rw [P.lf.2]; omega
    rw [List.getD_eq_getElem?_getD, List.getElem?_eq_getElem l]
    exact P.c8.1 _ (List.getElem_mem l)
  obtain ⟨P2, M, ef⟩ := sett_px (e := .sl m) (A := S.O (.fr S.hand.toNat)) (X := X) (S := { liftS S (.fr S.hand.toNat) with hand := (S.hand + 1) % (S.frames : Int) }) (r := S.fs.cont.getD S.hand.toNat []) P1 (fun z => by cases z) h hO r8
  have get : ∀ o, getE (outS S m) o = if o ∈ S.O (.fr S.hand.toNat) then some (.sl m) else getE S o := fun o => (M.get o).trans (by
    congr 1)
  refine ⟨P2, M.frames.trans k1.frames, M.slots.trans k1.slots, M.keys.trans (congrArg (List.map (·.1)) k1.tabs), fun o => ?_, ?_, fun o ho => ?_⟩
  · rw [get]
    split
    · next ho => rw [P.o1 _ (fun z => by cases z) o ho]; rfl
    · rfl
  · show (outS S m).fs.own[S.hand.toNat]? = some 0
    rw [show (outS S m).fs.own = _ from ef]
    exact z1
  · rw [get, if_neg]
    · exact ho
    · intro hm
      rw [P.o1 _ (fun z => by cases z) o hm] at ho
      cases ho
theorem leave_px (P : PX S X) (h : getE S o = some e) (hx : o ∉ X) : PX (leaveS S o e) (o :: X) ∧ Kept S (leaveS S o e) ∧ (e ≠ .bl → taken S e ∧ o ∈ S.O e) := by
  by_cases eb : e = .bl
  · unfold leaveS
    rw [if_pos eb]
    refine ⟨{ P with o3 := fun q x xb hq => (P.o3 q x xb hq).imp id (.tail _), xd := fun x xb q hq hX => ?_, xn := List.nodup_cons.mpr ⟨hx, P.xn⟩, xs := fun q hq => ?_ }, ⟨rfl, rfl, rfl⟩, fun z => (z eb).elim⟩
    · rcases List.mem_cons.mp hX with rfl | hX
      · rw [P.o1 x xb q hq] at h; cases h; exact xb eb
      · exact P.xd x xb q hq hX
    · rcases List.mem_cons.mp hq with rfl | hq
      · rw [h]; rfl
      · exact P.xs q hq
  · have ho : o ∈ S.O e := (P.o3 o e eb h).resolve_right hx
    have ne : S.O e ≠ [] := List.ne_nil_of_mem ho
    have hl := P.rg e eb ne
    have cc := P.toWI.cnt eb ne
    have nd := P.o2 e eb
    have fl : (S.O e).filter (fun z => decide (z ≠ o)) = (S.O e).erase o := by
      rw [nd.erase_eq_filter]
      apply List.filter_congr
      intro x _
      by_cases hx : x = o <;> simp [hx]
    have len : ((S.O e).filter (fun z => decide (z ≠ o))).length = (S.O e).length - 1 := by rw [fl, List.length_erase_of_mem ho]
    have pos := List.length_pos_of_mem ho
    have k : Kept S (leaveS S o e) := by
      unfold leaveS
      rw [if_neg eb]
      exact ⟨set_tabs, set_fr, set_sl⟩
    refine ⟨cut_px (O' := (S.O e).filter (fun z => decide (z ≠ o))) (c := (S.O e).length - 1) (B := [o]) P eb hl (by rw [len]; omega) (fun q hq => (List.mem_filter.mp hq).1) (nd.filter _) (fun q hq => ?_) (fun q hq => ?_) (by simp) k ?_ (fun x => ?_) (fun x => ?_), k, fun _ => ⟨⟨_, cc, by omega⟩, ho⟩⟩
    · by_cases hx : q = o
      · exact .inr (by simp [hx])
      · exact .inl (List.mem_filter.mpr ⟨hq, by simpa using hx⟩)
    · simp at hq; subst hq; exact ⟨ho, by simp⟩
    · unfold leaveS; rw [if_neg eb]
      show 0 ≤ (setSt S e _).hand ∧ _
      rw [set_hd]; exact P.hd
    · unfold leaveS; rw [if_neg eb]; rfl
    · unfold leaveS; rw [if_neg eb]
      show stE (setSt S e (addN (stE S e) e.n (-1))) x = _
      rw [stE_set]
      show (if kd e = kd x then (⟨(stE S e).own.set e.n ((stE S e).own.getD e.n 0 + -1), (stE S e).cont⟩ : St) else stE S x) = _
      rw [List.getD_eq_getElem?_getD, cc]
      rfl
/-- pages told of no more -/
theorem gone_px (P : PX S X) {tabs : List (Int × Tb)} (nk : (tabs.map (·.1)).Nodup) (d : domT tabs) (g : ∀ o, getT tabs o = getE S o ∨ (getT tabs o = none ∧ ((getE S o).isSome = true → o ∈ X))) {X' : List Ow} (hX : ∀ o, o ∈ X → o ∈ X' ∨ getT tabs o = none) (hX2 : ∀ o ∈ X', o ∈ X ∧ (getT tabs o).isSome = true) (nX : X'.Nodup) : PX { S with tabs := tabs } X' := by
  refine { P with nk := nk, dom := d, o1 := ?_, hl := ?_, o3 := ?_, xd := fun x xb q hq h => P.xd x xb q hq (hX2 q h).1, xn := nX, xs := fun q hq => (hX2 q hq).2 }
  · intro x xb q hq
    have a := P.o1 x xb q hq
    show getT tabs q = some x
    rcases g q with h | ⟨h, h2⟩
    · rw [h]; exact a
    · exact (P.xd x xb q hq (h2 (by rw [a]; rfl))).elim
  · refine Nat.le_trans (held_le nk d P.nk P.dom fun q hq => ?_) P.hl
    rcases g q with h | ⟨h, h2⟩
    · rw [h] at hq; exact hq
    · rw [h] at hq; cases hq
  · intro q x xb hq
    have hq : getT tabs q = some x := hq
    rcases g q with h | ⟨h, h2⟩
    · rw [h] at hq
      rcases P.o3 q x xb hq with h3 | h3
      · exact .inl h3
      · rcases hX q h3 with h4 | h4
        · exact .inr h4
        · rw [h4] at h; rw [← h] at hq; cases hq
    · rw [h] at hq; cases hq
theorem clear_px (P : PX S (o :: X)) : PX { S with tabs := upT S.tabs o none } X := by
  have hk := (P.toWI.bnd (P.xs o (.head _))).1
  have nX := List.nodup_cons.mp P.xn
  have g : ∀ q, getT (upT S.tabs o none) q = if q = o then none else getE S q := fun q => getT_up hk
  refine gone_px P (by rw [upT_keys]; exact P.nk) (domT_up P.dom fun e h => by cases h) (fun q => ?_) (fun q hq => ?_) (fun q hq => ?_) nX.2
  · rw [g]
    by_cases h : q = o
    · rw [if_pos h]; exact .inr ⟨rfl, fun _ => h ▸ .head _⟩
    · rw [if_neg h]; exact .inl rfl
  · rw [g]
    rcases List.mem_cons.mp hq with rfl | hq
    · rw [if_pos rfl]; exact .inr rfl
    · exact .inl hq
  · rw [g, if_neg (by rintro rfl; exact nX.1 hq)]
    exact ⟨.tail _ hq, P.xs q (.tail _ hq)⟩
theorem pop_px (P : PX S X) {i : Nat} {f : Tb} (h : S.tabs[i]? = some (t, f)) (hX : ∀ o ∈ X, o.1 = t) (hA : ∀ p, (getE S (t, p)).isSome = true → (t, p) ∈ X) : PX { S with tabs := S.tabs.eraseIdx i } [] ∧ ∀ o, o.1 ≠ t → getE { S with tabs := S.tabs.eraseIdx i } o = getE S o := by
  have g : ∀ q : Ow, getT (S.tabs.eraseIdx i) q = if q.1 = t then none else getE S q := fun q => by
    unfold getT
    rw [ag_erase P.nk h]
    by_cases e : q.1 = t
    · rw [if_pos e, if_pos e]; rfl
    · rw [if_neg e, if_neg e]; rfl
  refine ⟨gone_px P (P.nk.sublist (List.Sublist.map _ (List.eraseIdx_sublist ..))) (fun q hq => P.dom q ((List.eraseIdx_sublist ..).subset hq)) (fun q => ?_) (fun q hq => ?_) (fun q hq => by cases hq) .nil, fun q hq => ?_⟩
  · rw [g]
    by_cases e : q.1 = t
    · rw [if_pos e]; exact .inr ⟨rfl, fun z => by obtain ⟨a, b⟩ := q; cases e; exact hA b z⟩
    · rw [if_neg e]; exact .inl rfl
  · rw [g, if_pos (hX q hq)]; exact .inr rfl
  · exact (g q).trans (if_neg hq)
theorem born_px (P : PX S X) (h : t ∉ S.tabs.map (·.1)) : PX (bornS S t) X ∧ ∀ o, getE (bornS S t) o = getE S o := by
  have g : ∀ q : Ow, getT (S.tabs ++ [(t, fun _ => none)]) q = getE S q := fun q => by
    unfold getT
    rw [ag_app h]
    by_cases e : q.1 = t
    · rw [if_pos e, getE_T]
      unfold getT
      rw [e, ag_none h]; rfl
    · rw [if_neg e]; rfl
  refine ⟨gone_px P ?_ (fun q hq p e he => ?_) (fun q => .inl (g q)) (fun q hq => .inl hq) (fun q hq => ⟨hq, by rw [g]; exact P.xs q hq⟩) P.xn, g⟩
  · rw [List.map_append, List.nodup_append]
    refine ⟨P.nk, by simp, ?_⟩
    intro a ha b hb e
    simp at hb
    subst hb e
    exact h ha
  · rcases List.mem_append.mp hq with z | z
    · exact P.dom q z p e he
    · simp at z; subst z; cases he
/-- one page more lies at a place -/
theorem share_px (P : PX S []) (hk : o.1 ∈ S.tabs.map (·.1)) (hb : 0 ≤ o.2 ∧ o.2 < 64) (hn : getE S o = none) (room : heldT S.tabs + 1 ≤ S.frames + S.slots) (he : e ≠ .bl → S.O e ≠ []) :
    PX (shareS S o e) [] ∧ heldT (shareS S o e).tabs ≤ heldT S.tabs + 1 ∧ (∀ q, getE (shareS S o e) q = if q = o then some e else getE S q) ∧ (shareS S o e).tabs.map (·.1) = S.tabs.map (·.1) ∧ (shareS S o e).frames = S.frames ∧ (shareS S o e).slots = S.slots ∧ (e ≠ .bl → taken S e) := by
  have tb : (shareS S o e).tabs = upT S.tabs o (some e) := by
    unfold shareS layS
    split
    · rfl
    · show upT (setSt S e _).tabs o (some e) = _; rw [set_tabs]
  have fr : (shareS S o e).frames = S.frames := by
    unfold shareS layS
    split
    · rfl
    · exact set_fr
  have sl : (shareS S o e).slots = S.slots := by
    unfold shareS layS
    split
    · rfl
    · exact set_sl
  have hh : (shareS S o e).hand = S.hand := by
    unfold shareS layS
    split
    · rfl
    · exact set_hd
  have get : ∀ q, getE (shareS S o e) q = if q = o then some e else getE S q := fun q => by rw [getE_T, tb]; exact getT_up hk
  have nk : ((shareS S o e).tabs.map (·.1)).Nodup := by rw [tb, upT_keys]; exact P.nk
  have dom : domT (shareS S o e).tabs := by rw [tb]; exact domT_up P.dom fun _ _ => hb
  have held : heldT (shareS S o e).tabs ≤ heldT S.tabs + 1 := held_le1 (o' := o) nk dom P.nk P.dom fun q hq => by
    rw [← getE_T, get] at hq
    by_cases h : q = o
    · exact .inl h
    · rw [if_neg h] at hq; exact .inr hq
  have oO : ∀ x, x ≠ .bl → o ∉ S.O x := fun x xb h => by rw [P.o1 x xb o h] at hn; cases hn
  refine ⟨?_, held, get, by rw [tb, upT_keys], fr, sl, fun eb => ⟨_, P.toWI.cnt eb (he eb), by have := List.length_pos_iff.mpr (he eb); omega⟩⟩
  by_cases eb : e = .bl
  · have sO : (shareS S o e).O = S.O := by unfold shareS layS; rw [if_pos eb]; exact if_pos eb
    have sS : ∀ x, stE (shareS S o e) x = stE S x := fun x => by unfold shareS layS; rw [if_pos eb]; cases x <;> rfl
    have c1 := sS (.fr 0)
    have c2 := sS (.sl 0)
    refine { nk := nk, dom := dom, lf := ?_, ls := ?_, fb := by rw [fr, sl]; exact P.fb, c8 := ?_, o1 := ?_, o2 := fun x xb => by rw [sO]; exact P.o2 x xb, cn := fun x xb => by rw [sO, sS]; exact P.cn x xb, rg := fun x xb => by rw [sO, sS]; exact P.rg x xb, hd := by rw [hh, fr]; exact P.hd, hl := by rw [fr, sl]; exact Nat.le_trans held room, o3 := ?_, xd := fun _ _ _ _ z => (by cases z), xn := .nil, xs := fun _ z => (by cases z) }
    · rw [fr, show (shareS S o e).fs = S.fs from c1]; exact P.lf
    · rw [sl, show (shareS S o e).ss = S.ss from c2]; exact P.ls
    · rw [show (shareS S o e).fs = S.fs from c1, show (shareS S o e).ss = S.ss from c2]; exact P.c8
    · intro x xb q hq
      rw [sO] at hq
      rw [get, if_neg (by rintro rfl; exact oO x xb hq)]
      exact P.o1 x xb q hq
    · intro q x xb hq
      rw [get] at hq
      rw [sO]
      by_cases h : q = o
      · rw [if_pos h] at hq; cases hq; exact (xb eb).elim
      · rw [if_neg h] at hq; exact P.o3 q x xb hq
  · have sO : ∀ x, (shareS S o e).O x = if x = e then S.O e ++ [o] else S.O x := fun x => by
      unfold shareS
      rw [if_neg eb, lay_O eb (by rw [set_O]; exact oO e eb), set_O]
    have sS : ∀ x, stE (shareS S o e) x = if kd e = kd x then addN (stE S e) e.n 1 else stE S x := fun x => by
      unfold shareS
      rw [if_neg eb, ← stE_set]
      cases x <;> rfl
    have hl := P.rg e eb (he eb)
    have cc := P.toWI.cnt eb (he eb)
    have len : ∀ x, (stE (shareS S o e) x).own.length = (stE S x).own.length := fun x => by
      rw [sS]
      split
      · next h => rw [stE_kd h]; simp
      · rfl
    have cont : ∀ x, (stE (shareS S o e) x).cont = (stE S x).cont := fun x => by
      rw [sS]
      split
      · next h => rw [stE_kd h]
      · rfl
    have c1 := cont (.fr 0)
    have c2 := cont (.sl 0)
    have l1 := len (.fr 0)
    have l2 := len (.sl 0)
    refine { nk := nk, dom := dom, lf := ?_, ls := ?_, fb := by rw [fr, sl]; exact P.fb, c8 := ?_, o1 := ?_, o2 := ?_, cn := ?_, rg := ?_, hd := by rw [hh, fr]; exact P.hd, hl := by rw [fr, sl]; exact Nat.le_trans held room, o3 := ?_, xd := fun _ _ _ _ z => (by cases z), xn := .nil, xs := fun _ z => (by cases z) }
    · rw [fr]; exact ⟨l1.trans P.lf.1, (congrArg List.length c1).trans P.lf.2⟩
    · rw [sl]; exact ⟨l2.trans P.ls.1, (congrArg List.length c2).trans P.ls.2⟩
    · exact ⟨fun r hr => P.c8.1 r (c1 ▸ hr), fun r hr => P.c8.2 r (c2 ▸ hr)⟩
    · intro x xb q hq
      rw [sO] at hq
      rw [get]
      by_cases h : x = e
      · rw [if_pos h] at hq
        subst h
        rcases List.mem_append.mp hq with hm | hm
        · rw [if_neg (by rintro rfl; exact oO x xb hm)]; exact P.o1 x xb q hm
        · simp at hm; rw [if_pos hm]
      · rw [if_neg h] at hq
        rw [if_neg (by rintro rfl; exact oO x xb hq)]; exact P.o1 x xb q hq
    · intro x xb
      rw [sO]
      split
      · rw [List.nodup_append]
        refine ⟨P.o2 e eb, by simp, ?_⟩
        intro a ha b hb e2
        simp at hb
        subst hb e2
        exact oO e eb ha
      · exact P.o2 x xb
    · intro x xb c hc
      rw [sS] at hc
      rw [sO]
      by_cases h : kd e = kd x
      · rw [if_pos h] at hc
        by_cases h2 : e.n = x.n
        · cases kd_n eb xb h h2
          rw [if_pos rfl]
          have hc : ((stE S e).own.set e.n ((stE S e).own.getD e.n 0 + 1))[e.n]? = some c := hc
          rw [List.getElem?_set_self hl, List.getD_eq_getElem?_getD, cc] at hc
          simp at hc
          simp; omega
        · rw [if_neg (by rintro rfl; exact h2 rfl)]
          have hc : ((stE S e).own.set e.n ((stE S e).own.getD e.n 0 + 1))[x.n]? = some c := hc
          rw [List.getElem?_set_ne h2, ← stE_kd h] at hc
          exact P.cn x xb c hc
      · rw [if_neg h] at hc
        rw [if_neg (by rintro rfl; exact h rfl)]
        exact P.cn x xb c hc
    · intro x xb hx
      rw [len]
      rw [sO] at hx
      by_cases h : x = e
      · rw [h]; exact hl
      · rw [if_neg h] at hx; exact P.rg x xb hx
    · intro q x xb hq
      rw [get] at hq
      rw [sO]
      by_cases h : q = o
      · rw [if_pos h] at hq
        cases hq
        rw [if_pos rfl]
        exact .inl (List.mem_append_right _ (by simp [h]))
      · rw [if_neg h] at hq
        by_cases h2 : x = e
        · rw [if_pos h2]
          exact (P.o3 q x xb hq).imp (fun z => List.mem_append_left _ (h2 ▸ z)) id
        · rw [if_neg h2]; exact P.o3 q x xb hq
theorem put_px (P : PX S X) (r8 : r.length = 8) : PX (setSt S e (putN (stE S e) e.n r)) X := by
  have sh : Shape S (setSt S e (putN (stE S e) e.n r)) := set_shape P.toWI rfl (by simp) fun q hq => by
    rcases List.mem_or_eq_of_mem_set hq with h | rfl
    · exact P.toWI.c8e q h
    · exact r8
  have own : ∀ x, (stE (setSt S e (putN (stE S e) e.n r)) x).own = (stE S x).own := fun x => by
    rw [stE_set]
    split
    · next h => rw [stE_kd h]
    · rfl
  refine { nk := by unfold okTab; rw [set_tabs]; exact P.nk, dom := by rw [set_tabs]; exact P.dom, lf := by rw [set_fr, sh.lf.1, sh.lf.2]; exact P.lf, ls := by rw [set_sl, sh.ls.1, sh.ls.2]; exact P.ls, fb := by rw [set_fr, set_sl]; exact P.fb, c8 := sh.c8, o1 := fun x xb q hq => ?_, o2 := by rw [set_O]; exact P.o2, cn := fun x xb => by rw [own, set_O]; exact P.cn x xb, rg := fun x xb => by rw [own, set_O]; exact P.rg x xb, hd := by rw [set_hd, set_fr]; exact P.hd, hl := by rw [set_tabs, set_fr, set_sl]; exact P.hl, o3 := fun q x xb h => ?_, xd := by rw [set_O]; exact P.xd, xn := P.xn, xs := fun q hq => ?_ }
  · rw [set_O] at hq; rw [getE_T, set_tabs]; exact P.o1 x xb q hq
  · rw [getE_T, set_tabs] at h; rw [set_O]; exact P.o3 q x xb h
  · rw [getE_T, set_tabs]; exact P.xs q hq
end
set_option Elab.async false
set_option linter.all false
set_option maxRecDepth 100000
set_option maxHeartbeats 1000000
def BlankAt (K : PySem.W.Frag) : Prop := SqT K (fun _ => none) (g_BLANK K) [.str "blank"]
def En.dat : En → PyData
  | .bl => .tuple [.str "blank"]
  | .fr n => .tuple [.str "frame", .int n]
  | .sl n => .tuple [.str "slot", .int n]
theorem En.dat_sh (e : En) : SeqAt.shaped e.dat = true := by cases e <;> simp [SeqAt.shaped, En.dat, PyData.canLay0, PyData.canLayAll0, PyData.depth, PyData.depthAll] <;> decide +kernel
theorem En.dat_eq (e : En) : PyData.eqv e.dat En.bl.dat = decide (e = .bl) := by
  have h1 : (("frame" : Str) == "blank") = false := by decide +kernel
  have h2 : (("slot" : Str) == "blank") = false := by decide +kernel
  cases e <;> simp [En.dat, PyData.eqv, PyData.eqvAll, h1, h2]
section
variable {K : PySem.W.Frag} {F0 : FP} {H0 H : Hp} {L L1 M2 : List HP} {vs : List V} {Q : VK} {E : XK} {A : Prop} {a t p d d1 d2 d3 sf ss : Addr} {ta as : List Addr} {S : PS} {e : En} {o : Ow} {v : V} {i n : Nat} {f : Tb} {O : En → List Ow} {os : List Ow} {m : List (En × List Ow)} {k : Int}
theorem EnV.dp {v : V} (h : EnV K H v e) : Dp K H v e.dat := by
  obtain ⟨t, rfl, -⟩ := id h
  have := h.sq
  cases e
  · exact .tup this (.cons (.str _) .nil)
  · exact .tup this (.cons (.str _) (.cons (.int _) .nil))
  · exact .tup this (.cons (.str _) (.cons (.int _) .nil))
theorem At.en (h : At F0 H0 L H) (s : Sel (enP K v e) L L1) : EnV K H v e := h.know s fun _ k => k
theorem s_neB (hB : BlankAt K) (h : At F0 H0 L H) (s : Sel (enP K v e) L L1) (q : Q (.bl (!decide (e = .bl))) H) : rNeD K v (.ref (g_BLANK K)) H Q :=
  ⟨e.dat, En.bl.dat, (h.en s).dp, .tup (SqT.base hB) (.cons (.str _) .nil), e.dat_sh, En.bl.dat_sh, by rw [e.dat_eq]; exact q⟩
theorem s_eqB (hB : BlankAt K) (h : At F0 H0 L H) (s : Sel (enP K v e) L L1) (q : Q (.bl (decide (e = .bl))) H) : rEqD K v (.ref (g_BLANK K)) H Q :=
  ⟨e.dat, En.bl.dat, (h.en s).dp, .tup (SqT.base hB) (.cons (.str _) .nil), e.dat_sh, En.bl.dat_sh, by rw [e.dat_eq]; exact q⟩
theorem At.enRef (h : At F0 H0 L H) (s : Sel (enP K v e) L L1) : ∃ t, v = .ref t := by
  obtain ⟨t, e, -⟩ := h.en s
  exact ⟨t, e⟩
theorem At.enSq (h : At F0 H0 L H) (s : Sel (enP K (.ref t) e) L L1) : SqT K H t e.tup := (h.en s).sq
theorem At.enKey (h : At F0 H0 L H) (s : Sel (enP K (.ref t) e) L L1) (eb : e ≠ .bl) : H t = some (.tup (e.key.map kV)) := by
  obtain ⟨t', e1, h⟩ := h.en s
  cases e1
  rw [e.key_tup]
  rcases h with h | h
  · exact h
  · exact (eb h.1).elim
/-! ### owners -/
theorem ow_len (o : owOk m O) : m.length ≤ 3000 := by
  have := nodup_len (m := (List.range 1000).map En.fr ++ (List.range 1000).map En.sl ++ [En.bl]) o.1 fun x hx => by
    obtain ⟨q, hq, rfl⟩ := List.mem_map.mp hx
    have := o.2.2.2 q hq
    cases e : q.1 with
    | bl => simp
    | fr n => rw [e] at this; simpa [En.n] using this
    | sl n => rw [e] at this; simpa [En.n] using this
  simp at this
  omega
def ownsX (d : Addr) (O : En → List Ow) (e : En) (a : Addr) : HP := HP.exi fun as : List Addr => HP.exi fun m : List (En × List Ow) => HP.exi fun i : Nat => HP.pur (owOk m O ∧ as.length = m.length ∧ as[i]? = some a ∧ m[i]? = some (e, O e))
  (HP.all [pt d (.dT (zv En.key m (as.map V.ref))), rowsG owR (as.eraseIdx i) ((m.map (·.2)).eraseIdx i)])
theorem At.owE (h : At F0 H0 L H) (s : Sel (owns d O) L L1) : ∃ (as : List Addr) (m : List (En × List Ow)), owOk m O ∧ as.length = m.length ∧ At F0 H0 (pt d (.dT (zv En.key m (as.map V.ref))) :: rowsG owR as (m.map (·.2)) :: L1) H := by
  obtain ⟨as, h⟩ := (h.sel s).exE
  obtain ⟨m, h⟩ := h.exE
  obtain ⟨o, h⟩ := h.purE
  have h := h.allE
  exact ⟨as, m, o, by simpa using h.gLen (.there .here), h⟩
theorem At.owI (h : At F0 H0 L H) (o : owOk m O) (s : Arr [pt d (.dT (zv En.key m (as.map V.ref))), rowsG owR as (m.map (·.2))] L L1) : At F0 H0 (owns d O :: L1) H :=
  (((At.allI (h.arr s)).purI o).exI m).exI as
theorem At.owOut (h : At F0 H0 L H) (o : owOk m O) (al : as.length = m.length) (h1 : as[i]? = some a) (h2 : m[i]? = some (e, O e)) (s : Arr [pt d (.dT (zv En.key m (as.map V.ref))), rowsG owR as (m.map (·.2))] L L1) : At F0 H0 (owR a (O e) :: ownsX d O e a :: L1) H := by
  have h := (h.arr s).gPop (.there .here) h1 (x := O e) (by simp [h2])
  have h := h.arr (M := [pt d (.dT (zv En.key m (as.map V.ref))), rowsG owR (as.eraseIdx i) ((m.map (·.2)).eraseIdx i)]) (L1 := owR a (O e) :: L1) (.cons (.there (.there .here)) (.cons (.there .here) .nil))
  have h : At F0 H0 (ownsX d O e a :: owR a (O e) :: L1) H := ((((At.allI h).purI ⟨o, al, h1, h2⟩).exI i).exI m).exI as
  exact h.arr (.cons (.there .here) (.cons .here .nil))
theorem At.owIn {os' : List Ow} (h : At F0 H0 L H) (s : Arr [owR a os', ownsX d O e a] L L1) (nd : os'.Nodup) : At F0 H0 (owns d (fun x => if x = e then os' else O x) :: L1) H := by
  have h : At F0 H0 (ownsX d O e a :: owR a os' :: L1) H := (h.arr s).arr (M := [ownsX d O e a, owR a os']) (L1 := L1) (.cons (.there .here) (.cons .here .nil))
  obtain ⟨as, h⟩ := h.exE
  obtain ⟨m, h⟩ := h.exE
  obtain ⟨i, h⟩ := h.exE
  obtain ⟨⟨o, al, h1, h2⟩, h⟩ := h.purE
  have h := h.allE
  have h := h.gSet (as := as) (xs := m.map (·.2)) (n := i) (a := a) (x := os') (.cons (.there (.there .here)) (.cons (.there .here) .nil)) h1 (by simpa using al)
  rw [show (m.map (·.2)).set i os' = (m.set i (e, os')).map (·.2) by rw [List.map_set]] at h
  refine At.owI (m := m.set i (e, os')) (as := as) h ⟨by rw [set_keys h2]; exact o.1, fun x => ?_, fun q hq => ?_, fun q hq => ?_⟩ (.cons (.there ?_) (.cons .here .nil))
  · show (if x = e then os' else O x) = _
    rw [ag_set o.1 h2]
    split
    · rfl
    · exact o.2.1 x
  · rcases List.mem_or_eq_of_mem_set hq with z | rfl
    · exact o.2.2.1 q z
    · exact nd
  · rcases List.mem_or_eq_of_mem_set hq with z | rfl
    · exact o.2.2.2 q z
    · exact o.2.2.2 (e, O e) (List.mem_of_getElem? h2)
  · rw [zv_setval (y := os') h2]; exact .here
theorem ow_at (o : owOk m O) (al : as.length = m.length) (hk : e ∈ m.map (·.1)) : ∃ (i : Nat) (a : Addr), as[i]? = some a ∧ m[i]? = some (e, O e) ∧ valV (zv En.key m (as.map V.ref)) (En.key e) = some (.ref a) := by
  obtain ⟨i, v', x, k1, k2, k3⟩ := zv_get (enc := En.key) (vs := as.map V.ref) En.key_inj (by simpa using al) hk
  obtain ⟨a, ea, rfl⟩ : ∃ a, as[i]? = some a ∧ V.ref a = v' := by rw [List.getElem?_map] at k1; simpa using k1
  refine ⟨i, a, ea, ?_, k3⟩
  rw [o.2.1, ag_at o.1 k2]; exact k2
theorem ow_mem (o : owOk m O) (h : O e ≠ []) : e ∈ m.map (·.1) := by
  apply Classical.byContradiction
  intro n
  rw [o.2.1, ag_none n] at h
  exact h rfl
theorem s_getO (h : At F0 H0 L H) (s : Sel (owns d O) L L1) (hk : H t = some (.tup (e.key.map kV))) (ne : O e ≠ []) (q : ∀ a, At F0 H0 (owR a (O e) :: ownsX d O e a :: L1) H → Q (.ref a) H) : getD (.ref d) (.ref t) H Q := by
  obtain ⟨as, m, o, al, h⟩ := h.owE s
  obtain ⟨i, a, h1, h2, h3⟩ := ow_at o al (ow_mem o ne)
  exact s_getT h .here hk h3 (q a (h.owOut o al h1 h2 (.cons .here (.cons .here .nil))))
theorem s_setO (h : At F0 H0 L H) (s : Arr [owns d O, pt p (.dT [])] L L1) (hk : H t = some (.tup (e.key.map kV))) (en : e.n < 1000) (q : ∀ a H', At F0 H0 (owR a (O e) :: ownsX d O e a :: L1) H' → Q (.ref a) H') : setT (.ref d) (.ref t) (.ref p) H Q := by
  obtain ⟨as, m, o, al, h⟩ := (h.arr s).owE .here
  have ml := ow_len o
  by_cases hm : e ∈ m.map (·.1)
  · obtain ⟨i, a, h1, h2, h3⟩ := ow_at o al hm
    refine s_setT h .here hk (by simp [zv, al, sizeLine_eq]; omega) (fun v hv => ?_) (fun hn => ?_)
    · rw [h3] at hv; cases hv
      have h := h.owOut (e := e) o al h1 h2 (.cons .here (.cons .here .nil))
      exact q a _ (h.sel (.there (.there .here))).drop
    · rw [h3] at hn; cases hn
  · have hv := zv_none (enc := En.key) (vs := as.map V.ref) En.key_inj (by simpa using al) hm
    refine s_setT h .here hk (by simp [zv, al, sizeLine_eq]; omega) (fun v hv2 => ?_) (fun hn H' h => ?_)
    · rw [hv] at hv2; cases hv2
    · have eO : O e = [] := by rw [o.2.1, ag_none hm]; rfl
      rw [zv_put_new (x := ([] : List Ow)) En.key_inj (by simpa using al) hm] at h
      have h := h.gSnoc (P := owR) (a := p) (x := []) (as := as) (xs := m.map (·.2)) (.cons (.there (.there .here)) (.cons (.there .here) .nil))
      have o' : owOk (m ++ [(e, [])]) O := by
        refine ⟨?_, fun x => ?_, fun q hq => ?_, fun q hq => ?_⟩
        · rw [List.map_append, List.nodup_append]
          refine ⟨o.1, by simp, ?_⟩
          intro a ha b hb e2
          simp at hb
          subst hb e2
          exact hm ha
        · rw [ag_app hm]
          split
          · next z => rw [z]; exact eO
          · exact o.2.1 x
        · rcases List.mem_append.mp hq with z | z
          · exact o.2.2.1 q z
          · simp at z; subst z; exact .nil
        · rcases List.mem_append.mp hq with z | z
          · exact o.2.2.2 q z
          · simp at z; subst z; exact en
      rw [show m.map (·.2) ++ [[]] = (m ++ [(e, ([] : List Ow))]).map (·.2) by simp, show (as.map V.ref) ++ [V.ref p] = (as ++ [p]).map V.ref by simp] at h
      exact q p _ (At.owOut (i := m.length) (m := m ++ [(e, [])]) (as := as ++ [p]) h o' (by simpa using al) (by simp [← al]) (by simp [eO]) (.cons (.there .here) (.cons .here .nil)))
theorem s_popO (h : At F0 H0 L H) (s : Sel (owns d O) L L1) (hk : H t = some (.tup (e.key.map kV))) (ne : O e ≠ []) (q : ∀ a H', At F0 H0 (owR a (O e) :: owns d (clrO O e) :: L1) H' → Q (.ref a) H') : popT (.ref d) (.ref t) H Q := by
  obtain ⟨as, m, o, al, h⟩ := h.owE s
  obtain ⟨i, a, h1, h2, h3⟩ := ow_at o al (ow_mem o ne)
  refine s_popT h .here hk h3 fun H' h => ?_
  rw [zv_drop En.key_inj (by simpa using al) o.1 h2, ← er_map] at h
  have h := h.gPop (.there .here) h1 (x := O e) (by simp [h2])
  rw [← er_map] at h
  have sub := List.eraseIdx_sublist m i
  have h := At.owI (O := clrO O e) (m := m.eraseIdx i) (as := as.eraseIdx i) (d := d) h ⟨o.1.sublist (sub.map _), fun x => ?_, fun q hq => o.2.2.1 q (sub.subset hq), fun q hq => o.2.2.2 q (sub.subset hq)⟩ (.cons (.there (.there .here)) (.cons (.there .here) .nil))
  · exact q a _ (h.arr (.cons (.there .here) (.cons .here .nil)))
  · rw [ag_erase o.1 h2]
    unfold clrO
    split
    · rfl
    · exact o.2.1 x
end
set_option Elab.async false
set_option linter.all false
set_option maxRecDepth 100000
set_option maxHeartbeats 1000000
section
variable {K : PySem.W.Frag} {F0 : FP} {H0 H : Hp} {L L1 M2 : List HP} {vs : List V} {Q : VK} {E : XK} {A : Prop} {a t p d d1 d2 d3 sf ss x s : Addr} {ta as : List Addr} {S : PS} {e : En} {o : Ow} {v : V} {i n : Nat} {f f' : Tb} {O : En → List Ow} {os : List Ow} {m : List (En × List Ow)} {k : Int} {X : St} {c : Int} {r : List Int}
/-! ### calls -/
theorem c_Sinit (h : At F0 H0 L H) (s1 : Sel (obj (c_Store K) x []) L L1) (m1 : n ≤ 1000) (q : ∀ H', At F0 H0 (store K x ⟨List.replicate n 0, List.replicate n (List.replicate 8 0)⟩ :: L1) H' → Q .non H') : sp_Store___init__ K [.ref x, .int n] H Q E :=
  ⟨x, n, rfl, m1, h.call (.cons s1 .nil) (fun v L' H' ⟨e1, e2⟩ h => by subst e1 e2; exact q H' h) fun _ _ _ _ z => z.elim⟩
theorem c_more (h : At F0 H0 L H) (s1 : Sel (store K s X) L L1) (e : X.own[n]? = some c) (c0 : c ≠ 0) (q : ∀ H', At F0 H0 (store K s (addN X n 1) :: L1) H' → Q .non H') : sp_Store_more K [.ref s, .int n] H Q E :=
  ⟨s, X, n, c, rfl, e, c0, h.call (.cons s1 .nil) (fun v L' H' ⟨e1, e2⟩ h => by subst e1 e2; exact q H' h) fun _ _ _ _ z => z.elim⟩
theorem c_less (h : At F0 H0 L H) (s1 : Sel (store K s X) L L1) (e : X.own[n]? = some c) (c0 : c ≠ 0) (q : ∀ H', At F0 H0 (store K s (addN X n (-1)) :: L1) H' → Q .non H') : sp_Store_less K [.ref s, .int n] H Q E :=
  ⟨s, X, n, c, rfl, e, c0, h.call (.cons s1 .nil) (fun v L' H' ⟨e1, e2⟩ h => by subst e1 e2; exact q H' h) fun _ _ _ _ z => z.elim⟩
theorem c_cells (h : At F0 H0 L H) (s1 : Sel (store K s X) L L1) (e : X.own[n]? = some c) (c0 : c ≠ 0) (er : X.cont[n]? = some r) (q : ∀ z H', At F0 H0 (pt z (il r) :: store K s X :: L1) H' → Q (.ref z) H') : sp_Store_cells K [.ref s, .int n] H Q E :=
  ⟨s, X, n, c, r, rfl, e, c0, er, h.call (.cons s1 .nil) (fun v L' H' ⟨z, e1, e2⟩ h => by subst e1 e2; exact q z H' h) fun _ _ _ _ z => z.elim⟩
theorem c_put (h : At F0 H0 L H) (s1 : Arr [store K s X, pt a (il r)] L L1) (e : X.own[n]? = some c) (c0 : c ≠ 0) (el : n < X.cont.length) (q : ∀ H', At F0 H0 (store K s (putN X n r) :: pt a (il r) :: L1) H' → Q .non H') : sp_Store_put K [.ref s, .int n, .ref a] H Q E :=
  ⟨s, a, X, n, c, r, rfl, e, c0, el, h.call s1 (fun v L' H' ⟨e1, e2⟩ h => by subst e1 e2; exact q H' h) fun _ _ _ _ z => z.elim⟩
theorem c_free (h : At F0 H0 L H) (s1 : Sel (store K s X) L L1) (q : ∀ H', At F0 H0 (store K s X :: L1) H' → Q (.int (X.own.count 0)) H') : sp_Store_free K [.ref s] H Q E :=
  ⟨s, X, rfl, h.call (.cons s1 .nil) (fun v L' H' ⟨e1, e2⟩ h => by subst e1 e2; exact q H' h) fun _ _ _ _ z => z.elim⟩
theorem c_take (h : At F0 H0 L H) (s1 : Sel (store K s X) L L1) (l : X.own.length = X.cont.length) (nf : ¬ noFree X) (q : ∀ (n : Nat) H', X.own[n]? = some 0 → At F0 H0 (store K s (takeN X n) :: L1) H' → Q (.int n) H') : sp_Store_take K [.ref s] H Q E :=
  ⟨s, X, rfl, l, h.call (.cons s1 .nil) (fun v L' H' z h => by
    rcases z with ⟨_, z, _⟩ | ⟨n, e1, e2, e3⟩
    · exact (nf z).elim
    · subst e1 e3; exact q n H' e2 h) fun _ _ _ _ z => z.elim⟩
theorem c_tinit (h : At F0 H0 L H) (s1 : Sel (obj (c_Table K) x []) L L1) (q : ∀ H', At F0 H0 (table K x (fun _ => none) :: L1) H' → Q .non H') : sp_Table___init__ K [.ref x] H Q E :=
  ⟨x, rfl, h.call (.cons s1 .nil) (fun v L' H' ⟨e1, e2⟩ h => by subst e1 e2; exact q H' h) fun _ _ _ _ z => z.elim⟩
theorem c_tget (h : At F0 H0 L H) (s1 : Sel (table K t f) L L1) (q1 : f k = none → ∀ H', At F0 H0 (table K t f :: L1) H' → Q .non H') (q2 : ∀ v e H', f k = some e → At F0 H0 (enP K v e :: table K t f :: L1) H' → Q v H') : sp_Table_get K [.ref t, .int k] H Q E :=
  ⟨t, f, k, rfl, h.call (.cons s1 .nil) (fun v L' H' z h => by
    rcases z with ⟨e1, e2, e3⟩ | ⟨e, e1, e2⟩
    · subst e1 e3; exact q1 e2 H' h
    · subst e2; exact q2 v e H' e1 h) fun _ _ _ _ z => z.elim⟩
theorem c_tlay (h : At F0 H0 L H) (s1 : Arr [table K t f, enP K v e] L L1) (k0 : 0 ≤ k ∧ k < 64) (q : ∀ H', At F0 H0 (table K t (upd1 f k (some e)) :: enP K v e :: L1) H' → Q .non H') : sp_Table_lay K [.ref t, .int k, v] H Q E :=
  ⟨t, f, k, v, e, rfl, k0.1, k0.2, h.call s1 (fun v L' H' ⟨e1, e2⟩ h => by subst e1 e2; exact q H' h) fun _ _ _ _ z => z.elim⟩
theorem c_tclear (h : At F0 H0 L H) (s1 : Sel (table K t f) L L1) (q : ∀ H', At F0 H0 (table K t (upd1 f k none) :: L1) H' → Q .non H') : sp_Table_clear K [.ref t, .int k] H Q E :=
  ⟨t, f, k, rfl, h.call (.cons s1 .nil) (fun v L' H' ⟨e1, e2⟩ h => by subst e1 e2; exact q H' h) fun _ _ _ _ z => z.elim⟩
theorem c_tpages (h : At F0 H0 L H) (s1 : Sel (table K t f) L L1) (q : ∀ z H', At F0 H0 (pt z (il (pgs f)) :: table K t f :: L1) H' → Q (.ref z) H') : sp_Table_pages K [.ref t] H Q E :=
  ⟨t, f, rfl, h.call (.cons s1 .nil) (fun v L' H' ⟨z, e1, e2⟩ h => by subst e1 e2; exact q z H' h) fun _ _ _ _ z => z.elim⟩
/-! ### paging open -/
theorem At.pagE (h : At F0 H0 L H) (s1 : Sel (paging K p ta S) L L1) : ∃ d1 d2 d3 sf ss, ta.length = S.tabs.length ∧ At F0 H0 (obj (c_Paging K) p (pagF d1 d2 d3 S) :: pt d1 (.dK (stoF sf ss)) :: store K sf S.fs :: store K ss S.ss :: pt d2 (.dK (zv ki S.tabs (ta.map V.ref))) :: rowsG (table K) ta (S.tabs.map (·.2)) :: owns d3 S.O :: L1) H := by
  obtain ⟨d1, h⟩ := (h.sel s1).exE
  obtain ⟨d2, h⟩ := h.exE
  obtain ⟨d3, h⟩ := h.exE
  obtain ⟨sf, h⟩ := h.exE
  obtain ⟨ss, h⟩ := h.exE
  have h := h.allE
  exact ⟨d1, d2, d3, sf, ss, by simpa using h.gLen (.there (.there (.there (.there (.there .here))))), h⟩
theorem At.pagI (h : At F0 H0 L H) (s1 : Arr [obj (c_Paging K) p (pagF d1 d2 d3 S), pt d1 (.dK (stoF sf ss)), store K sf S.fs, store K ss S.ss, pt d2 (.dK (zv ki S.tabs (ta.map V.ref))), rowsG (table K) ta (S.tabs.map (·.2)), owns d3 S.O] L L1) : At F0 H0 (paging K p ta S :: L1) H :=
  (((((At.allI (h.arr s1)).exI ss).exI sf).exI d3).exI d2).exI d1
theorem s_mpag {n : Str} (h : At F0 H0 L H) (s1 : Sel (paging K p ta S) L L1) (l : ∀ a b c d e g, List.lookup n [(("stores" : Str), (a : V)), ("frames", b), ("slots", c), ("tables", d), ("owners", e), ("hand", g)] = none) (q : A) : kIns (c_Paging K) n (.ref p) H ∧ A := by
  obtain ⟨d1, d2, d3, sf, ss, -, h⟩ := h.pagE s1
  obtain ⟨dx, e⟩ := h.ob .here
  exact ⟨⟨p, dx, _, rfl, e, l _ _ _ _ _ _⟩, q⟩
def pagX (K : PySem.W.Frag) (p : Addr) (ta : List Addr) (S : PS) (i : Nat) : HP := HP.exi fun d1 => HP.exi fun d2 => HP.exi fun d3 => HP.exi fun sf => HP.exi fun ss => HP.pur (ta.length = S.tabs.length)
  (HP.all [obj (c_Paging K) p (pagF d1 d2 d3 S), pt d1 (.dK (stoF sf ss)), store K sf S.fs, store K ss S.ss, pt d2 (.dK (zv ki S.tabs (ta.map V.ref))), rowsG (table K) (ta.eraseIdx i) ((S.tabs.map (·.2)).eraseIdx i), owns d3 S.O])
theorem At.tabOut (h : At F0 H0 L H) (s1 : Sel (paging K p ta S) L L1) (h1 : ta[i]? = some a) (h2 : S.tabs[i]? = some (k, f)) : At F0 H0 (table K a f :: pagX K p ta S i :: L1) H := by
  obtain ⟨d1, d2, d3, sf, ss, tl, h⟩ := h.pagE s1
  have h := h.gPop (.there (.there (.there (.there (.there .here))))) h1 (x := f) (by simp [h2])
  have h := h.arr (M := [obj (c_Paging K) p (pagF d1 d2 d3 S), pt d1 (.dK (stoF sf ss)), store K sf S.fs, store K ss S.ss, pt d2 (.dK (zv ki S.tabs (ta.map V.ref))), rowsG (table K) (ta.eraseIdx i) ((S.tabs.map (·.2)).eraseIdx i), owns d3 S.O]) (L1 := table K a f :: L1) (by wtm_at "z_arr")
  have h : At F0 H0 (pagX K p ta S i :: table K a f :: L1) H := (((((At.allI h).purI tl |>.exI ss).exI sf).exI d3).exI d2).exI d1
  exact h.arr (.cons (.there .here) (.cons .here .nil))
theorem At.tabIn (h : At F0 H0 L H) (s1 : Arr [table K a f', pagX K p ta S i] L L1) (h1 : ta[i]? = some a) (h2 : S.tabs[i]? = some (k, f)) : At F0 H0 (paging K p ta { S with tabs := S.tabs.set i (k, f') } :: L1) H := by
  have h : At F0 H0 (pagX K p ta S i :: table K a f' :: L1) H := (h.arr s1).arr (M := [pagX K p ta S i, table K a f']) (L1 := L1) (.cons (.there .here) (.cons .here .nil))
  obtain ⟨d1, h⟩ := h.exE
  obtain ⟨d2, h⟩ := h.exE
  obtain ⟨d3, h⟩ := h.exE
  obtain ⟨sf, h⟩ := h.exE
  obtain ⟨ss, h⟩ := h.exE
  obtain ⟨tl, h⟩ := h.purE
  have h := h.allE
  simp only [List.cons_append, List.nil_append] at h
  have h := h.gSet (P := table K) (as := ta) (xs := S.tabs.map (·.2)) (n := i) (a := a) (x := f') (by wtm_at "z_arr") h1 (by simpa using tl)
  rw [show (S.tabs.map (·.2)).set i f' = (S.tabs.set i (k, f')).map (·.2) by rw [List.map_set]] at h
  rw [← zv_setval (y := f') h2] at h
  exact At.pagI (S := { S with tabs := S.tabs.set i (k, f') }) h (by wtm_at "z_arr")
theorem At.tabBack (h : At F0 H0 L H) (s1 : Arr [table K a f, pagX K p ta S i] L L1) (h1 : ta[i]? = some a) (h2 : S.tabs[i]? = some (k, f)) : At F0 H0 (paging K p ta S :: L1) H := by
  have h := h.tabIn s1 h1 h2
  obtain ⟨il, ie⟩ := List.getElem?_eq_some_iff.mp h2
  rw [show S.tabs.set i (k, f) = S.tabs by rw [← ie]; exact List.set_getElem_self il] at h
  exact h
theorem upT_set {tabs : List (Int × Tb)} {v : Option En} (nk : (tabs.map (·.1)).Nodup) (h : tabs[i]? = some (o.1, f)) : tabs.set i (o.1, upd1 f o.2 v) = upT tabs o v := by
  obtain ⟨il, ie⟩ := List.getElem?_eq_some_iff.mp h
  unfold upT
  apply List.ext_getElem (by simp)
  intro j j1 j2
  rw [List.getElem_set, List.getElem_map]
  simp at j1
  by_cases e : i = j
  · subst e; rw [if_pos rfl, ie]; simp
  · rw [if_neg e, if_neg]
    intro z
    exact e ((List.getElem_inj (h₀ := by simpa using il) (h₁ := by simpa using j1) nk).mp (by rw [List.getElem_map, List.getElem_map, ie, z]))
theorem tab_at (tl : ta.length = S.tabs.length) (h : k ∈ S.tabs.map (·.1)) : ∃ (i : Nat) (a : Addr) (f : Tb), ta[i]? = some a ∧ S.tabs[i]? = some (k, f) ∧ valV (zv ki S.tabs (ta.map V.ref)) (Sum.inl k : Key) = some (.ref a) := by
  obtain ⟨i, v', x, k1, k2, k3⟩ := zv_get (enc := ki) (vs := ta.map V.ref) ki_inj (by simpa using tl) h
  obtain ⟨a, ea, rfl⟩ : ∃ a, ta[i]? = some a ∧ V.ref a = v' := by rw [List.getElem?_map] at k1; simpa using k1
  exact ⟨i, a, x, ea, k2, k3⟩
theorem st_frame : valV (stoF sf ss) (Sum.inr "frame" : Key) = some (.ref sf) := valV_pos rfl
theorem st_slot : valV (stoF sf ss) (Sum.inr "slot" : Key) = some (.ref ss) := (valV_neg (fun z => absurd (Sum.inr.inj z) (by decide +kernel))).trans (valV_pos rfl)
theorem merge_st {u1 u2 : V} : mergeK [] [((Sum.inr "frame" : Key), u1), (Sum.inr "slot", u2)] = [((Sum.inr "frame" : Key), u1), (Sum.inr "slot", u2)] := by
  have : ¬ (("frame" : Str) = "slot") := by decide +kernel
  simp [mergeK, putK, this]
theorem pure_Paging___init__ (h : sp_Paging___init__ K vs H Q E) : Goal (t_Paging___init__ K (WD E)) n_Paging___init__ vs H Q := by
  obtain ⟨x, m, n, rfl, m1, n1, tr⟩ := h
  obtain ⟨F, h, hq, -⟩ := tr.open
  unfold Goal t_Paging___init__; wtm_at "z_start"
  refine s_seq ?_
  simp only [q_s]
  intro dd hd
  have h := h.new (o := .dK []) hd
  simp only [tPairs]
  wtm_at "z_in"
  refine c_Sinit h (by wtm_at "z_sel") (by omega) fun H h => ?_
  refine ⟨rfl, ?_⟩
  wtm_at "z_in"
  refine c_Sinit h (by wtm_at "z_sel") (by omega) fun H h => ?_
  refine ⟨rfl, ?_⟩
  rename_i s1 _ _ _ _ s2 _ _
  refine ⟨h.get (by wtm_at "z_sel"), [((Sum.inr "frame" : Key), .ref s1), (Sum.inr "slot", .ref s2)], rfl, by simp, ?_⟩
  rw [merge_st]
  have h := h.set (a := dd) (o' := .dK [((Sum.inr "frame" : Key), .ref s1), (Sum.inr "slot", .ref s2)]) (by wtm_at "z_sel")
  wtm_at "z_in"
  wtm_at "z_go"
  rename_i d2 _ _ _ _ d3 _ _ _ _ _
  have h := h.addP (R := rowsG (table K) [] []) ⟨rfl, trivial⟩
  have h := h.addP (R := rowsG owR [] []) ⟨rfl, trivial⟩
  have h := At.owI (m := []) (as := []) (O := fun _ => []) (d := d3) h ⟨.nil, fun _ => rfl, by simp, by simp⟩ (.cons (.there (.there (.there .here))) (.cons .here .nil))
  refine hq _ _ _ ⟨rfl, rfl⟩ (At.pagI (S := initS m n) (d1 := dd) (d2 := d2) (d3 := d3) (sf := s1) (ss := s2) h ?_)
  simp only [initS, List.map_nil, zv, List.zipWith_nil_left] at h ⊢
  wtm_at "z_arr"
end
set_option Elab.async false
set_option linter.all false
set_option maxRecDepth 100000
set_option maxHeartbeats 1000000
section
variable {K : PySem.W.Frag} {F0 : FP} {H0 H : Hp} {L L1 M2 : List HP} {vs : List V} {Q : VK} {E : XK} {A : Prop} {a t p d d1 d2 d3 sf ss x s : Addr} {ta as : List Addr} {S : PS} {e : En} {o : Ow} {v : V} {i n : Nat} {f f' : Tb} {O : En → List Ow} {os : List Ow} {m : List (En × List Ow)} {k : Int} {X : St} {c : Int} {r : List Int}
theorem getE_at (nk : okTab S) (h : getE S o = some e) (h2 : S.tabs[i]? = some (o.1, f)) : f o.2 = some e := by
  rw [getE_T] at h
  unfold getT at h
  rw [ag_at nk h2] at h
  exact h
theorem pure_Paging_entry (h : sp_Paging_entry K vs H Q E) : Goal (t_Paging_entry K (WD E)) n_Paging_entry vs H Q := by
  obtain ⟨p, ta, S, t, o, e, rfl, nk, ge, tr⟩ := h
  obtain ⟨F, h, hq, -⟩ := tr.open
  unfold Goal t_Paging_entry; wtm_at "z_start"
  wtm_at "z_st"
  obtain ⟨d1, d2, d3, sf, ss, tl, h⟩ := h.pagE .here
  wtm_at "z_in"
  obtain ⟨i, a, f, e1, e2, e3⟩ := tab_at tl (getT_dom (tabs := S.tabs) ge)
  refine s_getI h (by wtm_at "z_sel") e3 ?_
  have h := h.pagI (S := S) (ta := ta) (p := p) (by wtm_at "z_arr")
  have h := h.tabOut (by wtm_at "z_sel") e1 e2
  refine s_mtable h (by wtm_at "z_sel") (fun _ => by wtm_at "z_no") ?_
  wtm_at "z_in"
  have fe := getE_at nk ge e2
  refine c_tget h (by wtm_at "z_sel") (fun z => by rw [fe] at z; cases z) fun v e' H' z h => ?_
  rw [fe] at z
  cases z
  have h := h.tabBack (K := K) (p := p) (ta := ta) (S := S) (i := i) (f := f) (by wtm_at "z_arr") e1 e2
  exact hq _ _ _ rfl (h.arr (.cons (.there .here) (.cons .here (.cons .here .nil))))
theorem c_entry (h : At F0 H0 L H) (s1 : Arr [paging K p ta S, ow t o] L L1) (nk : okTab S) (ge : getE S o = some e) (q : ∀ v H', At F0 H0 (enP K v e :: paging K p ta S :: ow t o :: L1) H' → Q v H') : sp_Paging_entry K [.ref p, .ref t] H Q E :=
  ⟨p, ta, S, t, o, e, rfl, nk, ge, h.call s1 (fun v L' H' e1 h => by subst e1; exact q v H' h) fun _ _ _ _ z => z.elim⟩
theorem owV_key {os : List Ow} {o : Ow} : valV (owV os) (Ow.key o) = if o ∈ os then some (.bl true) else none := by
  induction os with
  | nil => rfl
  | cons x os ih =>
    by_cases e : x = o
    · subst e
      rw [if_pos (.head _)]
      exact valV_pos rfl
    · rw [show owV (x :: os) = (Ow.key x, V.bl true) :: owV os from rfl, valV_neg (fun z => e (Ow.key_inj _ _ z)), ih]
      by_cases h : o ∈ os
      · rw [if_pos h, if_pos (.tail _ h)]
      · rw [if_neg h, if_neg]
        intro z
        rcases List.mem_cons.mp z with z | z
        · exact e z.symm
        · exact h z
theorem owV_any {os : List Ow} {o : Ow} : ((owV os).any fun kv => decide (kv.1 = Ow.key o)) = true ↔ o ∈ os := by
  rw [List.any_eq_true]
  constructor
  · rintro ⟨kv, hk, e⟩
    obtain ⟨x, hx, rfl⟩ := List.mem_map.mp hk
    have := Ow.key_inj _ _ (by simpa using e)
    exact this ▸ hx
  · intro h
    exact ⟨_, List.mem_map.mpr ⟨o, h, rfl⟩, by simp⟩
theorem owV_put {os : List Ow} {o : Ow} : putK (owV os) (Ow.key o) (.bl true) = owV (if o ∈ os then os else os ++ [o]) := by
  unfold putK
  by_cases h : o ∈ os
  · rw [if_pos (owV_any.mpr h), if_pos h]
    apply List.ext_getElem (by simp)
    intro j j1 j2
    simp only [owV, List.getElem_map]
    split <;> rfl
  · rw [if_neg (fun z => h (owV_any.mp z)), if_neg h]
    simp [owV]
theorem owV_drop {os : List Ow} {o : Ow} : dropK (owV os) (Ow.key o) = owV (os.filter (fun z => decide (z ≠ o))) := by
  unfold dropK owV
  rw [List.filter_map]
  congr 1
  apply List.filter_congr
  intro x _
  by_cases e : x = o
  · subst e; simp
  · have : ¬ Ow.key x = Ow.key o := fun z => e (Ow.key_inj _ _ z)
    simp [e, this]
theorem ow_key {t : Addr} {o : Ow} (h : At F0 H0 L H) (s : Sel (ow t o) L L1) : H t = some (.tup ((Ow.key o).map kV)) := h.getX s
theorem At.owNd (h : At F0 H0 L H) (s : Sel (ownsX d O e a) L L1) : (O e).Nodup := by
  obtain ⟨as, h⟩ := (h.sel s).exE
  obtain ⟨m, h⟩ := h.exE
  obtain ⟨i, h⟩ := h.exE
  obtain ⟨⟨o, al, h1, h2⟩, h⟩ := h.purE
  exact o.2.2.1 _ (List.mem_of_getElem? h2)
theorem s_isO {A : Prop} (h : At F0 H0 L H) (s : Sel (owns d O) L L1) (q : A) : isDv (.ref d) H ∧ A := by
  obtain ⟨as, m, o, al, h⟩ := h.owE s
  exact s_isDT h .here q
theorem pure_Paging_lay (hB : BlankAt K) (h : sp_Paging_lay K vs H Q E) : Goal (t_Paging_lay K (WD E)) n_Paging_lay vs H Q := by
  obtain ⟨p, ta, S, t, o, v, e, rfl, ⟨nk, oo, ol⟩, tr⟩ := h
  obtain ⟨F, h, hq, -⟩ := tr.open
  obtain ⟨te, rfl⟩ := h.enRef (by wtm_at "z_sel")
  unfold Goal t_Paging_lay; wtm_at "z_start"
  wtm_at "z_st"
  wtm_at "z_st"
  obtain ⟨d1, d2, d3, sf, ss, tl, h⟩ := h.pagE .here
  wtm_at "z_in"
  obtain ⟨i, a, f, e1, e2, e3⟩ := tab_at tl oo.1
  refine s_getI h (by wtm_at "z_sel") e3 ?_
  have h := h.pagI (S := S) (ta := ta) (p := p) (by wtm_at "z_arr")
  have h := h.tabOut (by wtm_at "z_sel") e1 e2
  refine s_mtable h (by wtm_at "z_sel") (fun _ => by wtm_at "z_no") ?_
  wtm_at "z_in"
  refine c_tlay h (by wtm_at "z_arr") oo.2 fun H' h => ?_
  have h := h.tabIn (K := K) (p := p) (ta := ta) (S := S) (i := i) (k := o.1) (f := f) (by wtm_at "z_arr") e1 e2
  rw [upT_set nk e2] at h
  wtm_at "z_in"
  refine s_neB hB h (by wtm_at "z_sel") ?_
  wtm_at "z_in"
  by_cases eb : e = .bl
  · subst eb
    wtm_at "z_in"
    have hs : ({ S with tabs := upT S.tabs o (some .bl) } : PS) = layS S o .bl := rfl
    rw [hs] at h
    exact hq _ _ _ ⟨rfl, rfl⟩ (h.arr (.cons .here (.cons (.there .here) (.cons .here .nil))))
  · simp only [eb, decide_false, Bool.not_false, if_true]
    obtain ⟨d1, d2, d3, sf, ss, tl, h⟩ := h.pagE .here
    dsimp only at h tl
    wtm_at "z_in"
    refine s_isO h (by wtm_at "z_sel") ?_
    wtm_at "z_in"
    refine s_setO h (by wtm_at "z_arr") (h.enKey (by wtm_at "z_sel") eb) (ol eb).1 fun a H' h => ?_
    wtm_at "z_in"
    refine s_putT h (by wtm_at "z_sel") (ow_key h (by wtm_at "z_sel")) ?_ fun H' h => ?_
    · have := (ol eb).2
      simp [owV, sizeLine_eq]; omega
    rw [owV_put] at h
    have nd := h.owNd (O := S.O) (e := e) (a := a) (d := d3) (by wtm_at "z_sel")
    have h := h.owIn (O := S.O) (e := e) (a := a) (d := d3) (by wtm_at "z_arr") (by
      split
      · exact nd
      · next z =>
        rw [List.nodup_append]
        refine ⟨nd, by simp, ?_⟩
        intro a ha b hb ez
        simp at hb
        exact z (hb ▸ ez ▸ ha))
    have hO : (layS S o e).O = fun x => if x = e then (if o ∈ S.O e then S.O e else S.O e ++ [o]) else S.O x := by
      unfold layS; rw [if_neg eb]; rfl
    rw [← hO] at h
    have h := h.pagI (S := layS S o e) (ta := ta) (p := p) (d1 := d1) (d2 := d2) (d3 := d3) (sf := sf) (ss := ss) (by unfold layS; dsimp only [pagF]; wtm_at "z_arr")
    exact hq _ _ _ ⟨rfl, rfl⟩ (h.only (by wtm_at "z_arr"))
end
set_option Elab.async false
set_option linter.all false
set_option maxRecDepth 100000
set_option maxHeartbeats 1000000
section
variable {K : PySem.W.Frag} {F0 : FP} {H0 H : Hp} {L L1 M2 : List HP} {vs : List V} {Q : VK} {E : XK} {A : Prop} {a t p d d1 d2 d3 sf ss x s : Addr} {ta as : List Addr} {S : PS} {e : En} {o : Ow} {v : V} {i n : Nat} {f f' : Tb} {O : En → List Ow} {os : List Ow} {m : List (En × List Ow)} {k : Int} {X : St} {c : Int} {r : List Int}
theorem c_lay (h : At F0 H0 L H) (s1 : Arr [paging K p ta S, ow t o, enP K v e] L L1) (ok : okL S o e) (q : ∀ H', At F0 H0 (paging K p ta (layS S o e) :: ow t o :: enP K v e :: L1) H' → Q .non H') : sp_Paging_lay K [.ref p, .ref t, v] H Q E :=
  ⟨p, ta, S, t, o, v, e, rfl, ok, h.call s1 (fun v L' H' ⟨e1, e2⟩ h => by subst e1 e2; exact q H' h) fun _ _ _ _ z => z.elim⟩
/-- the store of a place, and the other -/
theorem enT_ne (eb : e ≠ .bl) : ∃ z : Str, e.tup = [.str z, .int e.n] ∧ ∀ {sf ss : Addr}, valV (stoF sf ss) (Sum.inr z : Key) = some (.ref (if kd e then ss else sf)) := by
  cases e with
  | bl => exact (eb rfl).elim
  | fr n => exact ⟨"frame", rfl, st_frame⟩
  | sl n => exact ⟨"slot", rfl, st_slot⟩
def stoX (K : PySem.W.Frag) (sf ss : Addr) (S : PS) (e : En) : HP := if kd e then store K sf S.fs else store K ss S.ss
theorem At.stOut (h : At F0 H0 L H) (s : Arr [store K sf S.fs, store K ss S.ss] L L1) : At F0 H0 (store K (if kd e then ss else sf) (stE S e) :: stoX K sf ss S e :: L1) H := by
  have h := h.arr s
  cases e with
  | bl => exact h
  | fr n => exact h
  | sl n => exact h.arr (.cons (.there .here) (.cons .here .nil))
theorem At.stIn (h : At F0 H0 L H) (s : Arr [store K (if kd e then ss else sf) X, stoX K sf ss S e] L L1) : At F0 H0 (store K sf (setSt S e X).fs :: store K ss (setSt S e X).ss :: L1) H := by
  have h := h.arr s
  cases e with
  | bl => exact h
  | fr n => exact h
  | sl n => exact h.arr (.cons (.there .here) (.cons .here .nil))
theorem set_back : setSt S e (stE S e) = S := by cases e <;> rfl
theorem At.stBack (h : At F0 H0 L H) (s : Arr [store K (if kd e then ss else sf) (stE S e), stoX K sf ss S e] L L1) : At F0 H0 (store K sf S.fs :: store K ss S.ss :: L1) H := by
  have h := h.stIn s
  rw [set_back] at h
  exact h
theorem At.pagSt (h : At F0 H0 L H) (s : Arr [store K (if kd e then ss else sf) X, stoX K sf ss S e, obj (c_Paging K) p (pagF d1 d2 d3 S), pt d1 (.dK (stoF sf ss)), pt d2 (.dK (zv ki S.tabs (ta.map V.ref))), rowsG (table K) ta (S.tabs.map (·.2)), owns d3 O] L L1) : At F0 H0 (paging K p ta { setSt S e X with O := O } :: L1) H := by
  have h := h.arr s
  cases e with
  | bl => exact At.pagI (S := { setSt S .bl X with O := O }) h (.cons (.there (.there .here)) (.cons (.there (.there .here)) (.cons .here (.cons .here (.cons .here (.cons .here (.cons .here .nil)))))))
  | fr n => exact At.pagI (S := { setSt S (.fr n) X with O := O }) h (.cons (.there (.there .here)) (.cons (.there (.there .here)) (.cons .here (.cons .here (.cons .here (.cons .here (.cons .here .nil)))))))
  | sl n => exact At.pagI (S := { setSt S (.sl n) X with O := O }) h (.cons (.there (.there .here)) (.cons (.there (.there .here)) (.cons (.there .here) (.cons .here (.cons .here (.cons .here (.cons .here .nil)))))))
theorem At.pagSt0 (h : At F0 H0 L H) (s : Arr [store K (if kd e then ss else sf) X, stoX K sf ss S e, obj (c_Paging K) p (pagF d1 d2 d3 S), pt d1 (.dK (stoF sf ss)), pt d2 (.dK (zv ki S.tabs (ta.map V.ref))), rowsG (table K) ta (S.tabs.map (·.2)), owns d3 S.O] L L1) : At F0 H0 (paging K p ta (setSt S e X) :: L1) H := by
  have h := h.pagSt s
  have e : { setSt S e X with O := S.O } = setSt S e X := by cases e <;> rfl
  rw [e] at h
  exact h
theorem At.pagSt1 (h : At F0 H0 L H) (s : Arr [store K (if kd e then ss else sf) (stE S e), stoX K sf ss S e, obj (c_Paging K) p (pagF d1 d2 d3 S), pt d1 (.dK (stoF sf ss)), pt d2 (.dK (zv ki S.tabs (ta.map V.ref))), rowsG (table K) ta (S.tabs.map (·.2)), owns d3 S.O] L L1) : At F0 H0 (paging K p ta S :: L1) H := by
  have h := h.pagSt0 s
  rw [set_back] at h
  exact h
theorem pure_Paging_share (hB : BlankAt K) (h : sp_Paging_share K vs H Q E) : Goal (t_Paging_share K (WD E)) n_Paging_share vs H Q := by
  obtain ⟨p, ta, S, t, o, v, e, rfl, ok, tk, tr⟩ := h
  obtain ⟨F, h, hq, -⟩ := tr.open
  obtain ⟨te, rfl⟩ := h.enRef (by wtm_at "z_sel")
  unfold Goal t_Paging_share; wtm_at "z_start"
  wtm_at "z_st"
  refine s_neB hB h (by wtm_at "z_sel") ?_
  wtm_at "z_in"
  by_cases eb : e = .bl
  · subst eb
    wtm_at "z_in"
    refine s_mpag h (by wtm_at "z_sel") (fun _ _ _ _ _ _ => by wtm_at "z_no") ?_
    wtm_at "z_in"
    refine c_lay h (by wtm_at "z_arr") ok fun H h => ?_
    exact hq _ _ _ ⟨rfl, rfl⟩ h
  · simp only [eb, decide_false, Bool.not_false, if_true]
    obtain ⟨z, e1, e2⟩ := enT_ne eb
    have h2 := h.enSq (by wtm_at "z_sel")
    rw [e1] at h2
    obtain ⟨d1, d2, d3, sf, ss, tl, h⟩ := h.pagE .here
    wtm_at "z_in"
    refine s_getS h (by wtm_at "z_sel") e2 ?_
    have h := h.stOut (e := e) (by wtm_at "z_arr")
    refine s_mstore h (by wtm_at "z_sel") (fun _ _ => by wtm_at "z_no") ?_
    wtm_at "z_in"
    obtain ⟨c, c1, c2⟩ := tk eb
    refine c_more h (by wtm_at "z_sel") c1 c2 fun H h => ?_
    have h := h.pagSt0 (S := S) (e := e) (p := p) (ta := ta) (by wtm_at "z_arr")
    refine s_mpag h (by wtm_at "z_sel") (fun _ _ _ _ _ _ => by wtm_at "z_no") ?_
    wtm_at "z_in"
    have ok' : okL (setSt S e (addN (stE S e) e.n 1)) o e := by
      obtain ⟨a1, a2, a3⟩ := ok
      refine ⟨by unfold okTab; rw [set_tabs]; exact a1, by unfold okO; rw [set_tabs]; exact a2, by rw [set_O]; exact a3⟩
    refine c_lay h (by wtm_at "z_arr") ok' fun H h => ?_
    have e3 : layS (setSt S e (addN (stE S e) e.n 1)) o e = shareS S o e := by unfold shareS; rw [if_neg eb]
    rw [e3] at h
    exact hq _ _ _ ⟨rfl, rfl⟩ h
theorem pure_Paging_leave (hB : BlankAt K) (h : sp_Paging_leave K vs H Q E) : Goal (t_Paging_leave K (WD E)) n_Paging_leave vs H Q := by
  obtain ⟨p, ta, S, t, o, e, rfl, nk, ge, tk, tr⟩ := h
  obtain ⟨F, h, hq, -⟩ := tr.open
  unfold Goal t_Paging_leave; wtm_at "z_start"
  wtm_at "z_st"
  refine s_mpag h (by wtm_at "z_sel") (fun _ _ _ _ _ _ => by wtm_at "z_no") ?_
  wtm_at "z_in"
  refine c_entry h (by wtm_at "z_arr") nk ge fun v H h => ?_
  obtain ⟨te, rfl⟩ := h.enRef (by wtm_at "z_sel")
  wtm_at "z_in"
  refine s_neB hB h (by wtm_at "z_sel") ?_
  wtm_at "z_in"
  by_cases eb : e = .bl
  · subst eb
    wtm_at "z_in"
    have e4 : leaveS S o .bl = S := rfl
    rw [e4] at hq
    exact hq _ _ _ ⟨rfl, rfl⟩ (h.only (by wtm_at "z_arr"))
  · simp only [eb, decide_false, Bool.not_false, if_true]
    obtain ⟨⟨c, c1, c2⟩, mo⟩ := tk eb
    obtain ⟨z, e1, e2⟩ := enT_ne eb
    obtain ⟨d1, d2, d3, sf, ss, tl, h⟩ := h.pagE (by wtm_at "z_sel")
    wtm_at "z_st"
    refine s_getO h (by wtm_at "z_sel") (h.enKey (by wtm_at "z_sel") eb) (List.ne_nil_of_mem mo) fun a h => ?_
    refine s_isDT h (by wtm_at "z_sel") ?_
    wtm_at "z_in"
    refine s_popT h (by wtm_at "z_sel") (ow_key h (by wtm_at "z_sel")) (by rw [owV_key, if_pos mo]) fun H h => ?_
    rw [owV_drop] at h
    have nd := h.owNd (O := S.O) (e := e) (a := a) (d := d3) (by wtm_at "z_sel")
    have h := h.owIn (O := S.O) (e := e) (a := a) (d := d3) (by wtm_at "z_arr") (nd.filter _)
    have h2 := h.enSq (e := e) (t := te) (by wtm_at "z_sel")
    rw [e1] at h2
    wtm_at "z_in"
    refine s_getS h (by wtm_at "z_sel") e2 ?_
    have h := h.stOut (e := e) (S := S) (by wtm_at "z_arr")
    refine s_mstore h (by wtm_at "z_sel") (fun _ _ => by wtm_at "z_no") ?_
    wtm_at "z_in"
    refine c_less h (by wtm_at "z_sel") c1 c2 fun H h => ?_
    have h := h.pagSt (S := S) (e := e) (p := p) (ta := ta) (by wtm_at "z_arr")
    have e3 : ({ setSt S e (addN (stE S e) e.n (-1)) with O := fun x => if x = e then (S.O e).filter (fun z => decide (z ≠ o)) else S.O x } : PS) = leaveS S o e := by unfold leaveS; rw [if_neg eb]; rfl
    rw [e3] at h
    exact hq _ _ _ ⟨rfl, rfl⟩ (h.only (by wtm_at "z_arr"))
theorem pure_Paging_cells (hB : BlankAt K) (h : sp_Paging_cells K vs H Q E) : Goal (t_Paging_cells K (WD E)) n_Paging_cells vs H Q := by
  obtain ⟨p, ta, S, t, o, rfl, P, is, tr⟩ := h
  obtain ⟨e, ge⟩ := Option.isSome_iff_exists.mp is
  obtain ⟨F, h, hq, -⟩ := tr.open
  unfold Goal t_Paging_cells; wtm_at "z_start"
  wtm_at "z_st"
  refine s_mpag h (by wtm_at "z_sel") (fun _ _ _ _ _ _ => by wtm_at "z_no") ?_
  wtm_at "z_in"
  refine c_entry h (by wtm_at "z_arr") P.nk ge fun v H h => ?_
  obtain ⟨te, rfl⟩ := h.enRef (by wtm_at "z_sel")
  wtm_at "z_st"
  refine s_eqB hB h (by wtm_at "z_sel") ?_
  wtm_at "z_in"
  by_cases eb : e = .bl
  · subst eb
    wtm_at "z_in"
    rename_i q _
    rw [show List.replicate (Int.toNat 8) (V.int 0) = (List.replicate 8 (0 : Int)).map V.int from rfl] at h
    exact hq _ _ _ ⟨q, List.replicate 8 0, rfl, rfl, rfl⟩ (h.only (by wtm_at "z_arr"))
  · simp only [eb, decide_false, Bool.false_eq_true, if_false]
    wtm_at "z_in"
    have PX := P.px
    have mo := (P.o3 o e eb ge)
    have cc := P.toWI.cnt eb (List.ne_nil_of_mem mo)
    have pos := List.length_pos_of_mem mo
    have nl := P.rg e eb (List.ne_nil_of_mem mo)
    have nl2 : e.n < (stE S e).cont.length := by rw [← P.toWI.len eb]; exact nl
    obtain ⟨r, hr⟩ : ∃ r, (stE S e).cont[e.n]? = some r := ⟨_, List.getElem?_eq_getElem nl2⟩
    have r8 := P.toWI.c8e r (List.mem_of_getElem? hr)
    obtain ⟨z, e1, e2⟩ := enT_ne eb
    have h2 := h.enSq (e := e) (t := te) (by wtm_at "z_sel")
    rw [e1] at h2
    obtain ⟨d1, d2, d3, sf, ss, tl, h⟩ := h.pagE (by wtm_at "z_sel")
    wtm_at "z_in"
    refine s_getS h (by wtm_at "z_sel") e2 ?_
    have h := h.stOut (e := e) (S := S) (by wtm_at "z_arr")
    refine s_mstore h (by wtm_at "z_sel") (fun _ _ => by wtm_at "z_no") ?_
    wtm_at "z_in"
    refine c_cells h (by wtm_at "z_sel") cc (by omega) hr fun q H h => ?_
    have h := h.pagSt1 (S := S) (e := e) (p := p) (ta := ta) (by wtm_at "z_arr")
    exact hq _ _ _ ⟨q, r, rfl, r8, rfl⟩ (h.only (by wtm_at "z_arr"))
theorem pure_Paging_put (h : sp_Paging_put K vs H Q E) : Goal (t_Paging_put K (WD E)) n_Paging_put vs H Q := by
  obtain ⟨p, ta, S, t, o, n, q, r, rfl, P, ge, r8, tr⟩ := h
  obtain ⟨F, h, hq, -⟩ := tr.open
  unfold Goal t_Paging_put; wtm_at "z_start"
  wtm_at "z_st"
  refine s_mpag h (by wtm_at "z_sel") (fun _ _ _ _ _ _ => by wtm_at "z_no") ?_
  wtm_at "z_in"
  refine c_entry h (by wtm_at "z_arr") P.nk ge fun v H h => ?_
  obtain ⟨te, rfl⟩ := h.enRef (by wtm_at "z_sel")
  have eb : En.fr n ≠ .bl := fun z => by cases z
  have mo := (P.o3 o _ eb ge)
  have cc : S.fs.own[n]? = some _ := P.toWI.cnt eb (List.ne_nil_of_mem mo)
  have pos := List.length_pos_of_mem mo
  have nl := P.rg _ eb (List.ne_nil_of_mem mo)
  have nl2 : n < S.fs.cont.length := by have := P.toWI.len eb; exact this ▸ nl
  have h2 : SqT K _ te [.str "frame", .int n] := h.enSq (e := .fr n) (t := te) (by wtm_at "z_sel")
  obtain ⟨d1, d2, d3, sf, ss, tl, h⟩ := h.pagE (by wtm_at "z_sel")
  wtm_at "z_in"
  refine s_getS h (by wtm_at "z_sel") st_frame ?_
  refine s_mstore h (by wtm_at "z_sel") (fun _ _ => by wtm_at "z_no") ?_
  wtm_at "z_in"
  refine c_put h (by wtm_at "z_arr") cc (by omega) nl2 fun H h => ?_
  have h := At.pagI (S := setSt S (.fr n) (putN S.fs n r)) (p := p) (ta := ta) (d1 := d1) (d2 := d2) (d3 := d3) (sf := sf) (ss := ss) h (by unfold setSt; dsimp only [pagF]; wtm_at "z_arr")
  have PP : PI (setSt S (.fr n) (putN S.fs n r)) := (put_px (e := .fr n) P.px r8).pi
  refine hq _ _ _ ⟨rfl, _, PP, ⟨rfl, fun _ => rfl, rfl, rfl⟩, ge, rfl⟩ (h.only (by wtm_at "z_arr"))
end
set_option Elab.async false
set_option linter.all false
set_option maxRecDepth 100000
set_option maxHeartbeats 1000000
section
variable {K : PySem.W.Frag} {F0 : FP} {H0 H : Hp} {L L1 M2 : List HP} {vs : List V} {Q : VK} {E : XK} {A : Prop} {a t p d d1 d2 d3 sf ss x s lr cr : Addr} {ta as ks : List Addr} {S : PS} {e : En} {o : Ow} {v : V} {i n : Nat} {f f' : Tb} {O : En → List Ow} {os : List Ow} {m : List (En × List Ow)} {k : Int} {X : St} {c : Int} {r : List Int}
theorem s_listT {os : List Ow} (h : At F0 H0 L H) (s : Sel (owR a os) L L1) (q : ∀ z ks H', At F0 H0 (pt z (.lst (ks.map V.ref)) :: owsP ks os :: L) H' → Q (.ref z) H') : rListT [.ref a] H Q := by
  refine ⟨a, _, rfl, .of (h.get s), fun z bs hz ik => ?_⟩
  refine q z bs _ ?_
  have h2 := h.addP (R := owsP bs os) ?_
  · exact h2.new hz
  · have key : ∀ {os : List Ow} {bs : List Addr}, IsKeys H (owV os) bs → bs.length = os.length ∧ ∀ (i : Nat) k o, bs[i]? = some k → os[i]? = some o → H k = some (.tup [.int o.1, .int o.2]) := by
      intro os
      induction os with
      | nil =>
        intro bs ik
        cases bs with
        | nil => exact ⟨rfl, fun i k o h => by simp at h⟩
        | cons b bs => cases ik
      | cons x os ih =>
        intro bs ik
        cases bs with
        | nil => cases ik
        | cons b bs =>
          cases ik with
          | cons h1 h2 =>
            obtain ⟨l, g⟩ := ih h2
            refine ⟨by simp [l], fun i k o e1 e2 => ?_⟩
            cases i with
            | zero => cases e1; cases e2; exact h1
            | succ i => exact g i k o e1 e2
    exact key ik
theorem addN_add {b : Int} (l : n < X.own.length) : addN (addN X n c) n b = addN X n (c + b) := by
  show (⟨_, _⟩ : St) = ⟨_, _⟩
  have : (X.own.set n (X.own.getD n 0 + c)).getD n 0 = X.own.getD n 0 + c := by
    rw [List.getD_eq_getElem?_getD, List.getElem?_set_self l]; rfl
  congr 1
  show (X.own.set n (X.own.getD n 0 + c)).set n ((X.own.set n (X.own.getD n 0 + c)).getD n 0 + b) = _
  rw [this, List.set_set, Int.add_assoc]
theorem addN_0 (e : X.own[n]? = some k) : addN X n 0 = X := by
  obtain ⟨l, e⟩ := List.getElem?_eq_some_iff.mp e
  show (⟨_, _⟩ : St) = _
  have : X.own.set n (X.own.getD n 0 + 0) = X.own := by
    rw [Int.add_zero, List.getD_eq_getElem?_getD, List.getElem?_eq_getElem l]
    exact List.set_getElem_self l
  rw [this]
theorem addN_at (e : X.own[n]? = some k) : (addN X n c).own[n]? = some (k + c) := by
  obtain ⟨l, e2⟩ := List.getElem?_eq_some_iff.mp e
  show (X.own.set n (X.own.getD n 0 + c))[n]? = _
  rw [List.getElem?_set_self l, List.getD_eq_getElem?_getD, e]; rfl
theorem pure_Paging_lifted (h : sp_Paging_lifted K vs H Q E) : Goal (t_Paging_lifted K (WD E)) n_Paging_lifted vs H Q := by
  obtain ⟨p, ta, S, v, e, r, rfl, ⟨eb, pos, le, cc, hr⟩, tr⟩ := h
  obtain ⟨F, h, hq, -⟩ := tr.open
  obtain ⟨te, rfl⟩ := h.enRef (by wtm_at "z_sel")
  obtain ⟨z, e1, e2⟩ := enT_ne eb
  have h2 := h.enSq (e := e) (t := te) (by wtm_at "z_sel")
  rw [e1] at h2
  obtain ⟨d1, d2, d3, sf, ss, tl, h⟩ := h.pagE (by wtm_at "z_sel")
  unfold Goal t_Paging_lifted; wtm_at "z_start"
  wtm_at "z_st"
  refine s_getS h (by wtm_at "z_sel") e2 ?_
  have h := h.stOut (e := e) (S := S) (by wtm_at "z_arr")
  wtm_at "z_in"
  wtm_at "z_st"
  refine s_mstore h (by wtm_at "z_sel") (fun _ _ => by wtm_at "z_no") ?_
  wtm_at "z_in"
  refine c_cells h (by wtm_at "z_sel") cc (by omega) hr fun cr H h => ?_
  wtm_at "z_in"
  wtm_at "z_st"
  refine s_isO h (by wtm_at "z_sel") ?_
  wtm_at "z_in"
  refine s_popO (e := e) h (by wtm_at "z_sel") (h.enKey (by wtm_at "z_sel") eb) (List.length_pos_iff.mp pos) fun a H h => ?_
  refine s_listT h (by wtm_at "z_sel") fun lr ks H h => ?_
  have kl : ks.length = (S.O e).length := h.know (P := owsP ks (S.O e)) (by wtm_at "z_sel") fun _ k => k.1
  wtm_at "z_in"
  wtm_at "z_st"
  refine s_list (by wtm_at "z_sql") ?_
  have nl := (List.getElem?_eq_some_iff.mp cc).1
  refine s_forL (xs := ks.map V.ref) (fun j σ L => ∃ u, σ = [some (.ref p), some (.ref te), some (.ref (if kd e then ss else sf)), some (.ref cr), some (.ref lr), u] ∧
      L = [store K (if kd e then ss else sf) (addN (stE S e) e.n (-(j : Int))), pt lr (.lst (ks.map V.ref)), owsP ks (S.O e), pt cr (il r), stoX K sf ss S e, obj (c_Paging K) p (pagF d1 d2 d3 S), pt d1 (.dK (stoF sf ss)), pt d2 (.dK (zv ki S.tabs (ta.map V.ref))), rowsG (table K) ta (S.tabs.map (·.2)), owns d3 (clrO S.O e), enP K (.ref te) e])
    (by rw [show -((0 : Nat) : Int) = 0 from rfl, addN_0 cc]; exact h.only (by wtm_at "z_arr")) ⟨none, rfl, rfl⟩ (fun j σ L H ⟨u, g1, g2⟩ h => by subst g1 g2; exact sqL_at h (by wtm_at "z_sel")) (fun j x σ L H hx ⟨u, g1, g2⟩ h => ?_) (fun σ L H ⟨u, g1, g2⟩ h => ?_)
  · subst g1 g2
    have jl : j < (S.O e).length := by have := (List.getElem?_eq_some_iff.mp hx).1; simp [kl] at this; exact this
    have h2 := h.enSq (e := e) (t := te) (by wtm_at "z_sel")
    rw [e1] at h2
    wtm_at "z_in"
    refine s_mstore h (by wtm_at "z_sel") (fun _ _ => by wtm_at "z_no") ?_
    wtm_at "z_in"
    refine c_less h (by wtm_at "z_sel") (addN_at cc) (by omega) fun H h => ?_
    rw [addN_add nl] at h
    refine ⟨_, ⟨_, rfl, ?_⟩, h⟩
    rw [show -((j + 1 : Nat) : Int) = -(j : Int) + -1 by omega]
  · subst g1 g2
    wtm_at "z_in"
    rw [show (ks.map V.ref).length = (S.O e).length by simp [kl]] at h
    have h := h.pagSt (S := S) (e := e) (p := p) (ta := ta) (by wtm_at "z_arr")
    have e3 : ({ setSt S e (addN (stE S e) e.n (-((S.O e).length : Int))) with O := clrO S.O e } : PS) = liftS S e := rfl
    rw [e3] at h
    rename_i tt _ _
    exact hq _ _ _ ⟨tt, cr, lr, ks, rfl, rfl⟩ (h.only (by wtm_at "z_arr"))
theorem c_lifted (h : At F0 H0 L H) (s1 : Arr [paging K p ta S, enP K v e] L L1) (ok : okLift S e r) (q : ∀ tt cr lr ks H', At F0 H0 (tp tt [.ref cr, .ref lr] :: pt cr (il r) :: pt lr (.lst (ks.map V.ref)) :: owsP ks (S.O e) :: paging K p ta (liftS S e) :: enP K v e :: L1) H' → Q (.ref tt) H') : sp_Paging_lifted K [.ref p, v] H Q E :=
  ⟨p, ta, S, v, e, r, rfl, ok, h.call s1 (fun v L' H' ⟨tt, cr, lr, ks, e1, e2⟩ h => by subst e1 e2; exact q tt cr lr ks H' h) fun _ _ _ _ z => z.elim⟩
/-! ### settle -/
theorem lay_step : ∀ {os : List Ow} {T : PS}, (os.foldl (fun S o => layS S o e) T).tabs.map (·.1) = T.tabs.map (·.1) ∧ ((os.foldl (fun S o => layS S o e) T).O e).length ≤ (T.O e).length + os.length
  | [], T => ⟨rfl, Nat.le_refl _⟩
  | o :: os, T => by
    obtain ⟨h1, h2⟩ := lay_step (os := os) (T := layS T o e)
    refine ⟨h1.trans upT_keys, Nat.le_trans h2 ?_⟩
    have : ((layS T o e).O e).length ≤ (T.O e).length + 1 := by
      unfold layS addO
      dsimp only
      split
      · omega
      · show (if e = e then (if o ∈ T.O e then T.O e else T.O e ++ [o]) else T.O e).length ≤ _
        rw [if_pos rfl]
        split
        · omega
        · simp
    simp only [List.length_cons]
    omega
theorem pure_Paging_settle (h : sp_Paging_settle K vs H Q E) : Goal (t_Paging_settle K (WD E)) n_Paging_settle vs H Q := by
  obtain ⟨p, ta, S, v, e, cr, lr, r, ks, os, rfl, ⟨eb, en, nk, pos, le, oe, cc, cl, oo⟩, tr⟩ := h
  obtain ⟨F, h, hq, -⟩ := tr.open
  obtain ⟨te, rfl⟩ := h.enRef (by wtm_at "z_sel")
  obtain ⟨z, e1, e2⟩ := enT_ne eb
  have kl : ks.length = os.length := h.know (P := owsP ks os) (by wtm_at "z_sel") fun _ k => k.1
  have h2 := h.enSq (e := e) (t := te) (by wtm_at "z_sel")
  rw [e1] at h2
  obtain ⟨d1, d2, d3, sf, ss, tl, h⟩ := h.pagE (by wtm_at "z_sel")
  unfold Goal t_Paging_settle; wtm_at "z_start"
  wtm_at "z_st"
  refine s_getS h (by wtm_at "z_sel") e2 ?_
  have h := h.stOut (e := e) (S := S) (by wtm_at "z_arr")
  wtm_at "z_in"
  wtm_at "z_st"
  refine s_mstore h (by wtm_at "z_sel") (fun _ _ => by wtm_at "z_no") ?_
  wtm_at "z_in"
  refine c_put h (by wtm_at "z_arr") cc (by omega) cl fun H h => ?_
  wtm_at "z_in"
  wtm_at "z_st"
  rename_i l2 _
  rw [show cutV (ks.map V.ref) (some 1) none = (ks.map V.ref).drop 1 from cut_from (k := 1)] at h
  refine s_list (xs := (ks.map V.ref).drop 1) (by wtm_at "z_sql") ?_
  have nl := (List.getElem?_eq_some_iff.mp cc).1
  have cc2 : (putN (stE S e) e.n r).own[e.n]? = some 1 := cc
  refine s_forL (xs := (ks.map V.ref).drop 1) (fun j σ L => ∃ u, σ = [some (.ref p), some (.ref te), some (.ref cr), some (.ref lr), some (.ref (if kd e then ss else sf)), u] ∧
      L = [store K (if kd e then ss else sf) (addN (putN (stE S e) e.n r) e.n j), pt lr (.lst (ks.map V.ref)), owsP ks os, pt cr (il r), stoX K sf ss S e, obj (c_Paging K) p (pagF d1 d2 d3 S), pt d1 (.dK (stoF sf ss)), pt d2 (.dK (zv ki S.tabs (ta.map V.ref))), rowsG (table K) ta (S.tabs.map (·.2)), owns d3 S.O, enP K (.ref te) e, pt l2 (.lst ((ks.map V.ref).drop 1))])
    (by rw [show ((0 : Nat) : Int) = 0 from rfl, addN_0 cc2]; exact h.only (by wtm_at "z_arr")) ⟨none, rfl, rfl⟩ (fun j σ L H ⟨u, g1, g2⟩ h => by subst g1 g2; exact sqL_at h (by wtm_at "z_sel")) (fun j x σ L H hx ⟨u, g1, g2⟩ h => ?_) (fun σ L H ⟨u, g1, g2⟩ h => ?_)
  · subst g1 g2
    have h2 := h.enSq (e := e) (t := te) (by wtm_at "z_sel")
    rw [e1] at h2
    wtm_at "z_in"
    refine s_mstore h (by wtm_at "z_sel") (fun _ _ => by wtm_at "z_no") ?_
    wtm_at "z_in"
    refine c_more h (by wtm_at "z_sel") (addN_at cc2) (by omega) fun H h => ?_
    rw [addN_add (X := putN (stE S e) e.n r) nl] at h
    exact ⟨_, ⟨_, rfl, rfl⟩, h⟩
  · subst g1 g2
    have el : (((ks.map V.ref).drop 1).length : Int) = os.length - 1 := by simp [kl]; omega
    rw [el] at h
    have h := h.pagSt0 (S := S) (e := e) (p := p) (ta := ta) (by wtm_at "z_arr")
    generalize hT : setSt S e (addN (putN (stE S e) e.n r) e.n (os.length - 1)) = T at h
    have hTt : T.tabs = S.tabs := by rw [← hT, set_tabs]
    have hTO : T.O = S.O := by rw [← hT, set_O]
    wtm_at "z_in"
    refine s_list (xs := ks.map V.ref) (by wtm_at "z_sql") ?_
    refine s_forL (xs := ks.map V.ref) (fun j σ L => ∃ u, σ = [some (.ref p), some (.ref te), some (.ref cr), some (.ref lr), some (.ref (if kd e then ss else sf)), u] ∧
        L = [paging K p ta ((os.take j).foldl (fun S o => layS S o e) T), pt lr (.lst (ks.map V.ref)), owsP ks os, pt cr (il r), enP K (.ref te) e])
      (by rw [List.take_zero, List.foldl_nil]; exact h.only (by wtm_at "z_arr")) ⟨u, rfl, rfl⟩ (fun j σ L H ⟨u, g1, g2⟩ h => by subst g1 g2; exact sqL_at h (by wtm_at "z_sel")) (fun j x σ L H hx ⟨u, g1, g2⟩ h => ?_) (fun σ L H ⟨u, g1, g2⟩ h => ?_)
    · subst g1 g2
      obtain ⟨k, hk, rfl⟩ : ∃ k, ks[j]? = some k ∧ V.ref k = x := by rw [List.getElem?_map] at hx; simpa using hx
      have jl : j < os.length := by have := (List.getElem?_eq_some_iff.mp hk).1; omega
      have ho : os[j]? = some os[j] := List.getElem?_eq_getElem jl
      have ht : H k = some (.tup [.int os[j].1, .int os[j].2]) := h.know (P := owsP ks os) (by wtm_at "z_sel") fun _ g => g.2 j k _ hk ho
      have h := h.dup ht rfl
      wtm_at "z_in"
      refine s_mpag h (by wtm_at "z_sel") (fun _ _ _ _ _ _ => by wtm_at "z_no") ?_
      wtm_at "z_in"
      obtain ⟨b1, b2⟩ := lay_step (e := e) (os := os.take j) (T := T)
      have oj := oo os[j] (List.getElem_mem jl)
      have ok' : okL ((os.take j).foldl (fun S o => layS S o e) T) os[j] e := by
        refine ⟨by unfold okTab; rw [b1, hTt]; exact nk, ⟨by rw [b1, hTt]; exact oj.1, oj.2⟩, fun _ => ⟨en, ?_⟩⟩
        rw [hTO] at b2
        have : (os.take j).length ≤ j := by simp; omega
        omega
      refine c_lay (o := os[j]) h (by wtm_at "z_arr") ok' fun H h => ?_
      have e5 : layS ((os.take j).foldl (fun S o => layS S o e) T) os[j] e = (os.take (j + 1)).foldl (fun S o => layS S o e) T := by
        rw [List.take_add_one, ho, List.foldl_append]; rfl
      rw [e5] at h
      exact ⟨_, ⟨_, rfl, rfl⟩, h.only (by wtm_at "z_arr")⟩
    · subst g1 g2
      rw [List.take_of_length_le (by simp [kl])] at h
      have e5 : os.foldl (fun S o => layS S o e) T = settS S e r os := by unfold settS; rw [hT]
      rw [e5] at h
      exact hq _ _ _ ⟨rfl, rfl⟩ (h.only (by wtm_at "z_arr"))
theorem c_settle (h : At F0 H0 L H) (s1 : Arr [paging K p ta S, enP K v e, pt cr (il r), pt lr (.lst (ks.map V.ref)), owsP ks os] L L1) (ok : okSett S e os) (q : ∀ H', At F0 H0 (paging K p ta (settS S e r os) :: enP K v e :: pt cr (il r) :: pt lr (.lst (ks.map V.ref)) :: owsP ks os :: L1) H' → Q .non H') : sp_Paging_settle K [.ref p, v, .ref cr, .ref lr] H Q E :=
  ⟨p, ta, S, v, e, cr, lr, r, ks, os, rfl, ok, h.call s1 (fun v L' H' ⟨e1, e2⟩ h => by subst e1 e2; exact q H' h) fun _ _ _ _ z => z.elim⟩
end
set_option Elab.async false
set_option linter.all false
set_option maxRecDepth 100000
set_option maxHeartbeats 1000000
section
variable {K : PySem.W.Frag} {F0 : FP} {H0 H : Hp} {L L1 M2 : List HP} {vs : List V} {Q : VK} {E : XK} {A : Prop} {a t p d d1 d2 d3 sf ss x s lr cr : Addr} {ta as ks : List Addr} {S : PS} {e : En} {o : Ow} {v : V} {i n : Nat} {f f' : Tb} {O : En → List Ow} {os B : List Ow} {m : List (En × List Ow)} {k : Int} {X : St} {c : Int} {r : List Int}
theorem At.enNew (h : At F0 H0 L H) (s : Sel (tp t e.tup) L L1) : At F0 H0 (enP K (.ref t) e :: L1) H := (h.sel s).conv fun F k => ⟨t, rfl, .inl k.1⟩
/-- owners are few -/
theorem PX.few (P : PX S B) (eb : e ≠ .bl) : (S.O e).length ≤ 1800 ∧ B.length ≤ 1800 := by
  have hl : heldT S.tabs ≤ S.frames + S.slots := P.hl
  have fb := P.fb
  rw [heldT_len] at hl
  have h1 := nodup_len (m := mapd S.tabs) (P.o2 e eb) fun o ho => (mapd_mem P.nk P.dom).mpr (by rw [← getE_T, P.o1 e eb o ho]; rfl)
  have h2 := nodup_len (m := mapd S.tabs) P.xn fun o ho => (mapd_mem P.nk P.dom).mpr (P.xs o ho)
  omega
theorem okSett_of (P : PX S (os ++ B)) (eb : e ≠ .bl) (en : e.n < 1000) (z : (stE S e).own[e.n]? = some 0) (o0 : os ≠ []) : okSett (takeS S e) e os := by
  have nl := (List.getElem?_eq_some_iff.mp z).1
  have fw := P.few eb
  have h1 : stE (takeS S e) e = takeN (stE S e) e.n := by unfold takeS; rw [stE_set, if_pos rfl]
  have ol : os.length ≤ 1800 := by have := fw.2; simp at this; omega
  refine ⟨eb, en, by unfold okTab takeS; rw [set_tabs]; exact P.nk, List.length_pos_iff.mpr o0, by omega, ?_, ?_, ?_, fun o ho => ?_⟩
  · unfold takeS; rw [set_O]; omega
  · rw [h1]
    show ((stE S e).own.set e.n 1)[e.n]? = some 1
    rw [List.getElem?_set_self nl]
  · rw [h1]
    show e.n < ((stE S e).cont.set e.n _).length
    rw [List.length_set, ← P.toWI.len eb]; exact nl
  · unfold okO takeS; rw [set_tabs]; exact P.toWI.bnd (P.xs o (List.mem_append_left _ ho))
theorem okLift_of (P : WI S) (eb : e ≠ .bl) (h : S.O e ≠ []) (l : (S.O e).length ≤ 5000) : okLift S e ((stE S e).cont.getD e.n []) := by
  have nl := P.rg e eb h
  have nl2 : e.n < (stE S e).cont.length := by rw [← P.len eb]; exact nl
  exact ⟨eb, List.length_pos_iff.mpr h, l, P.cnt eb h, by rw [List.getD_eq_getElem?_getD, List.getElem?_eq_getElem nl2]; rfl⟩
theorem WI.few (P : WI S) (eb : e ≠ .bl) : (S.O e).length ≤ 1800 := by
  have hl : heldT S.tabs ≤ S.frames + S.slots := P.hl
  have fb := P.fb
  rw [heldT_len] at hl
  have h1 := nodup_len (m := mapd S.tabs) (P.o2 e eb) fun o ho => (mapd_mem P.nk P.dom).mpr (by rw [← getE_T, P.o1 e eb o ho]; rfl)
  omega
theorem WI.px (W : WI S) : ∃ X, PX S X := by
  let good : Ow → Bool := fun o => match getE S o with
    | some e => decide (o ∉ S.O e)
    | none => false
  refine ⟨(mapd S.tabs).filter good, { W with o3 := fun o e eb h => ?_, xd := fun e eb o ho hX => ?_, xn := (mapd_nodup W.nk).filter _, xs := fun o ho => ?_ }⟩
  · by_cases h2 : o ∈ S.O e
    · exact .inl h2
    · refine .inr (List.mem_filter.mpr ⟨(mapd_mem W.nk W.dom).mpr (by rw [← getE_T, h]; rfl), ?_⟩)
      show (match getE S o with | some e => decide (o ∉ S.O e) | none => false) = true
      rw [h]; simpa using h2
  · have h2 := (List.mem_filter.mp hX).2
    have h2 : (match getE S o with | some e => decide (o ∉ S.O e) | none => false) = true := h2
    rw [W.o1 e eb o ho] at h2
    simp at h2
    exact h2 ho
  · exact (mapd_mem W.nk W.dom).mp (List.mem_filter.mp ho).1
theorem pure_Paging_put_out (h : sp_Paging_put_out K vs H Q E) : Goal (t_Paging_put_out K (WD E)) n_Paging_put_out vs H Q := by
  obtain ⟨p, ta, S, rfl, W, n1, n2, tr⟩ := h
  obtain ⟨F, h, hq, -⟩ := tr.open
  have hd := W.hd
  have fb := W.fb
  have hO := noFree_O W n1 (n := S.hand.toNat) (by omega)
  have ok1 := okLift_of (e := .fr S.hand.toNat) W (fun z => by cases z) hO (by have := W.few (e := .fr S.hand.toNat) (fun z => by cases z); omega)
  have hh : S.hand = (S.hand.toNat : Int) := by omega
  unfold Goal t_Paging_put_out; wtm_at "z_start"
  wtm_at "z_st"
  refine s_mpag h (by wtm_at "z_sel") (fun _ _ _ _ _ _ => by wtm_at "z_no") ?_
  obtain ⟨d1, d2, d3, sf, ss, tl, h⟩ := h.pagE (by wtm_at "z_sel")
  wtm_at "z_in"
  rename_i te _
  have h := h.pagI (S := S) (ta := ta) (p := p) (by wtm_at "z_arr")
  rw [show [V.str "frame", V.int S.hand] = (En.fr S.hand.toNat).tup by rw [hh]; rfl] at h
  have h := h.enNew (K := K) (t := te) (e := .fr S.hand.toNat) (by wtm_at "z_sel")
  refine c_lifted h (by wtm_at "z_arr") ok1 fun tt cr lr ks H h => ?_
  wtm_at "z_in"
  wtm_at "z_st"
  obtain ⟨d1, d2, d3, sf, ss, tl, h⟩ := h.pagE (by wtm_at "z_sel")
  have hf : (liftS S (.fr S.hand.toNat)).frames = S.frames := set_fr
  have hhd : (liftS S (.fr S.hand.toNat)).hand = S.hand := set_hd
  dsimp only [pagF] at h
  rw [hf, hhd] at h
  wtm_at "z_in"
  generalize hS1 : ({ liftS S (.fr S.hand.toNat) with hand := (S.hand + 1) % (S.frames : Int) } : PS) = S1
  have h := h.pagI (S := S1) (ta := ta) (p := p) (d1 := d1) (d2 := d2) (d3 := d3) (sf := sf) (ss := ss) (by rw [← hS1]; dsimp only [pagF]; rw [hf]; wtm_at "z_arr")
  refine s_mpag h (by wtm_at "z_sel") (fun _ _ _ _ _ _ => by wtm_at "z_no") ?_
  obtain ⟨d1, d2, d3, sf, ss, tl, h⟩ := h.pagE (by wtm_at "z_sel")
  wtm_at "z_in"
  refine s_getS h (by wtm_at "z_sel") st_slot ?_
  refine s_mstore h (by wtm_at "z_sel") (fun _ _ => by wtm_at "z_no") ?_
  wtm_at "z_in"
  have e1 : S1.ss = S.ss := by rw [← hS1]; rfl
  refine c_take h (by wtm_at "z_sel") (by rw [e1]; exact W.ls.1.trans W.ls.2.symm) (by rw [e1]; exact n2) fun n H z h => ?_
  rw [e1] at z
  wtm_at "z_in"
  rename_i te2 _
  have h := At.pagI (S := takeS S1 (.sl n)) (ta := ta) (p := p) (d1 := d1) (d2 := d2) (d3 := d3) (sf := sf) (ss := ss) h (by unfold takeS setSt; dsimp only [pagF, stE, En.n]; wtm_at "z_arr")
  have h := h.enNew (K := K) (t := te2) (e := .sl n) (by wtm_at "z_sel")
  obtain ⟨X, P⟩ := W.px
  have hd2 : 0 ≤ (S.hand + 1) % (S.frames : Int) ∧ (S.hand + 1) % (S.frames : Int) < S.frames := ⟨Int.emod_nonneg _ (by omega), Int.emod_lt_of_pos _ (by omega)⟩
  have P1 : PX S1 (S.O (.fr S.hand.toNat) ++ X) := by
    rw [← hS1]
    exact (lift_px (e := .fr S.hand.toNat) P (fun z => by cases z) hO hd2).1
  have nl := (List.getElem?_eq_some_iff.mp z).1
  have ok2 : okSett (takeS S1 (.sl n)) (.sl n) (S.O (.fr S.hand.toNat)) := okSett_of P1 (fun z => by cases z) (by show n < 1000; have := W.ls.1; omega) (by show S1.ss.own[n]? = some 0; rw [e1]; exact z) hO
  refine c_settle h (by wtm_at "z_arr") ok2 fun H h => ?_
  have e4 : settS (takeS S1 (.sl n)) (.sl n) (S.fs.cont.getD S.hand.toNat []) (S.O (.fr S.hand.toNat)) = outS S n := by rw [← hS1]; rfl
  rw [e4] at h
  exact hq _ _ _ ⟨rfl, n, z, rfl⟩ (h.only (by wtm_at "z_arr"))
theorem c_out (h : At F0 H0 L H) (s1 : Sel (paging K p ta S) L L1) (W : WI S) (n1 : noFree S.fs) (n2 : ¬ noFree S.ss) (q : ∀ n H', S.ss.own[n]? = some 0 → At F0 H0 (paging K p ta (outS S n) :: L1) H' → Q .non H') : sp_Paging_put_out K [.ref p] H Q E :=
  ⟨p, ta, S, rfl, W, n1, n2, h.call (.cons s1 .nil) (fun v L' H' ⟨e1, n, e2, e3⟩ h => by subst e1 e3; exact q n H' e2 h) fun _ _ _ _ z => z.elim⟩
theorem count0 {X : St} : X.own.count 0 = 0 ↔ noFree X := by
  rw [List.count_eq_zero]
  unfold noFree
  constructor
  · intro h c hc e; subst e; exact h hc
  · intro h m; exact h 0 m rfl
theorem pure_Paging_frame_taken (h : sp_Paging_frame_taken K vs H Q E) : Goal (t_Paging_frame_taken K (WD E)) n_Paging_frame_taken vs H Q := by
  obtain ⟨p, ta, S, rfl, W, n1, tr⟩ := h
  obtain ⟨F, h, hq, -⟩ := tr.open
  unfold Goal t_Paging_frame_taken; wtm_at "z_start"
  wtm_at "z_st"
  obtain ⟨d1, d2, d3, sf, ss, tl, h⟩ := h.pagE (by wtm_at "z_sel")
  wtm_at "z_in"
  refine s_getS h (by wtm_at "z_sel") st_frame ?_
  refine s_mstore h (by wtm_at "z_sel") (fun _ _ => by wtm_at "z_no") ?_
  wtm_at "z_in"
  refine c_free h (by wtm_at "z_sel") fun H5 h => ?_
  have h := h.pagI (S := S) (ta := ta) (p := p) (by wtm_at "z_arr")
  wtm_at "z_in"
  have hlen := W.lf.1.trans W.lf.2.symm
  have fin : ∀ (S2 : PS) (H2 : Hp), S2.fs.own.length = S2.fs.cont.length → ¬ noFree S2.fs → (∀ n, S2.fs.own[n]? = some 0 → FT S n (takeS S2 (.fr n))) → At F H [paging K p ta S2] H2 →
      tRet (tTup (tCons (tC (.str "frame")) (tCons (tM (c_Store K) "take" (sp_Store_take K) (WE (WD E)) (tDGet (tF (c_Paging K) "stores" (tVar 0)) (tC (.str "frame"))) tNil) tNil))) ⟨fun _ H' => Q .non H', Q, fun _ _ => False, fun _ _ => False⟩ [some (.ref p)] H2 := by
    clear h
    intro S2 H2 l2 nf ft h
    obtain ⟨d1, d2, d3, sf, ss, tl, h⟩ := h.pagE (by wtm_at "z_sel")
    wtm_at "z_in"
    refine s_getS h (by wtm_at "z_sel") st_frame ?_
    refine s_mstore h (by wtm_at "z_sel") (fun _ _ => by wtm_at "z_no") ?_
    wtm_at "z_in"
    refine c_take h (by wtm_at "z_sel") l2 nf fun n H z h => ?_
    wtm_at "z_in"
    rename_i te2 _
    have h := At.pagI (S := takeS S2 (.fr n)) (ta := ta) (p := p) (d1 := d1) (d2 := d2) (d3 := d3) (sf := sf) (ss := ss) h (by unfold takeS setSt; dsimp only [pagF, stE, En.n]; wtm_at "z_arr")
    have h := h.enNew (K := K) (t := te2) (e := .fr n) (by wtm_at "z_sel")
    exact hq _ _ _ ⟨n, _, ft n z, rfl⟩ h
  simp only [q_ret, q_tup, q_cons, q_c, q_m, q_nil, q_dget, q_f, q_var0] at fin
  by_cases nf : noFree S.fs
  · rw [if_pos (by simpa using count0.mpr nf)]
    refine s_mpag h (by wtm_at "z_sel") (fun _ _ _ _ _ _ => by wtm_at "z_no") ?_
    refine c_out h (by wtm_at "z_sel") W nf (n1 nf) fun m H z h => ?_
    obtain ⟨X, P⟩ := W.px
    obtain ⟨P2, a1, a2, a3, a4, a5, a6⟩ := out_px P nf z
    exact fin (outS S m) H (P2.lf.1.trans P2.lf.2.symm) (fun z => z 0 (List.mem_of_getElem? a5) rfl) (fun n hn => .out n m nf z hn) h
  · rw [if_neg (by intro z; exact nf (count0.mp (by simpa using z)))]
    exact fin S _ hlen nf (fun n hn => .free n hn) h
theorem c_ftaken (h : At F0 H0 L H) (s1 : Sel (paging K p ta S) L L1) (W : WI S) (n1 : noFree S.fs → ¬ noFree S.ss) (q : ∀ v n S' H', FT S n S' → At F0 H0 (enP K v (.fr n) :: paging K p ta S' :: L1) H' → Q v H') : sp_Paging_frame_taken K [.ref p] H Q E :=
  ⟨p, ta, S, rfl, W, n1, h.call (.cons s1 .nil) (fun v L' H' ⟨n, S', e1, e2⟩ h => by subst e2; exact q v n S' H' e1 h) fun _ _ _ _ z => z.elim⟩
/-- a frame taken for pages on the way -/
theorem FT.px {n : Nat} {S' : PS} {B os : List Ow} (P : PX S (os ++ B)) (o0 : os ≠ []) (T : FT S n S') (r8 : r.length = 8) :
    okSett S' (.fr n) os ∧ PX (settS S' (.fr n) r os) B ∧ (∀ o ∈ os, getE (settS S' (.fr n) r os) o = some (.fr n)) ∧ (∀ o, (getE (settS S' (.fr n) r os) o).isSome = (getE S o).isSome) ∧ (settS S' (.fr n) r os).frames = S.frames ∧ (settS S' (.fr n) r os).slots = S.slots ∧ (settS S' (.fr n) r os).tabs.map (·.1) = S.tabs.map (·.1) := by
  have fin : ∀ S2 : PS, PX S2 (os ++ B) → S2.fs.own[n]? = some 0 → (∀ o, (getE S2 o).isSome = (getE S o).isSome) → S2.frames = S.frames → S2.slots = S.slots → S2.tabs.map (·.1) = S.tabs.map (·.1) →
      okSett (takeS S2 (.fr n)) (.fr n) os ∧ PX (settS (takeS S2 (.fr n)) (.fr n) r os) B ∧ (∀ o ∈ os, getE (settS (takeS S2 (.fr n)) (.fr n) r os) o = some (.fr n)) ∧ (∀ o, (getE (settS (takeS S2 (.fr n)) (.fr n) r os) o).isSome = (getE S o).isSome) ∧ (settS (takeS S2 (.fr n)) (.fr n) r os).frames = S.frames ∧ (settS (takeS S2 (.fr n)) (.fr n) r os).slots = S.slots ∧ (settS (takeS S2 (.fr n)) (.fr n) r os).tabs.map (·.1) = S.tabs.map (·.1) := by
    intro S2 P2 z i1 i2 i3 i4
    have nl := (List.getElem?_eq_some_iff.mp z).1
    have fb := P2.fb
    have l1 := P2.lf.1
    obtain ⟨b1, b2, b3⟩ := sett_px (e := .fr n) P2 (fun z => by cases z) z o0 r8
    refine ⟨okSett_of (e := .fr n) P2 (fun z => by cases z) (by show n < 1000; omega) z o0, b1, fun o ho => by rw [b2.get, if_pos ho], fun o => ?_, b2.frames.trans i2, b2.slots.trans i3, b2.keys.trans i4⟩
    rw [b2.get]
    split
    · next ho => rw [← i1, P2.xs o (List.mem_append_left _ ho)]; rfl
    · exact i1 o
  cases T with
  | free z => exact fin S P z (fun _ => rfl) rfl rfl rfl
  | out m nf z zn =>
    obtain ⟨P2, a1, a2, a3, a4, a5, a6⟩ := out_px P nf z
    exact fin (outS S m) P2 zn a4 a1 a2 a3
theorem pure_Paging_fetch (h : sp_Paging_fetch K vs H Q E) : Goal (t_Paging_fetch K (WD E)) n_Paging_fetch vs H Q := by
  obtain ⟨p, ta, S, t, o, rfl, P, is, tr⟩ := h
  obtain ⟨e, ge⟩ := Option.isSome_iff_exists.mp is
  obtain ⟨F, h, hq, -⟩ := tr.open
  unfold Goal t_Paging_fetch; wtm_at "z_start"
  wtm_at "z_st"
  refine s_mpag h (by wtm_at "z_sel") (fun _ _ _ _ _ _ => by wtm_at "z_no") ?_
  wtm_at "z_in"
  refine c_entry h (by wtm_at "z_arr") P.nk ge fun v H h => ?_
  obtain ⟨te, rfl⟩ := h.enRef (by wtm_at "z_sel")
  wtm_at "z_in"
  cases e with
  | bl =>
    have h2 : SqT K _ te [.str "blank"] := h.enSq (e := .bl) (t := te) (by wtm_at "z_sel")
    wtm_at "z_in"
    refine s_ifno (by decide +kernel) ?_
    exact hq _ _ _ ⟨rfl, S, P, ⟨rfl, fun _ => rfl, rfl, rfl⟩, .inl ge, fun z => (z ge).elim, rfl⟩ (h.only (by wtm_at "z_arr"))
  | fr n =>
    have h2 : SqT K _ te [.str "frame", .int n] := h.enSq (e := .fr n) (t := te) (by wtm_at "z_sel")
    wtm_at "z_in"
    refine s_ifno (by decide +kernel) ?_
    exact hq _ _ _ ⟨rfl, S, P, ⟨rfl, fun _ => rfl, rfl, rfl⟩, .inr ⟨n, ge⟩, fun _ => ⟨n, ge⟩, rfl⟩ (h.only (by wtm_at "z_arr"))
  | sl n =>
    have h2 : SqT K _ te [.str "slot", .int n] := h.enSq (e := .sl n) (t := te) (by wtm_at "z_sel")
    have eb : En.sl n ≠ .bl := fun z => by cases z
    have mo := P.o3 o _ eb ge
    have ne := List.ne_nil_of_mem mo
    wtm_at "z_in"
    have fw := P.toWI.few eb
    have ok1 := okLift_of P.toWI eb ne (by omega)
    have r8 : ((stE S (.sl n)).cont.getD (En.sl n).n []).length = 8 := P.toWI.c8e _ (List.mem_of_getElem? ok1.2.2.2.2)
    wtm_at "z_st"
    refine s_mpag h (by wtm_at "z_sel") (fun _ _ _ _ _ _ => by wtm_at "z_no") ?_
    wtm_at "z_in"
    refine c_lifted h (by wtm_at "z_arr") ok1 fun tt cr lr ks H h => ?_
    wtm_at "z_in"
    refine s_mpag h (by wtm_at "z_sel") (fun _ _ _ _ _ _ => by wtm_at "z_no") ?_
    wtm_at "z_in"
    refine s_mpag h (by wtm_at "z_sel") (fun _ _ _ _ _ _ => by wtm_at "z_no") ?_
    wtm_at "z_in"
    have P1 : PX (liftS S (.sl n)) (S.O (.sl n) ++ []) := by
      have := (lift_px (d := S.hand) P.px eb ne P.hd).1
      have e1 : ({ liftS S (.sl n) with hand := S.hand } : PS) = liftS S (.sl n) := rfl
      rw [e1] at this
      exact this
    refine c_ftaken h (by wtm_at "z_sel") P1.toWI (P1.room (by simpa using ne)) fun v n' S' H ft h => ?_
    obtain ⟨ok2, P2, g1, g2, g3, g4, g5⟩ := FT.px P1 ne ft r8
    refine c_settle h (by wtm_at "z_arr") ok2 fun H h => ?_
    exact hq _ _ _ ⟨rfl, _, P2.pi, ⟨g5, g2, g3, g4⟩, .inr ⟨_, g1 o mo⟩, fun _ => ⟨_, g1 o mo⟩, rfl⟩ (h.only (by wtm_at "z_arr"))
theorem c_leave (h : At F0 H0 L H) (s1 : Arr [paging K p ta S, ow t o] L L1) (nk : okTab S) (ge : getE S o = some e) (tk : e ≠ .bl → taken S e ∧ o ∈ S.O e) (q : ∀ H', At F0 H0 (paging K p ta (leaveS S o e) :: ow t o :: L1) H' → Q .non H') : sp_Paging_leave K [.ref p, .ref t] H Q E :=
  ⟨p, ta, S, t, o, e, rfl, nk, ge, tk, h.call s1 (fun v L' H' ⟨e1, e2⟩ h => by subst e1 e2; exact q H' h) fun _ _ _ _ z => z.elim⟩
theorem c_pcells (h : At F0 H0 L H) (s1 : Arr [paging K p ta S, ow t o] L L1) (P : PI S) (is : (getE S o).isSome = true) (q : ∀ z r H', r.length = 8 → At F0 H0 (pt z (il r) :: paging K p ta S :: ow t o :: L1) H' → Q (.ref z) H') : sp_Paging_cells K [.ref p, .ref t] H Q E :=
  ⟨p, ta, S, t, o, rfl, P, is, h.call s1 (fun v L' H' ⟨z, r, e1, e2, e3⟩ h => by subst e1 e3; exact q z r H' e2 h) fun _ _ _ _ z => z.elim⟩
theorem c_fetch (h : At F0 H0 L H) (s1 : Arr [paging K p ta S, ow t o] L L1) (P : PI S) (is : (getE S o).isSome = true) (q : ∀ S' H', PI S' → Same S S' → near (getE S' o) → (getE S o ≠ some .bl → ∃ n, getE S' o = some (.fr n)) → At F0 H0 (paging K p ta S' :: ow t o :: L1) H' → Q .non H') : sp_Paging_fetch K [.ref p, .ref t] H Q E :=
  ⟨p, ta, S, t, o, rfl, P, is, h.call s1 (fun v L' H' ⟨e1, S', e2, e3, e4, e5, e6⟩ h => by subst e1 e6; exact q S' H' e2 e3 e4 e5 h) fun _ _ _ _ z => z.elim⟩
theorem pure_Paging_part (hB : BlankAt K) (h : sp_Paging_part K vs H Q E) : Goal (t_Paging_part K (WD E)) n_Paging_part vs H Q := by
  obtain ⟨p, ta, S, t, o, rfl, P, is, tr⟩ := h
  obtain ⟨e, ge⟩ := Option.isSome_iff_exists.mp is
  obtain ⟨F, h, hq, -⟩ := tr.open
  have fin : ∀ (te : Addr) (c : Option V) (H2 : Hp), (e ≠ .bl → 2 ≤ (S.O e).length) → At F H [enP K (.ref te) e, paging K p ta S, ow t o] H2 →
      tSeq (tAsg (tM (c_Paging K) "cells" (sp_Paging_cells K) (WE (WD E)) (tVar 0) (tCons (tVar 1) tNil)) (gName 3))
        (tSeq (tDrop (tM (c_Paging K) "leave" (sp_Paging_leave K) (WE (WD E)) (tVar 0) (tCons (tVar 1) tNil)))
        (tDrop (tM (c_Paging K) "settle" (sp_Paging_settle K) (WE (WD E)) (tVar 0) (tCons (tM (c_Paging K) "frame_taken" (sp_Paging_frame_taken K) (WE (WD E)) (tVar 0) tNil) (tCons (tVar 3) (tCons (tLst (tCons (tVar 1) tNil)) tNil))))))
        ⟨fun _ H' => Q .non H', Q, fun _ _ => False, fun _ _ => False⟩ [some (.ref p), some (.ref t), some (.ref te), c] H2 := by
    intro te c H2 l2 h
    wtm_at "z_st"
    refine s_mpag h (by wtm_at "z_sel") (fun _ _ _ _ _ _ => by wtm_at "z_no") ?_
    wtm_at "z_in"
    refine c_pcells h (by wtm_at "z_arr") P is fun cr r H3 r8 h => ?_
    wtm_at "z_in"
    wtm_at "z_st"
    refine s_mpag h (by wtm_at "z_sel") (fun _ _ _ _ _ _ => by wtm_at "z_no") ?_
    wtm_at "z_in"
    obtain ⟨P1, k1, tk⟩ := leave_px P.px ge (by simp)
    refine c_leave h (by wtm_at "z_arr") P.nk ge tk fun H4 h => ?_
    wtm_at "z_in"
    refine s_mpag h (by wtm_at "z_sel") (fun _ _ _ _ _ _ => by wtm_at "z_no") ?_
    wtm_at "z_in"
    refine s_mpag h (by wtm_at "z_sel") (fun _ _ _ _ _ _ => by wtm_at "z_no") ?_
    wtm_at "z_in"
    refine c_ftaken h (by wtm_at "z_sel") P1.toWI (P1.room (by simp)) fun v n' S' H' ft h => ?_
    have P1' : PX (leaveS S o e) ([o] ++ []) := P1
    obtain ⟨ok2, P2, g1, g2, g3, g4, g5⟩ := FT.px P1' (by simp) ft r8
    have ht := h.getX (a := t) (o := .tup [.int o.1, .int o.2]) (by wtm_at "z_sel")
    wtm_at "z_in"
    rename_i lr _
    have h := h.addP (R := owsP [t] [o]) ⟨rfl, fun i k o' e1 e2 => by
      cases i with
      | zero => cases e1; cases e2; exact h.getX (by wtm_at "z_sel")
      | succ i => simp at e1⟩
    have h : At F H _ _ := h
    rw [show HO.lst [V.ref t] = .lst ([t].map V.ref) from rfl] at h
    refine c_settle h (by wtm_at "z_arr") ok2 fun H h => ?_
    refine hq _ _ _ ⟨rfl, _, n', P2.pi, ⟨g5.trans (congrArg (List.map (·.1)) k1.tabs), fun o' => (g2 o').trans (by rw [k1.get]), g3.trans k1.frames, g4.trans k1.slots⟩, g1 o (by simp), rfl⟩ (h.only (by wtm_at "z_arr"))
  unfold Goal t_Paging_part; wtm_at "z_start"
  wtm_at "z_st"
  refine s_mpag h (by wtm_at "z_sel") (fun _ _ _ _ _ _ => by wtm_at "z_no") ?_
  wtm_at "z_in"
  refine c_entry h (by wtm_at "z_arr") P.nk ge fun v H2 h => ?_
  obtain ⟨te, rfl⟩ := h.enRef (by wtm_at "z_sel")
  wtm_at "z_st"
  refine s_neB hB h (by wtm_at "z_sel") ?_
  wtm_at "z_in"
  by_cases eb : e = .bl
  · subst eb
    wtm_at "z_in"
    exact fin te _ _ (fun z => (z rfl).elim) h
  · simp only [eb, decide_false, Bool.not_false, if_true]
    have mo := (P.o3 o e eb ge)
    have cc := P.toWI.cnt eb (List.ne_nil_of_mem mo)
    have pos := List.length_pos_of_mem mo
    obtain ⟨z, e1, e2⟩ := enT_ne eb
    have h2 := h.enSq (e := e) (t := te) (by wtm_at "z_sel")
    rw [e1] at h2
    obtain ⟨d1, d2, d3, sf, ss, tl, h⟩ := h.pagE (by wtm_at "z_sel")
    wtm_at "z_in"
    refine s_getS h (by wtm_at "z_sel") e2 ?_
    have h := h.stOut (e := e) (S := S) (by wtm_at "z_arr")
    refine s_mstore h (by wtm_at "z_sel") (fun _ _ => by wtm_at "z_no") ?_
    wtm_at "z_in"
    refine c_count h (by wtm_at "z_sel") cc fun H3 h => ?_
    have h := h.pagSt1 (S := S) (e := e) (p := p) (ta := ta) (by wtm_at "z_arr")
    wtm_at "z_in"
    by_cases c1 : ((S.O e).length : Int) = 1
    · simp only [c1, decide_true, if_true]
      wtm_at "z_in"
      wtm_at "z_st"
      refine s_mpag h (by wtm_at "z_sel") (fun _ _ _ _ _ _ => by wtm_at "z_no") ?_
      wtm_at "z_in"
      refine c_fetch h (by wtm_at "z_arr") P is fun S' H4 P' sm nr fr h => ?_
      wtm_at "z_in"
      obtain ⟨n, hn⟩ := fr (by rw [ge]; intro z; exact eb (Option.some.inj z))
      exact hq _ _ _ ⟨rfl, S', n, P', sm, hn, rfl⟩ (h.only (by wtm_at "z_arr"))
    · simp only [c1, decide_false, Bool.false_eq_true, if_false]
      wtm_at "z_in"
      exact fin te _ _ (fun _ => by omega) (h.arr (.cons (.there .here) (.cons .here (.cons .here .nil))))
end
set_option Elab.async false
set_option linter.all false
set_option maxRecDepth 100000
set_option maxHeartbeats 1000000
section
variable {K : PySem.W.Frag} {F0 : FP} {H0 H : Hp} {L L1 M2 : List HP} {D : Ends} {σ : L2.St} {vs : List V} {Q : VK} {E : XK} {A : Prop} {a t p d q d1 d2 d3 sf ss x s lr cr rr : Addr} {ta as ks : List Addr} {S : PS} {e : En} {o : Ow} {v : V} {i n : Nat} {f f' : Tb} {os B : List Ow} {k : Int} {X : St} {c : Int} {r : List Int}
/-! ### loops over anything that walks; a while; ranges made lists -/
theorem s_forW {J : It} {n : Nat} {G : Hp → Prop} {Y : Nat → Hp → V → Hp → Prop} {g : TG} {tb : TS} (w : Walk J n G Y) (I : Nat → L2.St → List HP → Prop) (h : At F0 H0 L H) (h0 : I 0 σ L) (hG : ∀ j σ L H, j ≤ n → I j σ L → At F0 H0 L H → G H)
    (hs : ∀ j x σ L H H', j < n → I j σ L → At F0 H0 L H → Y j H x H' → g x σ H' fun σ2 H2 => tb ⟨inv F0 H0 (I (j + 1)), D.rt, D.nx, inv F0 H0 (I (j + 1))⟩ σ2 H2) (hd : ∀ σ L H, I n σ L → At F0 H0 L H → D.nx σ H) :
    forEnd J g tb D σ H :=
  for_it w (fun j => inv F0 H0 (I j)) ⟨L, h0, h⟩ (fun j σ H hj ⟨L, i, h⟩ => hG j σ L H hj i h) (fun j x σ H H' hj ⟨L, i, h⟩ y => hs j x σ L H H' hj i h y) fun σ H ⟨L, i, h⟩ => hd σ L H i h
theorem s_lcW {J : It} {n : Nat} {G : Hp → Prop} {Y : Nat → Hp → V → Hp → Prop} {g : TG} {te : TE} {vs : List Nat} (w : Walk J n G Y) (I : Nat → List V → List HP → Prop) (h : At F0 H0 L H) (h0 : I 0 [] L) (hG : ∀ j acc L D H, j ≤ n → I j acc L → At F0 H0 (pt D (.lst acc) :: L) H → G H)
    (hs : ∀ j x acc L D H H', j < n → I j acc L → At F0 H0 (pt D (.lst acc) :: L) H → Y j H x H' → g x (wipe σ vs) H' fun σ2 H2 => wipe σ2 vs = wipe σ vs ∧ te σ2 H2 (accK F0 H0 D (I (j + 1))))
    (hd : ∀ acc L D H, I n acc L → At F0 H0 (pt D (.lst acc) :: L) H → Q (.ref D) H) :
    ∀ D, H D = none → lcEnd J g tYes te vs σ Q D H := fun D hD =>
  lc_it w (fun j => invC F0 H0 D (I j)) ⟨[], L, h0, h.new hD⟩ (fun j H hj ⟨acc, L, i, h⟩ => hG j acc L D H hj i h) (fun j x H H' hj ⟨acc, L, i, h⟩ y => by
    have z := hs j x acc L D H H' hj i h y
    have e : (fun σ2 H2 => wipe σ2 vs = wipe σ vs ∧ tYes σ2 H2 fun b H3 => if b = true then te σ2 H3 fun y H4 => ∃ acc, H4 D = some (.lst acc) ∧ acc.length < sizeLine ∧ invC F0 H0 D (I (j + 1)) (upd H4 D (.lst (acc ++ [y]))) else invC F0 H0 D (I (j + 1)) H3)
        = (fun σ2 H2 => wipe σ2 vs = wipe σ vs ∧ te σ2 H2 (accK F0 H0 D (I (j + 1)))) := by
      funext σ2 H2
      exact propext ⟨fun ⟨a, b⟩ => ⟨a, by
        have b : (if true = true then te σ2 H2 (accK F0 H0 D (I (j + 1))) else invC F0 H0 D (I (j + 1)) H2) := b
        rw [if_pos rfl] at b; exact b⟩, fun ⟨a, b⟩ => ⟨a, s_yesC b⟩⟩
    rw [e]
    exact z) fun H ⟨acc, L, i, h⟩ => hd acc L D H i h
theorem s_whl {c : TT} {tb : TS} (I : Nat → L2.St → List HP → Prop) {m0 : Nat} (h : At F0 H0 L H) (h0 : I m0 σ L)
    (hs : ∀ m σ L H, I m σ L → At F0 H0 L H → c σ H fun b H1 => if b = true then ∃ N : L2.St → Hp → Prop, (∀ σ' H', N σ' H' → ∃ m', m' < m ∧ inv F0 H0 (I m') σ' H') ∧ tb { D with nx := N, ct := N, bk := D.nx } σ H1 else D.nx σ H1) : tWhile c tb D σ H :=
  s_while ⟨fun m σ H => inv F0 H0 (I m) σ H, ⟨m0, L, h0, h⟩, fun m σ H ⟨L, i, h⟩ => hs m σ L H i h⟩
theorem q_lstRg {te : L2.St → Hp → (Int → Int → Hp → Prop) → Prop} : tLstRg te σ H Q = te σ H fun a b H1 => RgOk a b ∧ ∀ q, H1 q = none → Q (.ref q) (upd H1 q (.lst (rgV a b))) := rfl
theorem q_rg2 {ta tb : TE} {P : Int → Int → Hp → Prop} : tRg2 ta tb σ H P = ta σ H fun x H1 => tb σ H1 fun y H2 => ∃ i j, x = .int i ∧ y = .int j ∧ P i j H2 := rfl
theorem s_rg2 {i j : Int} {P : Int → Int → Prop} (q : P i j) : ∃ i' j', V.int i = .int i' ∧ V.int j = .int j' ∧ P i' j' := ⟨i, j, rfl, rfl, q⟩
theorem pure_pages_asked (h : sp_pages_asked K vs H Q E) : Goal (t_pages_asked K (WD E)) n_pages_asked vs H Q := by
  obtain ⟨p, m, rfl, tr⟩ := h
  obtain ⟨F, h, hq, he⟩ := tr.open
  unfold Goal t_pages_asked; wtm_at "z_start"
  wtm_at "z_st"
  wtm_at "z_if"
  · exact he _ _ _ _ ⟨rfl, rfl, rfl⟩ h
  wtm_at "z_if"
  · exact he _ _ _ _ ⟨rfl, rfl, rfl⟩ h
  wtm_at "z_if"
  · exact he _ _ _ _ ⟨rfl, rfl, rfl⟩ h
  simp only [q_lstRg, q_rg2]
  wtm_at "z_in"
  refine s_rg2 ⟨.of_le (by omega) (by omega) (by omega) (by omega), fun z hz => ?_⟩
  exact hq _ _ _ ⟨z, rfl, by omega, by omega, by omega, rfl⟩ (h.new hz)
theorem chain_snoc : ∀ {xs : List (Int × Int × Int)} {a b l : Int}, chain a b xs → b % 8 < l → l ≤ 8 → chain a (b + (l - b % 8)) (xs ++ [(b / 8, b % 8, l)])
  | [], a, b, l, h, h1, h2 => by
    have h : a = b := h
    subst h
    exact ⟨rfl, rfl, h1, h2, by omega, rfl⟩
  | (p, u, w) :: xs, a, b, l, ⟨e1, e2, e3, e4, e5, e6⟩, h1, h2 => ⟨e1, e2, e3, e4, by omega, chain_snoc e6 h1 h2⟩
theorem triP_snoc {z : Addr} {ks : List Addr} {xs : List (Int × Int × Int)} {x : Int × Int × Int} (h : At F0 H0 L H) (s : Arr [tp z [.int x.1, .int x.2.1, .int x.2.2], triP ks xs] L L1) : At F0 H0 (triP (ks ++ [z]) (xs ++ [x]) :: L1) H := by
  have h := h.arr s
  have h1 := h.getX .here
  obtain ⟨l, h2⟩ := h.know (.there .here) fun _ k => k
  refine (h.drop.drop).addP ⟨by simp [l], fun i k y e1 e2 => ?_⟩
  by_cases il : i < ks.length
  · rw [List.getElem?_append_left il] at e1
    rw [List.getElem?_append_left (by omega)] at e2
    exact h2 i k y e1 e2
  · rw [List.getElem?_append_right (by omega)] at e1
    rw [List.getElem?_append_right (by omega)] at e2
    have i0 : i - ks.length = 0 := by
      have := (List.getElem?_eq_some_iff.mp e1).1
      simp at this; omega
    rw [i0] at e1
    rw [show i - xs.length = 0 by omega] at e2
    simp at e1 e2
    subst e1 e2
    exact h1
theorem pure_stretches_of (h : sp_stretches_of K vs H Q E) : Goal (t_stretches_of K (WD E)) n_stretches_of vs H Q := by
  obtain ⟨a, m, rfl, m0, m1, am, tr⟩ := h
  obtain ⟨F, h, hq, -⟩ := tr.open
  unfold Goal t_stretches_of; wtm_at "z_start"
  wtm_at "z_st"
  wtm_at "z_st"
  rename_i q _
  refine s_seq ?_
  have h := h.addP (R := triP [] []) ⟨rfl, fun i k x e => by simp at e⟩
  rw [show HO.lst [] = .lst (([] : List Addr).map V.ref) from rfl] at h
  refine s_whl (I := fun M σ L => ∃ b u ks xs, σ = [some (.int a), some (.int m), some (.ref q), some (.int b), u] ∧ L = [pt q (.lst (ks.map V.ref)), triP ks xs] ∧ ks.length = xs.length ∧ chain a b xs ∧ a ≤ b ∧ b ≤ a + m ∧ M = (a + m - b).toNat ∧ (xs.length : Int) ≤ b - a) (m0 := m.toNat)
    (h.only (by wtm_at "z_arr")) ⟨a, none, [], [], rfl, rfl, rfl, rfl, by omega, by omega, by congr 1; omega, by simp⟩ fun M σ L H ⟨b, u, ks, xs, e1, e2, kl, ch, ab, bm, eM, xl⟩ h => ?_
  subst e1 e2
  wtm_at "z_in"
  wtm_at "z_if"
  · rename_i lt
    have a0 := am (by omega)
    refine ⟨_, fun _ _ z => z, ?_⟩
    wtm_at "z_go"
    rename_i z _ _ _
    have hen : b < (if (b / 8 + 1) * 8 < a + m then (b / 8 + 1) * 8 else a + m) ∧ (if (b / 8 + 1) * 8 < a + m then (b / 8 + 1) * 8 else a + m) ≤ a + m ∧ (if (b / 8 + 1) * 8 < a + m then (b / 8 + 1) * 8 else a + m) ≤ (b / 8 + 1) * 8 := by
      split <;> omega
    generalize (if (b / 8 + 1) * 8 < a + m then (b / 8 + 1) * 8 else a + m) = en at h hen
    have ch2 := chain_snoc (l := b % 8 + en - b) ch (by omega) (by omega)
    rw [show b + (b % 8 + en - b - b % 8) = en by omega] at ch2
    have h := triP_snoc (z := z) (x := (b / 8, b % 8, b % 8 + en - b)) (ks := ks) (xs := xs) h (by wtm_at "z_arr")
    rw [show List.map V.ref ks ++ [V.ref z] = (ks ++ [z]).map V.ref by simp] at h
    exact ⟨(a + m - en).toNat, by omega, _, ⟨en, _, ks ++ [z], _, rfl, rfl, by simp [kl], ch2, by omega, by omega, rfl, by simp; omega⟩, h.arr (.cons (.there .here) (.cons .here .nil))⟩
  · wtm_at "z_in"
    have : b = a + m := by omega
    subst this
    exact hq _ _ _ ⟨q, ks, xs, rfl, ch, rfl⟩ h
/-! ### rooms open -/
theorem At.rooE (h : At F0 H0 L H) (s1 : Sel (rooms K rr ta S) L L1) : ∃ p, At F0 H0 (obj (c_Rooms K) rr [("paging", .ref p)] :: paging K p ta S :: L1) H := by
  obtain ⟨p, h⟩ := (h.sel s1).exE
  exact ⟨p, h.allE⟩
theorem At.rooI (h : At F0 H0 L H) (s1 : Arr [obj (c_Rooms K) rr [("paging", .ref p)], paging K p ta S] L L1) : At F0 H0 (rooms K rr ta S :: L1) H := (At.allI (h.arr s1)).exI p
theorem s_mroo {n : Str} (h : At F0 H0 L H) (s1 : Sel (rooms K rr ta S) L L1) (l : ∀ a, List.lookup n [(("paging" : Str), (a : V))] = none) (q : A) : kIns (c_Rooms K) n (.ref rr) H ∧ A := by
  obtain ⟨p, h⟩ := h.rooE s1
  obtain ⟨dx, e⟩ := h.ob .here
  exact ⟨⟨rr, dx, _, rfl, e, l _⟩, q⟩
theorem pure_Rooms___init__ (h : sp_Rooms___init__ K vs H Q E) : Goal (t_Rooms___init__ K (WD E)) n_Rooms___init__ vs H Q := by
  obtain ⟨x, m, n, rfl, m1, n1, tr⟩ := h
  obtain ⟨F, h, hq, -⟩ := tr.open
  unfold Goal t_Rooms___init__; wtm_at "z_start"
  wtm_at "z_in"
  rename_i p _
  refine ⟨p, m, n, rfl, m1, n1, h.call (.cons .here .nil) (fun v L' H' ⟨e1, e2⟩ h => ?_) fun _ _ _ _ z => z.elim⟩
  subst e1 e2
  refine ⟨rfl, ?_⟩
  have h : At F H (paging K p [] (initS m n) :: obj (c_Rooms K) x [] :: []) H' := h
  wtm_at "z_in"
  exact hq _ _ _ ⟨rfl, rfl⟩ (h.rooI (by wtm_at "z_arr"))
theorem valT_none (tl : ta.length = S.tabs.length) (h : ¬ k ∈ S.tabs.map (·.1)) : valV (zv ki S.tabs (ta.map V.ref)) (Sum.inl k : Key) = none := zv_none (enc := ki) ki_inj (by simpa using tl) h
theorem pure_Rooms_table_of (h : sp_Rooms_table_of K vs H Q E) : Goal (t_Rooms_table_of K (WD E)) n_Rooms_table_of vs H Q := by
  obtain ⟨r, ta, S, t, rfl, nk, tr⟩ := h
  obtain ⟨F, h, hq, he⟩ := tr.open
  unfold Goal t_Rooms_table_of; wtm_at "z_start"
  wtm_at "z_st"
  obtain ⟨p, h⟩ := h.rooE (by wtm_at "z_sel")
  obtain ⟨d1, d2, d3, sf, ss, tl, h⟩ := h.pagE (by wtm_at "z_sel")
  wtm_at "z_in"
  refine s_notInI h (by wtm_at "z_sel") ?_
  wtm_at "z_in"
  by_cases hk : t ∈ S.tabs.map (·.1)
  · obtain ⟨i, a, f, e1, e2, e3⟩ := tab_at tl hk
    simp only [e3, Option.isSome_some, Bool.not_true, Bool.false_eq_true, if_false]
    wtm_at "z_in"
    refine s_getI h (by wtm_at "z_sel") e3 ?_
    have h := h.pagI (S := S) (ta := ta) (p := p) (by wtm_at "z_arr")
    have h := h.rooI (rr := r) (S := S) (ta := ta) (p := p) (by wtm_at "z_arr")
    exact hq _ _ _ ⟨i, a, f, rfl, e1, e2, rfl⟩ h
  · simp only [valT_none tl hk, Option.isSome_none, Bool.not_false, if_true]
    wtm_at "z_in"
    have h := h.pagI (S := S) (ta := ta) (p := p) (by wtm_at "z_arr")
    have h := h.rooI (rr := r) (S := S) (ta := ta) (p := p) (by wtm_at "z_arr")
    exact he _ _ _ _ ⟨rfl, rfl, hk, rfl⟩ h
theorem pure_Rooms_begin (h : sp_Rooms_begin K vs H Q E) : Goal (t_Rooms_begin K (WD E)) n_Rooms_begin vs H Q := by
  obtain ⟨r, ta, S, t, rfl, nk, tn, tr⟩ := h
  obtain ⟨F, h, hq, he⟩ := tr.open
  unfold Goal t_Rooms_begin; wtm_at "z_start"
  wtm_at "z_st"
  obtain ⟨p, h⟩ := h.rooE (by wtm_at "z_sel")
  obtain ⟨d1, d2, d3, sf, ss, tl, h⟩ := h.pagE (by wtm_at "z_sel")
  wtm_at "z_in"
  refine s_inI h (by wtm_at "z_sel") ?_
  wtm_at "z_in"
  by_cases hk : t ∈ S.tabs.map (·.1)
  · obtain ⟨i, a, f, e1, e2, e3⟩ := tab_at tl hk
    simp only [e3, Option.isSome_some, if_true]
    wtm_at "z_in"
    have h := h.pagI (S := S) (ta := ta) (p := p) (by wtm_at "z_arr")
    have h := h.rooI (rr := r) (S := S) (ta := ta) (p := p) (by wtm_at "z_arr")
    exact he _ _ _ _ ⟨rfl, rfl, hk, rfl⟩ h
  · simp only [valT_none tl hk, Option.isSome_none, Bool.false_eq_true, if_false]
    wtm_at "z_in"
    rename_i a _
    refine c_tinit h (by wtm_at "z_sel") fun H2 h => ?_
    refine ⟨rfl, ?_⟩
    wtm_at "z_in"
    refine s_putI h (by wtm_at "z_sel") (by simp [zv, tl, sizeLine_eq]; omega) fun H3 h => ?_
    rw [show putK (zv ki S.tabs (ta.map V.ref)) (Sum.inl t) (.ref a) = zv ki (S.tabs ++ [(t, fun _ => none)]) ((ta ++ [a]).map V.ref) by rw [List.map_append]; exact zv_put_new ki_inj (by simpa using tl) hk] at h
    have h := h.gSnoc (P := table K) (a := a) (x := fun _ => none) (as := ta) (xs := S.tabs.map (·.2)) (by wtm_at "z_arr")
    rw [show S.tabs.map (·.2) ++ [fun _ => none] = (S.tabs ++ [((t, fun _ => none) : Int × Tb)]).map (·.2) by simp] at h
    have h := h.pagI (S := bornS S t) (ta := ta ++ [a]) (p := p) (d1 := d1) (d2 := d2) (d3 := d3) (sf := sf) (ss := ss) (by unfold bornS; dsimp only [pagF]; wtm_at "z_arr")
    have h := h.rooI (rr := r) (S := bornS S t) (ta := ta ++ [a]) (p := p) (by wtm_at "z_arr")
    exact hq _ _ _ ⟨rfl, hk, a, rfl⟩ h
end
set_option Elab.async false
set_option linter.all false
set_option maxRecDepth 100000
set_option maxHeartbeats 1000000
section
variable {K : PySem.W.Frag} {F0 : FP} {H0 H : Hp} {L L1 M2 : List HP} {D : Ends} {σ : L2.St} {vs : List V} {Q : VK} {E : XK} {A : Prop} {a t p d q d1 d2 d3 sf ss x s lr cr rr : Addr} {ta as ks : List Addr} {S : PS} {e : En} {o : Ow} {v : V} {i n : Nat} {f f' : Tb} {os B : List Ow} {k m : Int} {X : St} {c : Int} {r : List Int}
theorem q_vals {td : TE} {R : It → Hp → Prop} : iVals td σ H R = td σ H fun x H1 => ∃ d o kvs, x = .ref d ∧ H1 d = some (.frz o (.dK kvs)) ∧ R (Itd d o kvs) H1 := rfl
theorem s_vals {kvs : List (Key × V)} {od : Obj} {P : Addr → Obj → List (Key × V) → Prop} (h : At F0 H0 L H) (s : Sel (pt d (.frz od (.dK kvs))) L L1) (q : P d od kvs) : ∃ d' o kvs, V.ref d = .ref d' ∧ H d' = some (.frz o (.dK kvs)) ∧ P d' o kvs := ⟨d, od, kvs, rfl, h.get s, q⟩
theorem s_sum {ns : List Int} (h : SqL K H a (ns.map V.int)) (q : Q (.int ns.sum) H) : rSum K [.ref a] H Q := ⟨a, ns, rfl, h, q⟩
theorem sum_cast : ∀ {xs : List Nat}, (xs.map fun (n : Nat) => (n : Int)).sum = ((xs.sum : Nat) : Int)
  | [] => rfl
  | x :: xs => by simp [sum_cast (xs := xs)]
theorem zv_at {m : List (Int × Tb)} {j : Nat} {k : Key} {x : V} (l : ta.length = m.length) (h : (zv ki m (ta.map V.ref))[j]? = some (k, x)) : ∃ a q, ta[j]? = some a ∧ x = .ref a ∧ m[j]? = some q := by
  have jl := (List.getElem?_eq_some_iff.mp h).1
  simp [zv, l] at jl
  refine ⟨ta[j], m[j], by simp [l, jl], ?_, by simp [jl]⟩
  simp only [zv, List.getElem?_zipWith, List.getElem?_map, List.getElem?_eq_getElem jl, List.getElem?_eq_getElem (show j < ta.length by omega), Option.map_some] at h
  exact (congrArg Prod.snd (Option.some.inj h)).symm
theorem pure_Rooms_held (h : sp_Rooms_held K vs H Q E) : Goal (t_Rooms_held K (WD E)) n_Rooms_held vs H Q := by
  obtain ⟨r, ta, S, rfl, tn, tr⟩ := h
  obtain ⟨F, h, hq, -⟩ := tr.open
  unfold Goal t_Rooms_held; wtm_at "z_start"
  obtain ⟨p, h⟩ := h.rooE (by wtm_at "z_sel")
  obtain ⟨d1, d2, d3, sf, ss, tl, h⟩ := h.pagE (by wtm_at "z_sel")
  wtm_at "z_in"
  refine s_lockE h (d := d2) (by wtm_at "z_sel") fun od H' h => ?_
  simp only [q_lc, q_vals]
  wtm_at "z_in"
  refine s_vals h (by wtm_at "z_sel") ?_
  refine s_lcW walk_values (fun j acc L => acc = ((S.tabs.take j).map fun q => ((pgs q.2).length : Int)).map V.int ∧ L = [pt d2 (.frz od (.dK (zv ki S.tabs (ta.map V.ref)))), obj (c_Paging K) p (pagF d1 d2 d3 S), pt d1 (.dK (stoF sf ss)), store K sf S.fs, store K ss S.ss, rowsG (table K) ta (S.tabs.map (·.2)), owns d3 S.O, obj (c_Rooms K) r [("paging", .ref p)]])
    (h.only (by wtm_at "z_arr")) ⟨rfl, rfl⟩ (fun j acc L D H _ ⟨e1, e2⟩ h => by subst e1 e2; exact h.get (by wtm_at "z_sel")) (fun j x acc L D H H' jl ⟨e1, e2⟩ h ⟨eh, k, ek⟩ => ?_) (fun acc L D H ⟨e1, e2⟩ h => ?_)
  · subst e1 e2 eh
    obtain ⟨a, q, b1, rfl, b3⟩ := zv_at tl ek
    wtm_at "z_in"
    refine ⟨by trivial, ?_⟩
    wtm_at "z_in"
    have h := h.gPop (P := table K) (by wtm_at "z_sel") b1 (x := q.2) (by simp [b3])
    refine s_mtable h (by wtm_at "z_sel") (fun _ => by wtm_at "z_no") ?_
    refine c_tpages h (by wtm_at "z_sel") fun z H2 h => ?_
    wtm_at "z_in"
    have h := h.gBack (P := table K) (as := ta) (xs := S.tabs.map (·.2)) (n := j) (a := a) (x := q.2) (by wtm_at "z_arr") b1 (by simp [b3]) (by simpa using tl)
    have jl2 := (List.getElem?_eq_some_iff.mp b3).1
    refine s_acc (h.only (M := [pt D (.lst (((S.tabs.take j).map fun q => ((pgs q.2).length : Int)).map V.int)), pt d2 (.frz od (.dK (zv ki S.tabs (ta.map V.ref)))), obj (c_Paging K) p (pagF d1 d2 d3 S), pt d1 (.dK (stoF sf ss)), store K sf S.fs, store K ss S.ss, rowsG (table K) ta (S.tabs.map (·.2)), owns d3 S.O, obj (c_Rooms K) r [("paging", .ref p)]]) (by wtm_at "z_arr")) .here (by simp [sizeLine_eq]; omega) ⟨?_, rfl⟩
    rw [List.take_add_one, b3]
    simp
  · subst e1 e2
    refine s_unlock h (by wtm_at "z_sel") fun H2 h => ?_
    rw [List.take_of_length_le (by rw [zv_len (by simpa using tl)]; exact Nat.le_refl _)] at h
    refine s_sum (by wtm_at "z_sql") ?_
    have e3 : (S.tabs.map fun q => ((pgs q.2).length : Int)).sum = (heldS S : Int) := by
      unfold heldS
      rw [← sum_cast, List.map_map]; rfl
    rw [e3]
    have h := h.pagI (S := S) (ta := ta) (p := p) (by wtm_at "z_arr")
    have h := h.rooI (rr := r) (S := S) (ta := ta) (p := p) (by wtm_at "z_arr")
    exact hq _ _ _ ⟨rfl, rfl⟩ (h.only (by wtm_at "z_arr"))
theorem c_held (h : At F0 H0 L H) (s1 : Sel (rooms K rr ta S) L L1) (tn : S.tabs.length ≤ 1000) (q : ∀ H', At F0 H0 (rooms K rr ta S :: L1) H' → Q (.int (heldS S)) H') : sp_Rooms_held K [.ref rr] H Q E :=
  ⟨rr, ta, S, rfl, tn, h.call (.cons s1 .nil) (fun v L' H' ⟨e1, e2⟩ h => by subst e1 e2; exact q H' h) fun _ _ _ _ z => z.elim⟩
theorem pure_Rooms_ask_room (h : sp_Rooms_ask_room K vs H Q E) : Goal (t_Rooms_ask_room K (WD E)) n_Rooms_ask_room vs H Q := by
  obtain ⟨r, ta, S, m, rfl, tn, tr⟩ := h
  obtain ⟨F, h, hq, he⟩ := tr.open
  unfold Goal t_Rooms_ask_room; wtm_at "z_start"
  wtm_at "z_in"
  refine s_mroo h (by wtm_at "z_sel") (fun _ => by wtm_at "z_no") ?_
  refine c_held h (by wtm_at "z_sel") tn fun H2 h => ?_
  obtain ⟨p, h⟩ := h.rooE (by wtm_at "z_sel")
  obtain ⟨d1, d2, d3, sf, ss, tl, h⟩ := h.pagE (by wtm_at "z_sel")
  wtm_at "z_in"
  have h := h.pagI (S := S) (ta := ta) (p := p) (by wtm_at "z_arr")
  have h := h.rooI (rr := r) (S := S) (ta := ta) (p := p) (by wtm_at "z_arr")
  wtm_at "z_if"
  · exact he _ _ _ _ ⟨rfl, rfl, rfl⟩ h
  · exact hq _ _ _ ⟨rfl, by omega, rfl⟩ h
theorem s_any {bs : List Bool} (h : SqL K H a (bs.map V.bl)) (q : Q (.bl (bs.any id)) H) : rAny K [.ref a] H Q := ⟨a, bs, rfl, h, q⟩
theorem pure_Rooms_look_mapped (h : sp_Rooms_look_mapped K vs H Q E) : Goal (t_Rooms_look_mapped K (WD E)) n_Rooms_look_mapped vs H Q := by
  obtain ⟨r, t, q, f, ps, rfl, pn, tr⟩ := h
  obtain ⟨F, h, hq, he⟩ := tr.open
  unfold Goal t_Rooms_look_mapped; wtm_at "z_start"
  wtm_at "z_in"
  refine s_list (by wtm_at "z_sql") ?_
  refine s_lcL (xs := ps.map V.int) (fun j acc L => acc = ((ps.take j).map fun k => (f k).isNone).map V.bl ∧ L = [table K t f, pt q (il ps)])
    h ⟨rfl, rfl⟩ (fun j acc L D H ⟨e1, e2⟩ h => by subst e1 e2; exact sqL_at h (by wtm_at "z_sel")) (fun j x acc L D H hx ⟨e1, e2⟩ h => ?_) (fun acc L D H ⟨e1, e2⟩ h => ?_)
  · subst e1 e2
    obtain ⟨k, hk, rfl⟩ : ∃ k, ps[j]? = some k ∧ V.int k = x := by rw [List.getElem?_map] at hx; simpa using hx
    have jl := (List.getElem?_eq_some_iff.mp hk).1
    have et : ps.take (j + 1) = ps.take j ++ [k] := by rw [List.take_add_one, hk]; rfl
    wtm_at "z_in"
    refine s_mtable h (by wtm_at "z_sel") (fun _ => by wtm_at "z_no") ?_
    wtm_at "z_in"
    refine c_tget h (by wtm_at "z_sel") (fun e H2 h => ?_) (fun v e' H2 e h => ?_)
    · wtm_at "z_in"
      exact s_acc (h.only (M := [pt D (.lst (((ps.take j).map fun k => (f k).isNone).map V.bl)), table K t f, pt q (il ps)]) (by wtm_at "z_arr")) .here (by simp [sizeLine_eq]; omega) ⟨by rw [et]; simp [e], rfl⟩
    · obtain ⟨te, rfl⟩ := h.enRef (by wtm_at "z_sel")
      wtm_at "z_in"
      exact s_acc (h.only (M := [pt D (.lst (((ps.take j).map fun k => (f k).isNone).map V.bl)), table K t f, pt q (il ps)]) (by wtm_at "z_arr")) .here (by simp [sizeLine_eq]; omega) ⟨by rw [et]; simp [e], rfl⟩
  · subst e1 e2
    rw [List.take_of_length_le (by simp)] at h
    refine s_any (by wtm_at "z_sql") ?_
    wtm_at "z_in"
    by_cases c : (ps.map fun k => (f k).isNone).any id = true
    · simp only [c, if_true]
      exact he _ _ _ _ ⟨rfl, rfl, rfl⟩ (h.only (by wtm_at "z_arr"))
    · simp only [c, if_false]
      refine hq _ _ _ ⟨rfl, fun k hk => ?_, rfl⟩ (h.only (by wtm_at "z_arr"))
      cases ef : f k with
      | some e => rfl
      | none => exact (c (List.any_eq_true.mpr ⟨true, List.mem_map.mpr ⟨k, hk, by rw [ef]; rfl⟩, rfl⟩)).elim
end
set_option Elab.async false
set_option linter.all false
set_option maxRecDepth 100000
set_option maxHeartbeats 1000000
section
variable {K : PySem.W.Frag} {F0 : FP} {H0 H : Hp} {L L1 M2 : List HP} {D : Ends} {σ : L2.St} {vs : List V} {Q : VK} {E : XK} {A : Prop} {a t p d q d1 d2 d3 sf ss x s lr cr rr : Addr} {ta as ks : List Addr} {S : PS} {e : En} {o : Ow} {v : V} {i n : Nat} {f f' : Tb} {os B : List Ow} {k m tk pg : Int} {X : St} {c : Int} {r ps : List Int}
/-! ### calls within rooms -/
theorem c_tabof (h : At F0 H0 L H) (s1 : Sel (rooms K rr ta S) L L1) (nk : okTab S) (q : ∀ (i : Nat) (a : Addr) (f : Tb) H', ta[i]? = some a → S.tabs[i]? = some (tk, f) → At F0 H0 (rooms K rr ta S :: L1) H' → Q (.ref a) H') (he : ∀ c H', refuse K c → tk ∉ S.tabs.map (·.1) → At F0 H0 (rooms K rr ta S :: L1) H' → E c none H') : sp_Rooms_table_of K [.ref rr, .int tk] H Q E :=
  ⟨rr, ta, S, tk, rfl, nk, h.call (.cons s1 .nil) (fun v L' H' ⟨i, a, f, e1, e2, e3, e4⟩ h => by subst e1 e4; exact q i a f H' e2 e3 h) fun c d L' H' ⟨e1, e2, e3, e4⟩ h => by subst e2 e4; exact he c H' (.inl e1) e3 h⟩
def rgI (a b : Int) : List Int := (List.range (b - a).toNat).map fun (i : Nat) => a + i
theorem rgV_I {a b : Int} : rgV a b = (rgI a b).map V.int := by simp [rgV, rgI]
theorem rgI_mem {a b x : Int} : x ∈ rgI a b ↔ a ≤ x ∧ x < b := by
  simp only [rgI, List.mem_map, List.mem_range]
  constructor
  · rintro ⟨n, h, rfl⟩; omega
  · rintro ⟨h1, h2⟩; exact ⟨(x - a).toNat, by omega, by omega⟩
theorem rgI_len {a b : Int} : (rgI a b).length = (b - a).toNat := by simp [rgI]
theorem rgI_nd {a b : Int} : (rgI a b).Nodup := by
  unfold List.Nodup rgI
  rw [List.pairwise_map]
  exact List.pairwise_lt_range.imp fun h => by omega
theorem c_asked (h : At F0 H0 L H) (q : ∀ z H', 1 ≤ m → 0 ≤ pg → pg + m ≤ 64 → At F0 H0 (pt z (il (rgI pg (pg + m))) :: L) H' → Q (.ref z) H') (he : ∀ c H', refuse K c → At F0 H0 L H' → E c none H') : sp_pages_asked K [.int pg, .int m] H Q E :=
  ⟨pg, m, rfl, h.call .nil (fun v L' H' ⟨z, e1, e2, e3, e4, e5⟩ h => by subst e1 e5; exact q z H' e2 e3 e4 (by rw [il, ← rgV_I]; exact h)) fun c d L' H' ⟨e1, e2, e3⟩ h => by subst e2 e3; exact he c H' (.inr (.inl e1)) h⟩
theorem c_askr (h : At F0 H0 L H) (s1 : Sel (rooms K rr ta S) L L1) (tn : S.tabs.length ≤ 1000) (q : ∀ H', (heldS S : Int) + m ≤ S.frames + S.slots → At F0 H0 (rooms K rr ta S :: L1) H' → Q .non H') (he : ∀ c H', refuse K c → At F0 H0 (rooms K rr ta S :: L1) H' → E c none H') : sp_Rooms_ask_room K [.ref rr, .int m] H Q E :=
  ⟨rr, ta, S, m, rfl, tn, h.call (.cons s1 .nil) (fun v L' H' ⟨e1, e2, e3⟩ h => by subst e1 e3; exact q H' e2 h) fun c d L' H' ⟨e1, e2, e3⟩ h => by subst e2 e3; exact he c H' (.inr (.inr (.inl e1))) h⟩
/-- a table of rooms taken out -/
def rooX (K : PySem.W.Frag) (rr : Addr) (ta : List Addr) (S : PS) (i : Nat) : HP := HP.exi fun p => HP.all [obj (c_Rooms K) rr [("paging", .ref p)], pagX K p ta S i]
theorem At.rtOut (h : At F0 H0 L H) (s1 : Sel (rooms K rr ta S) L L1) (h1 : ta[i]? = some a) (h2 : S.tabs[i]? = some (tk, f)) : At F0 H0 (table K a f :: rooX K rr ta S i :: L1) H := by
  obtain ⟨p, h⟩ := h.rooE s1
  have h := h.tabOut (.there .here) h1 h2
  have h : At F0 H0 (rooX K rr ta S i :: table K a f :: L1) H := (At.allI (M := [obj (c_Rooms K) rr [("paging", .ref p)], pagX K p ta S i]) (h.arr (.cons (.there (.there .here)) (.cons (.there .here) .nil)))).exI p
  exact h.arr (.cons (.there .here) (.cons .here .nil))
theorem At.rtIn (h : At F0 H0 L H) (s1 : Arr [table K a f', rooX K rr ta S i] L L1) (h1 : ta[i]? = some a) (h2 : S.tabs[i]? = some (tk, f)) : At F0 H0 (rooms K rr ta { S with tabs := S.tabs.set i (tk, f') } :: L1) H := by
  have h : At F0 H0 (rooX K rr ta S i :: table K a f' :: L1) H := (h.arr s1).arr (M := [rooX K rr ta S i, table K a f']) (L1 := L1) (.cons (.there .here) (.cons .here .nil))
  obtain ⟨p, h⟩ := h.exE
  have h := h.allE
  have h := h.tabIn (K := K) (a := a) (f' := f') (p := p) (ta := ta) (S := S) (i := i) (.cons (.there (.there .here)) (.cons (.there .here) .nil)) h1 h2
  exact h.rooI (.cons (.there .here) (.cons .here .nil))
theorem At.rtBack (h : At F0 H0 L H) (s1 : Arr [table K a f, rooX K rr ta S i] L L1) (h1 : ta[i]? = some a) (h2 : S.tabs[i]? = some (tk, f)) : At F0 H0 (rooms K rr ta S :: L1) H := by
  have h := h.rtIn s1 h1 h2
  obtain ⟨il, ie⟩ := List.getElem?_eq_some_iff.mp h2
  rw [show S.tabs.set i (tk, f) = S.tabs by rw [← ie]; exact List.set_getElem_self il] at h
  exact h
theorem s_mtabR {n : Str} (h : At F0 H0 L H) (s1 : Sel (rooms K rr ta S) L L1) (h1 : ta[i]? = some a) (h2 : S.tabs[i]? = some (tk, f)) (l : ∀ b1, List.lookup n [(("firsts" : Str), V.ref b1)] = none) (q : A) : kIns (c_Table K) n (.ref a) H ∧ A :=
  s_mtable (h.rtOut s1 h1 h2) .here l q
theorem c_tgetR (h : At F0 H0 L H) (s1 : Sel (rooms K rr ta S) L L1) (h1 : ta[i]? = some a) (h2 : S.tabs[i]? = some (tk, f)) (q1 : f k = none → ∀ H', At F0 H0 (rooms K rr ta S :: L1) H' → Q .non H') (q2 : ∀ v e H', f k = some e → At F0 H0 (enP K v e :: rooms K rr ta S :: L1) H' → Q v H') : sp_Table_get K [.ref a, .int k] H Q E := by
  refine c_tget (h.rtOut s1 h1 h2) .here (fun z H' h => q1 z H' (h.rtBack (.cons .here (.cons .here .nil)) h1 h2)) (fun v e H' z h => q2 v e H' z ?_)
  have h := h.rtBack (K := K) (a := a) (f := f) (rr := rr) (ta := ta) (S := S) (i := i) (.cons (.there .here) (.cons (.there .here) .nil)) h1 h2
  exact h.arr (.cons (.there .here) (.cons .here .nil))
theorem c_tpagesR (h : At F0 H0 L H) (s1 : Sel (rooms K rr ta S) L L1) (h1 : ta[i]? = some a) (h2 : S.tabs[i]? = some (tk, f)) (q : ∀ z H', At F0 H0 (pt z (il (pgs f)) :: rooms K rr ta S :: L1) H' → Q (.ref z) H') : sp_Table_pages K [.ref a] H Q E := by
  refine c_tpages (h.rtOut s1 h1 h2) .here fun z H' h => q z H' ?_
  have h := h.rtBack (K := K) (a := a) (f := f) (rr := rr) (ta := ta) (S := S) (i := i) (.cons (.there .here) (.cons (.there .here) .nil)) h1 h2
  exact h.arr (.cons (.there .here) (.cons .here .nil))
theorem c_tclearR (nk : okTab S) (h : At F0 H0 L H) (s1 : Sel (rooms K rr ta S) L L1) (h1 : ta[i]? = some a) (h2 : S.tabs[i]? = some (tk, f)) (q : ∀ H', At F0 H0 (rooms K rr ta { S with tabs := upT S.tabs (tk, k) none } :: L1) H' → Q .non H') : sp_Table_clear K [.ref a, .int k] H Q E := by
  refine c_tclear (h.rtOut s1 h1 h2) .here fun H' h => q H' ?_
  have h := h.rtIn (K := K) (a := a) (rr := rr) (ta := ta) (S := S) (i := i) (.cons .here (.cons .here .nil)) h1 h2
  rw [upT_set (o := (tk, k)) nk h2] at h
  exact h
theorem c_lookm (h : At F0 H0 L H) (s1 : Arr [rooms K rr ta S, pt q (il ps)] L L1) (h1 : ta[i]? = some a) (h2 : S.tabs[i]? = some (tk, f)) (pn : ps.length ≤ 1000) (qq : ∀ H', (∀ p ∈ ps, (f p).isSome = true) → At F0 H0 (rooms K rr ta S :: pt q (il ps) :: L1) H' → Q .non H') (he : ∀ c H', refuse K c → At F0 H0 (rooms K rr ta S :: pt q (il ps) :: L1) H' → E c none H') : sp_Rooms_look_mapped K [.ref rr, .ref a, .ref q] H Q E := by
  have h := (h.arr s1).rtOut .here h1 h2
  refine ⟨rr, a, q, f, ps, rfl, pn, h.call (.cons .here (.cons (.there .here) .nil)) (fun v L' H' ⟨e1, e2, e3⟩ h => ?_) fun c d L' H' ⟨e1, e2, e3⟩ h => ?_⟩
  · subst e1 e3
    exact qq H' e2 (At.rtBack (K := K) (a := a) (f := f) h (.cons .here (.cons (.there .here) .nil)) h1 h2)
  · subst e2 e3
    exact he c H' (.inr (.inl e1)) (At.rtBack (K := K) (a := a) (f := f) h (.cons .here (.cons (.there .here) .nil)) h1 h2)
theorem getE_tab (nk : okTab S) (h2 : S.tabs[i]? = some (tk, f)) : getE S (tk, k) = f k := by
  rw [getE_T]
  unfold getT
  rw [ag_at nk h2]; rfl
theorem pure_Rooms_place (h : sp_Rooms_place K vs H Q E) : Goal (t_Rooms_place K (WD E)) n_Rooms_place vs H Q := by
  obtain ⟨r, ta, S, t, p, e, rfl, nk, ge, tr⟩ := h
  obtain ⟨F, h, hq, he⟩ := tr.open
  unfold Goal t_Rooms_place; wtm_at "z_start"
  wtm_at "z_in"
  refine s_mroo h (by wtm_at "z_sel") (fun _ => by wtm_at "z_no") ?_
  wtm_at "z_in"
  refine c_tabof h (by wtm_at "z_sel") nk (fun i a f H' e1 e2 h => ?_) fun c H' rc nt h => (nt (getT_dom (tabs := S.tabs) ge)).elim
  refine s_mtabR h (by wtm_at "z_sel") e1 e2 (fun _ => by wtm_at "z_no") ?_
  wtm_at "z_in"
  rw [getE_tab nk e2] at ge
  refine c_tgetR h (by wtm_at "z_sel") e1 e2 (fun z => by rw [ge] at z; cases z) fun v e' H' z h => ?_
  rw [ge] at z
  cases z
  exact hq _ _ _ rfl h
theorem chain_len : ∀ {xs : List (Int × Int × Int)} {a b : Int}, chain a b xs → (xs.length : Int) ≤ b - a
  | [], a, b, h => by have h : a = b := h; simp; omega
  | (p, u, w) :: xs, a, b, ⟨e1, e2, e3, e4, e5, e6⟩ => by have := chain_len e6; simp; omega
theorem chain_le {xs : List (Int × Int × Int)} {a b : Int} (h : chain a b xs) : a ≤ b := by have := chain_len h; omega
theorem chain_nil {xs : List (Int × Int × Int)} {a : Int} (h : chain a a xs) : xs = [] := by
  have := chain_len h
  exact List.length_eq_zero_iff.mp (by omega)
theorem chain_last : ∀ {xs : List (Int × Int × Int)} {a b : Int} {x : Int × Int × Int}, chain a b xs → xs[xs.length - 1]? = some x → x.1 = (b - 1) / 8
  | [], a, b, x, h, e => by simp at e
  | [(p, u, w)], a, b, x, ⟨e1, e2, e3, e4, e5, e6⟩, e => by
    obtain rfl : (p, u, w) = x := by simpa using e
    have e6 : a + (w - u) = b := e6
    show p = (b - 1) / 8
    omega
  | (p, u, w) :: y :: xs, a, b, x, ⟨e1, e2, e3, e4, e5, e6⟩, e => chain_last (xs := y :: xs) e6 (by simpa using e)
/-- every address within lies in one of the pages -/
theorem triP_at {ks : List Addr} {xs : List (Int × Int × Int)} {k : Addr} {j : Nat} (h : At F0 H0 L H) (s : Sel (triP ks xs) L L1) (h1 : ks[j]? = some k) : ∃ x, xs[j]? = some x ∧ H k = some (.tup [.int x.1, .int x.2.1, .int x.2.2]) := by
  obtain ⟨l, h2⟩ := h.know s fun _ k => k
  have jl := (List.getElem?_eq_some_iff.mp h1).1
  have e : xs[j]? = some (xs[j]'(by omega)) := List.getElem?_eq_getElem (by omega)
  exact ⟨_, e, h2 j k _ h1 e⟩
theorem c_strs (h : At F0 H0 L H) (m0 : 0 ≤ m) (m1 : m ≤ 1000) (am : 0 < m → 0 ≤ k ∧ k ≤ 1000) (q : ∀ z ks xs H', chain k (k + m) xs → At F0 H0 (pt z (.lst (ks.map V.ref)) :: triP ks xs :: L) H' → Q (.ref z) H') : sp_stretches_of K [.int k, .int m] H Q E :=
  ⟨k, m, rfl, m0, m1, am, h.call .nil (fun v L' H' ⟨z, ks, xs, e1, e2, e3⟩ h => by subst e1 e3; exact q z ks xs H' e2 h) fun _ _ _ _ z => z.elim⟩
theorem pure_Rooms_stretches (h : sp_Rooms_stretches K vs H Q E) : Goal (t_Rooms_stretches K (WD E)) n_Rooms_stretches vs H Q := by
  obtain ⟨r, ta, S, t, a, m, rfl, nk, m1, tr⟩ := h
  obtain ⟨F, h, hq, he⟩ := tr.open
  unfold Goal t_Rooms_stretches; wtm_at "z_start"
  wtm_at "z_st"
  refine s_mroo h (by wtm_at "z_sel") (fun _ => by wtm_at "z_no") ?_
  wtm_at "z_in"
  refine c_tabof h (by wtm_at "z_sel") nk (fun i a' f H' e1 e2 h => ?_) fun c H' rc nt h => he _ _ _ _ ⟨rc, rfl, rfl⟩ h
  wtm_at "z_in"
  wtm_at "z_st"
  have fin : 0 ≤ m → (0 < m → 0 ≤ a ∧ a + m ≤ 512) →
      tSeq (tAsg (tK (sp_stretches_of K) (WE (WD E)) (tCons (tVar 2) (tCons (tVar 3) tNil))) (gName 5))
        (tSeq (tDrop (tM (c_Rooms K) "look_mapped" (sp_Rooms_look_mapped K) (WE (WD E)) (tVar 0) (tCons (tVar 4) (tCons (tLc (iList K (tVar 5)) (gTup K 3 (gCons (gName 6) (gCons (gName 7) (gCons (gName 8) gNil)))) tYes (tVar 6) [6, 7, 8]) tNil))))
        (tRet (tVar 5))) ⟨fun _ H' => Q .non H', Q, fun _ _ => False, fun _ _ => False⟩ [some (.ref r), some (.int t), some (.int a), some (.int m), some (.ref a'), none, none, none, none] H' := by
    intro m0 am
    wtm_at "z_st"
    refine c_strs h m0 m1 (fun z => by have := am z; omega) fun z ks xs H2 ch h => ?_
    have xl := chain_len ch
    have kl : ks.length = xs.length := h.know (P := triP ks xs) (by wtm_at "z_sel") fun _ k => k.1
    wtm_at "z_in"
    wtm_at "z_st"
    refine s_mroo h (by wtm_at "z_sel") (fun _ => by wtm_at "z_no") ?_
    wtm_at "z_in"
    refine s_list (by wtm_at "z_sql") ?_
    refine s_lcW (walk_list (xs := ks.map V.ref)) (fun j acc L => acc = ((xs.take j).map (·.1)).map V.int ∧ L = [pt z (.lst (ks.map V.ref)), triP ks xs, rooms K r ta S])
      h ⟨rfl, rfl⟩ (fun j acc L D H _ ⟨e1, e2⟩ h => by subst e1 e2; exact sqL_at h (by wtm_at "z_sel")) (fun j x acc L D H H' jl ⟨e1, e2⟩ h ⟨eh, hx⟩ => ?_) (fun acc L D H ⟨e1, e2⟩ h => ?_)
    · subst e1 e2 eh
      obtain ⟨k, hk, rfl⟩ : ∃ k, ks[j]? = some k ∧ V.ref k = x := by rw [List.getElem?_map] at hx; simpa using hx
      obtain ⟨x, ex, ht⟩ := triP_at h (by wtm_at "z_sel") hk
      have jl2 := (List.getElem?_eq_some_iff.mp ex).1
      have h := h.dup ht rfl
      wtm_at "z_in"
      refine ⟨by trivial, ?_⟩
      wtm_at "z_in"
      refine s_acc (h.only (M := [pt D (.lst (((xs.take j).map (·.1)).map V.int)), pt z (.lst (ks.map V.ref)), triP ks xs, rooms K r ta S]) (by wtm_at "z_arr")) .here (by simp [sizeLine_eq]; omega) ⟨?_, rfl⟩
      rw [List.take_add_one, ex]
      simp
    · subst e1 e2
      rw [List.take_of_length_le (by simp [kl])] at h
      refine c_lookm h (by wtm_at "z_arr") e1 e2 (by simp; omega) (fun H3 g h => ?_) fun c H3 rc h => he _ _ _ _ ⟨rc, rfl, rfl⟩ (h.only (by wtm_at "z_arr"))
      wtm_at "z_in"
      refine hq _ _ _ ⟨z, ks, xs, rfl, ch, m0, fun z => (am z).1, fun x hx => ?_, rfl⟩ (h.only (by wtm_at "z_arr"))
      rw [getE_tab nk e2]
      exact g x.1 (List.mem_map.mpr ⟨x, hx, rfl⟩)
  wtm_at "z_if"
  · exact he _ _ _ _ ⟨.inr (.inl rfl), rfl, rfl⟩ h
  by_cases c : 0 < m
  · simp only [c, decide_true, if_true]
    wtm_at "z_in"
    wtm_at "z_if"
    · exact he _ _ _ _ ⟨.inr (.inl rfl), rfl, rfl⟩ h
    wtm_at "z_in"
    wtm_at "z_if"
    · exact he _ _ _ _ ⟨.inr (.inl rfl), rfl, rfl⟩ h
    exact fin (by omega) (fun _ => by omega)
  · simp only [c, decide_false, Bool.false_eq_true, if_false]
    exact fin (by omega) (fun z => (c z).elim)
end
set_option Elab.async false
set_option linter.all false
set_option maxRecDepth 100000
set_option maxHeartbeats 1000000
section
variable {K : PySem.W.Frag} {F0 : FP} {H0 H : Hp} {L L1 M2 : List HP} {D : Ends} {σ : L2.St} {vs : List V} {Q : VK} {E : XK} {A : Prop} {a t p d q d1 d2 d3 sf ss x s lr cr rr : Addr} {ta as ks : List Addr} {S : PS} {e : En} {o : Ow} {v : V} {i n : Nat} {f f' : Tb} {os B : List Ow} {k m tk pg : Int} {X : St} {c : Int} {r ps : List Int}
theorem c_share (h : At F0 H0 L H) (s1 : Arr [paging K p ta S, ow t o, enP K v e] L L1) (ok : okL S o e) (tk : e ≠ .bl → taken S e) (q : ∀ H', At F0 H0 (paging K p ta (shareS S o e) :: ow t o :: enP K v e :: L1) H' → Q .non H') : sp_Paging_share K [.ref p, .ref t, v] H Q E :=
  ⟨p, ta, S, t, o, v, e, rfl, ok, tk, h.call s1 (fun v L' H' ⟨e1, e2⟩ h => by subst e1 e2; exact q H' h) fun _ _ _ _ z => z.elim⟩
theorem upT_other {tabs : List (Int × Tb)} {v : Option En} (h : tabs[i]? = some (tk, f)) (ne : tk ≠ o.1) : (upT tabs o v)[i]? = some (tk, f) := by
  unfold upT
  rw [List.getElem?_map, h]
  simp [ne]
/-! ### drop -/
theorem pure_Rooms_drop (h : sp_Rooms_drop K vs H Q E) : Goal (t_Rooms_drop K (WD E)) n_Rooms_drop vs H Q := by
  obtain ⟨r, ta, S, N, t, p, m, rfl, ⟨P, tn⟩, hN, tr⟩ := h
  obtain ⟨F, h, hq, he⟩ := tr.open
  unfold Goal t_Rooms_drop; wtm_at "z_start"
  wtm_at "z_st"
  refine s_mroo h (by wtm_at "z_sel") (fun _ => by wtm_at "z_no") ?_
  wtm_at "z_in"
  refine c_tabof h (by wtm_at "z_sel") P.nk (fun i a f H' e1 e2 h => ?_) fun c H' rc nt h => he _ _ _ _ ⟨rc, rfl, rfl⟩ h
  wtm_at "z_in"
  wtm_at "z_st"
  refine c_asked h (fun z H' m1 p0 p1 h => ?_) fun c H' rc h => he _ _ _ _ ⟨rc, rfl, rfl⟩ h
  wtm_at "z_in"
  wtm_at "z_st"
  refine s_mroo h (by wtm_at "z_sel") (fun _ => by wtm_at "z_no") ?_
  wtm_at "z_in"
  refine c_lookm h (by wtm_at "z_arr") e1 e2 (by rw [rgI_len]; omega) (fun H3 g h => ?_) fun c H3 rc h => he _ _ _ _ ⟨rc, rfl, rfl⟩ (h.only (by wtm_at "z_arr"))
  wtm_at "z_in"
  refine s_list (by wtm_at "z_sql") ?_
  refine s_forL (xs := (rgI p (p + m)).map V.int) (fun j σ L => ∃ u S', σ = [some (.ref r), some (.int t), some (.int p), some (.int m), some (.ref a), some (.ref z), u] ∧ L = [rooms K r ta S', pt z (il (rgI p (p + m)))] ∧
      PI S' ∧ S'.tabs.length = S.tabs.length ∧ (∃ f', S'.tabs[i]? = some (t, f')) ∧ ∀ o, getE S' o = if o.1 = t ∧ o.2 ∈ (rgI p (p + m)).take j then none else getE S o)
    (h.only (by wtm_at "z_arr")) ⟨none, S, rfl, rfl, P, rfl, ⟨f, e2⟩, fun o => by simp⟩ (fun j σ L H ⟨u, S', g1, g2, _⟩ h => by subst g1 g2; exact sqL_at h (by wtm_at "z_sel")) (fun j x σ L H hx ⟨u, S', g1, g2, P', tl, ⟨f', e2'⟩, ge⟩ h => ?_) (fun σ L H ⟨u, S', g1, g2, P', tl, ⟨f', e2'⟩, ge⟩ h => ?_)
  · subst g1 g2
    obtain ⟨k, hk, rfl⟩ : ∃ k, (rgI p (p + m))[j]? = some k ∧ V.int k = x := by rw [List.getElem?_map] at hx; simpa using hx
    have et : (rgI p (p + m)).take (j + 1) = (rgI p (p + m)).take j ++ [k] := by rw [List.take_add_one, hk]; rfl
    have hkm := List.mem_of_getElem? hk
    have nk : k ∉ (rgI p (p + m)).take j := by
      intro hm
      have nd : ((rgI p (p + m)).take (j + 1)).Nodup := rgI_nd.sublist (List.take_sublist _ _)
      rw [et, List.nodup_append] at nd
      exact nd.2.2 k hm k (by simp) rfl
    have gk : (getE S' (t, k)).isSome = true := by
      rw [ge, if_neg (by rintro ⟨_, z⟩; exact nk z), getE_tab P.nk e2]
      exact g k hkm
    obtain ⟨e, gke⟩ := Option.isSome_iff_exists.mp gk
    wtm_at "z_in"
    obtain ⟨p1, h⟩ := h.rooE (by wtm_at "z_sel")
    wtm_at "z_st"
    refine s_mpag h (by wtm_at "z_sel") (fun _ _ _ _ _ _ => by wtm_at "z_no") ?_
    wtm_at "z_in"
    obtain ⟨P1, k1, tk⟩ := leave_px P'.px gke (by simp)
    refine c_leave (o := (t, k)) h (by wtm_at "z_arr") P'.nk gke tk fun H4 h => ?_
    have h := h.rooI (rr := r) (S := leaveS S' (t, k) e) (ta := ta) (p := p1) (by wtm_at "z_arr")
    wtm_at "z_in"
    refine s_mtabR h (by wtm_at "z_sel") e1 (by rw [k1.tabs]; exact e2') (fun _ => by wtm_at "z_no") ?_
    wtm_at "z_in"
    refine c_tclearR P1.nk h (by wtm_at "z_sel") e1 (by rw [k1.tabs]; exact e2') fun H5 h => ?_
    have P2 := clear_px P1
    have hkt : t ∈ S'.tabs.map (·.1) := List.mem_map.mpr ⟨_, List.mem_of_getElem? e2', rfl⟩
    refine ⟨_, ⟨_, _, rfl, rfl, P2.pi, ?_, ?_, fun o => ?_⟩, h.only (by wtm_at "z_arr")⟩
    · show (upT (leaveS S' (t, k) e).tabs (t, k) none).length = _
      rw [k1.tabs]; unfold upT; simpa using tl
    · show ∃ f', (upT (leaveS S' (t, k) e).tabs (t, k) none)[i]? = _
      rw [k1.tabs]
      unfold upT
      rw [List.getElem?_map, e2']
      exact ⟨upd1 f' k none, by simp⟩
    · show getT (upT (leaveS S' (t, k) e).tabs (t, k) none) o = _
      rw [k1.tabs, getT_up hkt, et]
      by_cases c : o = (t, k)
      · subst c
        rw [if_pos rfl, if_pos ⟨rfl, by simp⟩]
      · rw [if_neg c, ← getE_T, ge]
        have c2 : ¬ (o.1 = t ∧ o.2 = k) := fun ⟨z1, z2⟩ => c (Prod.ext z1 z2)
        by_cases c3 : o.1 = t ∧ o.2 ∈ (rgI p (p + m)).take j
        · rw [if_pos c3, if_pos ⟨c3.1, List.mem_append_left _ c3.2⟩]
        · rw [if_neg c3, if_neg]
          rintro ⟨z1, z2⟩
          rcases List.mem_append.mp z2 with z2 | z2
          · exact c3 ⟨z1, z2⟩
          · exact c2 ⟨z1, by simpa using z2⟩
  · subst g1 g2
    rw [List.take_of_length_le (by simp)] at ge
    refine hq _ _ _ ⟨rfl, ta, S', ⟨P', by omega⟩, fun o no => ?_, rfl⟩ (h.only (by wtm_at "z_arr"))
    rw [ge, if_neg]
    rintro ⟨z1, z2⟩
    exact no ⟨z1, rgI_mem.mp z2⟩
/-! ### close -/
theorem pure_Rooms_close (h : sp_Rooms_close K vs H Q E) : Goal (t_Rooms_close K (WD E)) n_Rooms_close vs H Q := by
  obtain ⟨r, ta, S, N, t, rfl, ⟨P, tn⟩, hN, tr⟩ := h
  obtain ⟨F, h, hq, he⟩ := tr.open
  unfold Goal t_Rooms_close; wtm_at "z_start"
  wtm_at "z_st"
  refine s_mroo h (by wtm_at "z_sel") (fun _ => by wtm_at "z_no") ?_
  wtm_at "z_in"
  refine c_tabof h (by wtm_at "z_sel") P.nk (fun i a f H' e1 e2 h => ?_) fun c H' rc nt h => he _ _ _ _ ⟨rc, rfl, rfl⟩ h
  refine s_mtabR h (by wtm_at "z_sel") e1 e2 (fun _ => by wtm_at "z_no") ?_
  refine c_tpagesR h (by wtm_at "z_sel") e1 e2 fun z H2 h => ?_
  refine s_list (by wtm_at "z_sql") ?_
  refine s_forL (xs := (pgs f).map V.int) (fun j σ L => ∃ u S', σ = [some (.ref r), some (.int t), u] ∧ L = [rooms K r ta S', pt z (il (pgs f))] ∧
      PX S' (((pgs f).take j).reverse.map fun k => (t, k)) ∧ S'.tabs = S.tabs)
    (h.only (by wtm_at "z_arr")) ⟨none, S, rfl, rfl, P.px, rfl⟩ (fun j σ L H ⟨u, S', g1, g2, _⟩ h => by subst g1 g2; exact sqL_at h (by wtm_at "z_sel")) (fun j x σ L H hx ⟨u, S', g1, g2, P', tl⟩ h => ?_) (fun σ L H ⟨u, S', g1, g2, P', tl⟩ h => ?_)
  · subst g1 g2
    obtain ⟨k, hk, rfl⟩ : ∃ k, (pgs f)[j]? = some k ∧ V.int k = x := by rw [List.getElem?_map] at hx; simpa using hx
    have et : (pgs f).take (j + 1) = (pgs f).take j ++ [k] := by rw [List.take_add_one, hk]; rfl
    have hkm := List.mem_of_getElem? hk
    have nk : (t, k) ∉ ((pgs f).take j).reverse.map fun k => (t, k) := by
      intro hm
      have nd : ((pgs f).take (j + 1)).Nodup := pgs_nodup.sublist (List.take_sublist _ _)
      rw [et, List.nodup_append] at nd
      obtain ⟨k', hm, ee⟩ := List.mem_map.mp hm
      cases ee
      exact nd.2.2 k (List.mem_reverse.mp hm) k (by simp) rfl
    have gk : (getE S' (t, k)).isSome = true := by
      rw [getE_T, tl, ← getE_T, getE_tab P.nk e2]
      exact (pgs_mem.mp hkm).2.2
    obtain ⟨e, gke⟩ := Option.isSome_iff_exists.mp gk
    wtm_at "z_in"
    obtain ⟨p1, h⟩ := h.rooE (by wtm_at "z_sel")
    wtm_at "z_in"
    refine s_mpag h (by wtm_at "z_sel") (fun _ _ _ _ _ _ => by wtm_at "z_no") ?_
    wtm_at "z_in"
    obtain ⟨P1, k1, tk⟩ := leave_px P' gke nk
    refine c_leave (o := (t, k)) h (by wtm_at "z_arr") P'.nk gke tk fun H4 h => ?_
    have h := h.rooI (rr := r) (S := leaveS S' (t, k) e) (ta := ta) (p := p1) (by wtm_at "z_arr")
    refine ⟨_, ⟨_, _, rfl, rfl, ?_, k1.tabs.trans tl⟩, h.only (by wtm_at "z_arr")⟩
    rw [et]
    simpa using P1
  · subst g1 g2
    rw [List.take_of_length_le (by simp)] at P'
    wtm_at "z_in"
    obtain ⟨p1, h⟩ := h.rooE (by wtm_at "z_sel")
    obtain ⟨d1, d2, d3, sf, ss, tl2, h⟩ := h.pagE (by wtm_at "z_sel")
    wtm_at "z_in"
    have e2' : S'.tabs[i]? = some (t, f) := by rw [tl]; exact e2
    obtain ⟨i', a', f', b1, b2, b3⟩ := tab_at tl2 (List.mem_map.mpr ⟨_, List.mem_of_getElem? e2', rfl⟩)
    refine s_isDv h (by wtm_at "z_sel") ?_
    wtm_at "z_in"
    refine s_pop1I h (by wtm_at "z_sel") b3 fun H5 h => ?_
    rw [show dropK (zv ki S'.tabs (ta.map V.ref)) (Sum.inl t) = zv ki (S'.tabs.eraseIdx i') ((ta.eraseIdx i').map V.ref) by rw [er_map]; exact zv_drop ki_inj (by simpa using tl2) P'.nk b2] at h
    have h := h.gPop (P := table K) (by wtm_at "z_sel") b1 (x := f') (by simp [b2])
    rw [← er_map] at h
    obtain ⟨P2, g⟩ := pop_px P' b2 (fun o ho => by obtain ⟨k, _, rfl⟩ := List.mem_map.mp ho; rfl) (fun k hk => List.mem_map.mpr ⟨k, List.mem_reverse.mpr (by
      rw [getE_tab P'.nk e2'] at hk
      obtain ⟨e, he⟩ := Option.isSome_iff_exists.mp hk
      have bd := P'.dom _ (List.mem_of_getElem? e2') k e he
      exact pgs_mem.mpr ⟨bd.1, bd.2, hk⟩), rfl⟩)
    have h := At.pagI (S := { S' with tabs := S'.tabs.eraseIdx i' }) (ta := ta.eraseIdx i') (p := p1) (d1 := d1) (d2 := d2) (d3 := d3) (sf := sf) (ss := ss) h (by dsimp only [pagF]; wtm_at "z_arr")
    have h := h.rooI (rr := r) (S := { S' with tabs := S'.tabs.eraseIdx i' }) (ta := ta.eraseIdx i') (p := p1) (by wtm_at "z_arr")
    have ln : (S'.tabs.eraseIdx i').length ≤ S.tabs.length := by rw [tl]; exact (List.eraseIdx_sublist ..).length_le
    exact hq _ _ _ ⟨rfl, _, _, ⟨P2.pi, by show (S'.tabs.eraseIdx i').length ≤ N + 1; omega⟩, fun o no => (g o no).trans (by rw [getE_T, tl]; rfl), rfl⟩ (h.only (by wtm_at "z_arr"))
/-! ### map -/
theorem pure_Rooms_map (hB : BlankAt K) (h : sp_Rooms_map K vs H Q E) : Goal (t_Rooms_map K (WD E)) n_Rooms_map vs H Q := by
  obtain ⟨r, ta, S, N, t, p, m, rfl, ⟨P, tn⟩, hN, tr⟩ := h
  obtain ⟨F, h, hq, he⟩ := tr.open
  unfold Goal t_Rooms_map; wtm_at "z_start"
  wtm_at "z_st"
  refine s_mroo h (by wtm_at "z_sel") (fun _ => by wtm_at "z_no") ?_
  wtm_at "z_in"
  refine c_tabof h (by wtm_at "z_sel") P.nk (fun i a f H' e1 e2 h => ?_) fun c H' rc nt h => he _ _ _ _ ⟨rc, rfl, rfl⟩ h
  wtm_at "z_in"
  wtm_at "z_st"
  refine c_asked h (fun z H' m1 p0 p1 h => ?_) fun c H' rc h => he _ _ _ _ ⟨rc, rfl, rfl⟩ h
  have rl : (rgI p (p + m)).length ≤ 64 := by rw [rgI_len]; omega
  wtm_at "z_in"
  wtm_at "z_st"
  refine s_list (by wtm_at "z_sql") ?_
  refine s_lcL (xs := (rgI p (p + m)).map V.int) (fun j acc L => acc = (((rgI p (p + m)).take j).map fun k => (f k).isSome).map V.bl ∧ L = [pt z (il (rgI p (p + m))), rooms K r ta S])
    h ⟨rfl, rfl⟩ (fun j acc L D H ⟨e1, e2⟩ h => by subst e1 e2; exact sqL_at h (by wtm_at "z_sel")) (fun j x acc L D H hx ⟨g1, g2⟩ h => ?_) (fun acc L D H ⟨g1, g2⟩ h => ?_)
  · subst g1 g2
    obtain ⟨k, hk, rfl⟩ : ∃ k, (rgI p (p + m))[j]? = some k ∧ V.int k = x := by rw [List.getElem?_map] at hx; simpa using hx
    have jl := (List.getElem?_eq_some_iff.mp hk).1
    have et : (rgI p (p + m)).take (j + 1) = (rgI p (p + m)).take j ++ [k] := by rw [List.take_add_one, hk]; rfl
    wtm_at "z_in"
    refine s_mtabR h (by wtm_at "z_sel") e1 e2 (fun _ => by wtm_at "z_no") ?_
    wtm_at "z_in"
    refine c_tgetR h (by wtm_at "z_sel") e1 e2 (fun e H2 h => ?_) (fun v e' H2 e h => ?_)
    · wtm_at "z_in"
      exact s_acc (h.only (M := [pt D (.lst ((((rgI p (p + m)).take j).map fun k => (f k).isSome).map V.bl)), pt z (il (rgI p (p + m))), rooms K r ta S]) (by wtm_at "z_arr")) .here (by simp [sizeLine_eq]; omega) ⟨by rw [et]; simp [e], rfl⟩
    · obtain ⟨te, rfl⟩ := h.enRef (by wtm_at "z_sel")
      wtm_at "z_in"
      exact s_acc (h.only (M := [pt D (.lst ((((rgI p (p + m)).take j).map fun k => (f k).isSome).map V.bl)), pt z (il (rgI p (p + m))), rooms K r ta S]) (by wtm_at "z_arr")) .here (by simp [sizeLine_eq]; omega) ⟨by rw [et]; simp [e], rfl⟩
  · subst g1 g2
    rw [List.take_of_length_le (by simp)] at h
    refine s_any (by wtm_at "z_sql") ?_
    wtm_at "z_in"
    by_cases c : ((rgI p (p + m)).map fun k => (f k).isSome).any id = true
    · simp only [c, if_true]
      exact he _ _ _ _ ⟨.inr (.inr (.inr rfl)), rfl, rfl⟩ (h.only (by wtm_at "z_arr"))
    · simp only [c, Bool.false_eq_true, if_false]
      have free : ∀ k ∈ rgI p (p + m), getE S (t, k) = none := fun k hk => by
        rw [getE_tab P.nk e2]
        cases ef : f k with
        | none => rfl
        | some e => exact (c (List.any_eq_true.mpr ⟨true, List.mem_map.mpr ⟨k, hk, by rw [ef]; rfl⟩, rfl⟩)).elim
      wtm_at "z_st"
      refine s_mroo h (by wtm_at "z_sel") (fun _ => by wtm_at "z_no") ?_
      wtm_at "z_in"
      refine c_askr h (by wtm_at "z_sel") (by omega) (fun H3 room h => ?_) fun c H' rc h => he _ _ _ _ ⟨rc, rfl, rfl⟩ (h.only (by wtm_at "z_arr"))
      have room : (heldT S.tabs : Int) + m ≤ S.frames + S.slots := room
      wtm_at "z_in"
      refine s_list (by wtm_at "z_sql") ?_
      refine s_forL (xs := (rgI p (p + m)).map V.int) (fun j σ L => ∃ u S', σ = [some (.ref r), some (.int t), some (.int p), some (.int m), some (.ref a), some (.ref z), u] ∧ L = [rooms K r ta S', pt z (il (rgI p (p + m)))] ∧
          PX S' [] ∧ S'.tabs.map (·.1) = S.tabs.map (·.1) ∧ heldT S'.tabs ≤ heldT S.tabs + j ∧ S'.frames = S.frames ∧ S'.slots = S.slots ∧ ∀ o, getE S' o = if o.1 = t ∧ o.2 ∈ (rgI p (p + m)).take j then some .bl else getE S o)
        (h.only (by wtm_at "z_arr")) ⟨none, S, rfl, rfl, P.px, rfl, Nat.le_refl _, rfl, rfl, fun o => by simp⟩ (fun j σ L H ⟨u, S', g1, g2, _⟩ h => by subst g1 g2; exact sqL_at h (by wtm_at "z_sel")) (fun j x σ L H hx ⟨u, S', g1, g2, P', ky, hd, fr, sl, ge⟩ h => ?_) (fun σ L H ⟨u, S', g1, g2, P', ky, hd, fr, sl, ge⟩ h => ?_)
      · subst g1 g2
        obtain ⟨k, hk, rfl⟩ : ∃ k, (rgI p (p + m))[j]? = some k ∧ V.int k = x := by rw [List.getElem?_map] at hx; simpa using hx
        have jl := (List.getElem?_eq_some_iff.mp hk).1
        rw [rgI_len] at jl
        have et : (rgI p (p + m)).take (j + 1) = (rgI p (p + m)).take j ++ [k] := by rw [List.take_add_one, hk]; rfl
        have hkm := List.mem_of_getElem? hk
        have kb := rgI_mem.mp hkm
        have nk : k ∉ (rgI p (p + m)).take j := by
          intro hm
          have nd : ((rgI p (p + m)).take (j + 1)).Nodup := rgI_nd.sublist (List.take_sublist _ _)
          rw [et, List.nodup_append] at nd
          exact nd.2.2 k hm k (by simp) rfl
        have gk : getE S' (t, k) = none := by
          rw [ge, if_neg (by rintro ⟨_, z⟩; exact nk z)]
          exact free k hkm
        have hkt : t ∈ S'.tabs.map (·.1) := by rw [ky]; exact List.mem_map.mpr ⟨_, List.mem_of_getElem? e2, rfl⟩
        obtain ⟨P2, h2, g2, k2, f2, s2, -⟩ := share_px (o := (t, k)) (e := .bl) P' hkt ⟨by show 0 ≤ k; omega, by show k < 64; omega⟩ gk (by omega) (fun z => (z rfl).elim)
        wtm_at "z_in"
        obtain ⟨p1, h⟩ := h.rooE (by wtm_at "z_sel")
        wtm_at "z_in"
        refine s_mpag h (by wtm_at "z_sel") (fun _ _ _ _ _ _ => by wtm_at "z_no") ?_
        wtm_at "z_in"
        have h := h.addP (R := enP K (.ref (g_BLANK K)) .bl) ⟨_, rfl, .inr ⟨rfl, hB⟩⟩
        refine c_lay (o := (t, k)) (e := .bl) h (by wtm_at "z_arr") ⟨P'.nk, ⟨hkt, by show 0 ≤ k; omega, by show k < 64; omega⟩, fun z => (z rfl).elim⟩ fun H4 h => ?_
        have e5 : layS S' (t, k) .bl = shareS S' (t, k) .bl := rfl
        rw [e5] at h
        have h := h.rooI (rr := r) (S := shareS S' (t, k) .bl) (ta := ta) (p := p1) (by wtm_at "z_arr")
        refine ⟨_, ⟨_, _, rfl, rfl, P2, k2.trans ky, by omega, f2.trans fr, s2.trans sl, fun o => ?_⟩, h.only (by wtm_at "z_arr")⟩
        rw [g2, et]
        by_cases c : o = (t, k)
        · subst c
          rw [if_pos rfl, if_pos ⟨rfl, by simp⟩]
        · rw [if_neg c, ge]
          have c2 : ¬ (o.1 = t ∧ o.2 = k) := fun ⟨z1, z2⟩ => c (Prod.ext z1 z2)
          by_cases c3 : o.1 = t ∧ o.2 ∈ (rgI p (p + m)).take j
          · rw [if_pos c3, if_pos ⟨c3.1, List.mem_append_left _ c3.2⟩]
          · rw [if_neg c3, if_neg]
            rintro ⟨z1, z2⟩
            rcases List.mem_append.mp z2 with z2 | z2
            · exact c3 ⟨z1, z2⟩
            · exact c2 ⟨z1, by simpa using z2⟩
      · subst g1 g2
        rw [List.take_of_length_le (by simp)] at ge
        have ln : S'.tabs.length = S.tabs.length := by have := congrArg List.length ky; simpa using this
        refine hq _ _ _ ⟨rfl, ta, S', ⟨P'.pi, by omega⟩, fun o is => ?_, rfl⟩ (h.only (by wtm_at "z_arr"))
        rw [ge, if_neg]
        rintro ⟨z1, z2⟩
        have := free o.2 z2
        rw [← z1] at this
        rw [show (o.1, o.2) = o from rfl] at this
        rw [this] at is
        cases is
end
set_option Elab.async false
set_option linter.all false
set_option maxRecDepth 100000
set_option maxHeartbeats 1000000
section
variable {K : PySem.W.Frag} {F0 : FP} {H0 H : Hp} {L L1 M2 : List HP} {D : Ends} {σ : L2.St} {vs : List V} {Q : VK} {E : XK} {A : Prop} {a t p d q d1 d2 d3 sf ss x s lr cr rr : Addr} {ta as ks : List Addr} {S : PS} {e : En} {o : Ow} {v : V} {i n : Nat} {f f' : Tb} {os B : List Ow} {k m tk pg : Int} {X : St} {c : Int} {r ps : List Int}
theorem pgs_64 {f : Tb} : (pgs f).length ≤ 64 := by
  have := nodup_len (m := (List.range 64).map fun (n : Nat) => (n : Int)) (pgs_nodup (f := f)) fun x hx => by
    have := pgs_mem.mp hx
    exact List.mem_map.mpr ⟨x.toNat, List.mem_range.mpr (by omega), by omega⟩
  simpa using this
theorem taR (h : At F0 H0 L H) (s1 : Sel (rooms K rr ta S) L L1) : ta.length = S.tabs.length := by
  obtain ⟨p1, h⟩ := h.rooE s1
  obtain ⟨d1, d2, d3, sf, ss, tl, h⟩ := h.pagE (.there .here)
  exact tl
theorem s_mtabP {n : Str} (h : At F0 H0 L H) (s1 : Sel (paging K p ta S) L L1) (h1 : ta[i]? = some a) (h2 : S.tabs[i]? = some (tk, f)) (l : ∀ b1, List.lookup n [(("firsts" : Str), V.ref b1)] = none) (q : A) : kIns (c_Table K) n (.ref a) H ∧ A :=
  s_mtable (h.tabOut s1 h1 h2) .here l q
theorem c_tgetP (h : At F0 H0 L H) (s1 : Sel (paging K p ta S) L L1) (h1 : ta[i]? = some a) (h2 : S.tabs[i]? = some (tk, f)) (q1 : f k = none → ∀ H', At F0 H0 (paging K p ta S :: L1) H' → Q .non H') (q2 : ∀ v e H', f k = some e → At F0 H0 (enP K v e :: paging K p ta S :: L1) H' → Q v H') : sp_Table_get K [.ref a, .int k] H Q E := by
  refine c_tget (h.tabOut s1 h1 h2) .here (fun z H' h => q1 z H' (h.tabBack (.cons .here (.cons .here .nil)) h1 h2)) (fun v e H' z h => q2 v e H' z ?_)
  have h := h.tabBack (K := K) (a := a) (f := f) (p := p) (ta := ta) (S := S) (i := i) (.cons (.there .here) (.cons (.there .here) .nil)) h1 h2
  exact h.arr (.cons (.there .here) (.cons .here .nil))
theorem share_tabs : (shareS S o e).tabs = upT S.tabs o (some e) := by
  unfold shareS layS
  split
  · rfl
  · show upT (setSt S e _).tabs o (some e) = _; rw [set_tabs]
theorem WI.en (W : WI S) (eb : e ≠ .bl) (h : S.O e ≠ []) : e.n < 1000 := by
  have l := W.rg e eb h
  have l1 := W.lf.1
  have l2 := W.ls.1
  have fb := W.fb
  cases e with
  | bl => exact (eb rfl).elim
  | fr n =>
    have l : n < S.fs.own.length := l
    show n < 1000; omega
  | sl n =>
    have l : n < S.ss.own.length := l
    show n < 1000; omega
theorem pure_Rooms_copy (h : sp_Rooms_copy K vs H Q E) : Goal (t_Rooms_copy K (WD E)) n_Rooms_copy vs H Q := by
  obtain ⟨r, ta, S, N, t, u, rfl, ⟨P, tn⟩, hN, tr⟩ := h
  obtain ⟨F, h, hq, he⟩ := tr.open
  unfold Goal t_Rooms_copy; wtm_at "z_start"
  wtm_at "z_st"
  refine s_mroo h (by wtm_at "z_sel") (fun _ => by wtm_at "z_no") ?_
  wtm_at "z_in"
  refine c_tabof h (by wtm_at "z_sel") P.nk (fun i a f H' e1 e2 h => ?_) fun c H' rc nt h => he _ _ _ _ ⟨rc, rfl, rfl⟩ h
  wtm_at "z_in"
  wtm_at "z_st"
  obtain ⟨p1, h⟩ := h.rooE (by wtm_at "z_sel")
  obtain ⟨d1, d2, d3, sf, ss, tl, h⟩ := h.pagE (by wtm_at "z_sel")
  wtm_at "z_in"
  refine s_inI h (by wtm_at "z_sel") ?_
  wtm_at "z_in"
  have h := h.pagI (S := S) (ta := ta) (p := p1) (by wtm_at "z_arr")
  have h := h.rooI (rr := r) (S := S) (ta := ta) (p := p1) (by wtm_at "z_arr")
  by_cases hk : u ∈ S.tabs.map (·.1)
  · obtain ⟨i', a', f', b1, b2, b3⟩ := tab_at tl hk
    simp only [b3, Option.isSome_some, if_true]
    exact he _ _ _ _ ⟨.inr (.inr (.inr rfl)), rfl, rfl⟩ h
  simp only [valT_none tl hk, Option.isSome_none, Bool.false_eq_true, if_false]
  have ne : t ≠ u := by
    rintro rfl
    exact hk (List.mem_map.mpr ⟨_, List.mem_of_getElem? e2, rfl⟩)
  wtm_at "z_st"
  refine s_mroo h (by wtm_at "z_sel") (fun _ => by wtm_at "z_no") ?_
  wtm_at "z_in"
  refine s_mtabR h (by wtm_at "z_sel") e1 e2 (fun _ => by wtm_at "z_no") ?_
  refine c_tpagesR h (by wtm_at "z_sel") e1 e2 fun z0 H2 h => ?_
  wtm_at "z_in"
  have p64 := pgs_64 (f := f)
  refine c_askr h (by wtm_at "z_sel") (by omega) (fun H3 room h => ?_) fun c H' rc h => he _ _ _ _ ⟨rc, rfl, rfl⟩ (h.only (by wtm_at "z_arr"))
  have room : (heldT S.tabs : Int) + (pgs f).length ≤ S.frames + S.slots := room
  wtm_at "z_in"
  refine s_seq ?_
  obtain ⟨p1, h⟩ := h.rooE (by wtm_at "z_sel")
  obtain ⟨d1, d2, d3, sf, ss, -, h⟩ := h.pagE (by wtm_at "z_sel")
  wtm_at "z_in"
  rename_i a2 _
  refine c_tinit h (by wtm_at "z_sel") fun H2 h => ?_
  refine ⟨rfl, ?_⟩
  wtm_at "z_in"
  refine s_putI h (by wtm_at "z_sel") (by simp [zv, tl, sizeLine_eq]; omega) fun H4 h => ?_
  rw [show putK (zv ki S.tabs (ta.map V.ref)) (Sum.inl u) (.ref a2) = zv ki (S.tabs ++ [(u, fun _ => none)]) ((ta ++ [a2]).map V.ref) by rw [List.map_append]; exact zv_put_new ki_inj (by simpa using tl) hk] at h
  have h := h.gSnoc (P := table K) (a := a2) (x := fun _ => none) (as := ta) (xs := S.tabs.map (·.2)) (by wtm_at "z_arr")
  rw [show S.tabs.map (·.2) ++ [fun _ => none] = (S.tabs ++ [((u, fun _ => none) : Int × Tb)]).map (·.2) by simp] at h
  have h := h.pagI (S := bornS S u) (ta := ta ++ [a2]) (p := p1) (d1 := d1) (d2 := d2) (d3 := d3) (sf := sf) (ss := ss) (by unfold bornS; dsimp only [pagF]; wtm_at "z_arr")
  have h := h.rooI (rr := r) (S := bornS S u) (ta := ta ++ [a2]) (p := p1) (by wtm_at "z_arr")
  obtain ⟨PB, gB⟩ := born_px P.px hk
  have il0 := (List.getElem?_eq_some_iff.mp e1).1
  have il2 := (List.getElem?_eq_some_iff.mp e2).1
  have e1' : (ta ++ [a2])[i]? = some a := by rw [List.getElem?_append_left il0]; exact e1
  have e2' : (bornS S u).tabs[i]? = some (t, f) := by
    show (S.tabs ++ [(u, fun _ => none)])[i]? = _
    rw [List.getElem?_append_left il2]; exact e2
  have hB : heldT (bornS S u).tabs ≤ heldT S.tabs := held_le PB.nk PB.dom P.nk P.dom fun o ho => by rw [← getE_T, ← gB]; exact ho
  wtm_at "z_in"
  refine s_mtabR h (by wtm_at "z_sel") e1' e2' (fun _ => by wtm_at "z_no") ?_
  refine c_tpagesR h (by wtm_at "z_sel") e1' e2' fun z H5 h => ?_
  refine s_list (a := z) (xs := (pgs f).map V.int) (by wtm_at "z_sql") ?_
  refine s_forL (xs := (pgs f).map V.int) (fun j σ L => ∃ w S', σ = [some (.ref r), some (.int t), some (.int u), some (.ref a), w] ∧ L = [rooms K r (ta ++ [a2]) S', pt z (il (pgs f))] ∧
      PX S' [] ∧ S'.tabs[i]? = some (t, f) ∧ S'.tabs.map (·.1) = S.tabs.map (·.1) ++ [u] ∧ heldT S'.tabs ≤ heldT S.tabs + j ∧ S'.frames = S.frames ∧ S'.slots = S.slots ∧ ∀ o, getE S' o = if o.1 = u ∧ o.2 ∈ (pgs f).take j then f o.2 else getE S o)
    (h.only (by wtm_at "z_arr")) ⟨none, bornS S u, rfl, rfl, PB, e2', by simp [bornS], hB, rfl, rfl, fun o => by rw [gB]; simp⟩ (fun j σ L H ⟨u, S', g1, g2, _⟩ h => by subst g1 g2; exact sqL_at h (by wtm_at "z_sel")) (fun j x σ L H hx ⟨w, S', g1, g2, P', e2', ky, hd, fr, sl, ge⟩ h => ?_) (fun σ L H ⟨w, S', g1, g2, P', e2', ky, hd, fr, sl, ge⟩ h => ?_)
  · subst g1 g2
    obtain ⟨k, hk2, rfl⟩ : ∃ k, (pgs f)[j]? = some k ∧ V.int k = x := by rw [List.getElem?_map] at hx; simpa using hx
    have jl := (List.getElem?_eq_some_iff.mp hk2).1
    have et : (pgs f).take (j + 1) = (pgs f).take j ++ [k] := by rw [List.take_add_one, hk2]; rfl
    have hkm := List.mem_of_getElem? hk2
    have kb := pgs_mem.mp hkm
    have nk : k ∉ (pgs f).take j := by
      intro hm
      have nd : ((pgs f).take (j + 1)).Nodup := pgs_nodup.sublist (List.take_sublist _ _)
      rw [et, List.nodup_append] at nd
      exact nd.2.2 k hm k (by simp) rfl
    have gk : getE S' (u, k) = none := by
      rw [ge, if_neg (by rintro ⟨_, z⟩; exact nk z), getE_T]
      unfold getT
      rw [ag_none hk]; rfl
    obtain ⟨e, fe⟩ := Option.isSome_iff_exists.mp kb.2.2
    have gt : getE S' (t, k) = some e := by rw [getE_tab P'.nk e2']; exact fe
    have hkt : u ∈ S'.tabs.map (·.1) := by rw [ky]; simp
    have hO : e ≠ .bl → S'.O e ≠ [] := fun z => by
      rcases P'.o3 _ _ z gt with h | h
      · exact List.ne_nil_of_mem h
      · cases h
    obtain ⟨P2, h2, g2, k2, f2, s2, tk2⟩ := share_px (o := (u, k)) (e := e) P' hkt ⟨kb.1, kb.2.1⟩ gk (by omega) hO
    wtm_at "z_in"
    obtain ⟨p1, h⟩ := h.rooE (by wtm_at "z_sel")
    wtm_at "z_in"
    refine s_mpag h (by wtm_at "z_sel") (fun _ _ _ _ _ _ => by wtm_at "z_no") ?_
    wtm_at "z_in"
    rename_i tt _
    refine s_mtabP h (by wtm_at "z_sel") e1' e2' (fun _ => by wtm_at "z_no") ?_
    wtm_at "z_in"
    refine c_tgetP h (by wtm_at "z_sel") e1' e2' (fun zz => by rw [fe] at zz; cases zz) fun v e' H6 zz h => ?_
    rw [fe] at zz
    cases zz
    have fw := fun eb => (P'.few (e := e) eb).1
    refine c_share (o := (u, k)) (e := e) h (by wtm_at "z_arr") ⟨P'.nk, ⟨hkt, kb.1, kb.2.1⟩, fun eb => ⟨P'.toWI.en eb (hO eb), by have := fw eb; omega⟩⟩ tk2 fun H4 h => ?_
    have h := h.rooI (rr := r) (S := shareS S' (u, k) e) (ta := ta ++ [a2]) (p := p1) (by wtm_at "z_arr")
    refine ⟨_, ⟨_, _, rfl, rfl, P2, ?_, k2.trans ky, by omega, f2.trans fr, s2.trans sl, fun o => ?_⟩, h.only (by wtm_at "z_arr")⟩
    · rw [share_tabs]; exact upT_other e2' ne
    rw [g2, et]
    by_cases c : o = (u, k)
    · subst c
      rw [if_pos rfl, if_pos ⟨rfl, by simp⟩, fe]
    · rw [if_neg c, ge]
      have c2 : ¬ (o.1 = u ∧ o.2 = k) := fun ⟨z1, z2⟩ => c (Prod.ext z1 z2)
      by_cases c3 : o.1 = u ∧ o.2 ∈ (pgs f).take j
      · rw [if_pos c3, if_pos ⟨c3.1, List.mem_append_left _ c3.2⟩]
      · rw [if_neg c3, if_neg]
        rintro ⟨z1, z2⟩
        rcases List.mem_append.mp z2 with z2 | z2
        · exact c3 ⟨z1, z2⟩
        · exact c2 ⟨z1, by simpa using z2⟩
  · subst g1 g2
    rw [List.take_of_length_le (by simp)] at ge
    have ln : S'.tabs.length = S.tabs.length + 1 := by have := congrArg List.length ky; simpa using this
    refine hq _ _ _ ⟨rfl, _, S', ⟨P'.pi, by omega⟩, fun o is => ?_, rfl⟩ (h.only (by wtm_at "z_arr"))
    rw [ge, if_neg]
    rintro ⟨z1, z2⟩
    obtain ⟨e, he⟩ := Option.isSome_iff_exists.mp is
    have := getT_dom (tabs := S.tabs) he
    rw [z1] at this
    exact hk this
end
set_option Elab.async false
set_option linter.all false
set_option maxRecDepth 100000
set_option maxHeartbeats 1000000
section
variable {K : PySem.W.Frag} {F0 : FP} {H0 H : Hp} {L L1 M2 : List HP} {D : Ends} {σ : L2.St} {vs : List V} {Q : VK} {E : XK} {A : Prop} {a t p d q d1 d2 d3 sf ss x s lr cr rr : Addr} {ta as ks : List Addr} {S S' : PS} {e : En} {o : Ow} {v : V} {i n : Nat} {f f' : Tb} {os B : List Ow} {k m tk pg : Int} {X : St} {c : Int} {r ps : List Int}
theorem cut_len {xs : List V} {lo hi : Option Int} : (cutV xs lo hi).length ≤ xs.length := by
  unfold cutV; simp; omega
theorem cutI_to {i : Int} (h : 0 ≤ i) : cutV (r.map V.int) none (some i) = (r.take i.toNat).map V.int := by
  obtain ⟨n, rfl⟩ := Int.eq_ofNat_of_zero_le h
  rw [cut_to, List.map_take]; rfl
theorem cutI_from {i : Int} (h : 0 ≤ i) : cutV (r.map V.int) (some i) none = (r.drop i.toNat).map V.int := by
  obtain ⟨n, rfl⟩ := Int.eq_ofNat_of_zero_le h
  rw [cut_from, List.map_drop]; rfl
theorem c_stre (h : At F0 H0 L H) (s1 : Sel (rooms K rr ta S) L L1) (nk : okTab S) (m1 : m ≤ 1000) (q : ∀ z ks xs H', chain k (k + m) xs → 0 ≤ m → (0 < m → 0 ≤ k) → (∀ x ∈ xs, (getE S (tk, x.1)).isSome = true) → At F0 H0 (pt z (.lst (ks.map V.ref)) :: triP ks xs :: rooms K rr ta S :: L1) H' → Q (.ref z) H') (he : ∀ c H', refuse K c → At F0 H0 (rooms K rr ta S :: L1) H' → E c none H') : sp_Rooms_stretches K [.ref rr, .int tk, .int k, .int m] H Q E :=
  ⟨rr, ta, S, tk, k, m, rfl, nk, m1, h.call (.cons s1 .nil) (fun v L' H' ⟨z, ks, xs, e1, e2, e3, e4, e5, e6⟩ h => by subst e1 e6; exact q z ks xs H' e2 e3 e4 e5 h) fun c d L' H' ⟨e1, e2, e3⟩ h => by subst e2 e3; exact he c H' e1 h⟩
theorem Same.refl : Same S S := ⟨rfl, fun _ => rfl, rfl, rfl⟩
theorem Same.trans {S2 : PS} (h : Same S S') (g : Same S' S2) : Same S S2 := ⟨g.keys.trans h.keys, fun o => (g.dom o).trans (h.dom o), g.fr.trans h.fr, g.sl.trans h.sl⟩
theorem Same.len (h : Same S S') : S'.tabs.length = S.tabs.length := by have := congrArg List.length h.keys; simpa using this
theorem chain_at {xs : List (Int × Int × Int)} {a b : Int} {j : Nat} {x : Int × Int × Int} (h : chain a b (xs.drop j)) (e : xs[j]? = some x) : x.1 = a / 8 ∧ x.2.1 = a % 8 ∧ x.2.1 < x.2.2 ∧ x.2.2 ≤ 8 ∧ a + (x.2.2 - x.2.1) ≤ b ∧ chain (a + (x.2.2 - x.2.1)) b (xs.drop (j + 1)) := by
  obtain ⟨jl, rfl⟩ := List.getElem?_eq_some_iff.mp e
  rw [List.drop_eq_getElem_cons jl] at h
  exact h
theorem pure_Rooms_peek (h : sp_Rooms_peek K vs H Q E) : Goal (t_Rooms_peek K (WD E)) n_Rooms_peek vs H Q := by
  obtain ⟨r, ta, S, N, t, a, m, rfl, ⟨P, tn⟩, hN, m1, tr⟩ := h
  obtain ⟨F, h, hq, he⟩ := tr.open
  unfold Goal t_Rooms_peek; wtm_at "z_start"
  wtm_at "z_st"
  wtm_at "z_st"
  rename_i cs _
  refine s_mroo h (by wtm_at "z_sel") (fun _ => by wtm_at "z_no") ?_
  wtm_at "z_in"
  refine c_stre h (by wtm_at "z_sel") P.nk m1 (fun z ks xs H' ch m0 a0 ms h => ?_) fun c H' rc h => he _ _ _ _ ⟨rc, rfl, rfl⟩ (h.only (by wtm_at "z_arr"))
  have xl := chain_len ch
  have kl : ks.length = xs.length := h.know (P := triP ks xs) (by wtm_at "z_sel") fun _ k => k.1
  refine s_list (a := z) (xs := ks.map V.ref) (by wtm_at "z_sql") ?_
  refine s_forL (xs := ks.map V.ref) (fun j σ L => ∃ (u1 u2 u3 : Option V) (S' : PS) (us : List V), σ = [some (.ref r), some (.int t), some (.int a), some (.int m), some (.ref cs), u1, u2, u3] ∧ L = [rooms K r ta S', pt z (.lst (ks.map V.ref)), triP ks xs, pt cs (.lst us)] ∧
      PI S' ∧ Same S S' ∧ (j = 0 → S' = S) ∧ us.length ≤ 8 * j ∧ (∀ x, 0 < j → xs[j - 1]? = some x → near (getE S' (t, x.1))))
    (h.only (by wtm_at "z_arr")) ⟨none, none, none, S, [], rfl, rfl, P, .refl, fun _ => rfl, by simp, fun x j0 => by omega⟩ (fun j σ L H ⟨_, _, _, S', us, g1, g2, _⟩ h => by subst g1 g2; exact sqL_at h (by wtm_at "z_sel")) (fun j x σ L H hx ⟨u1, u2, u3, S', us, g1, g2, P', sm, j0, ul, nr⟩ h => ?_) (fun σ L H ⟨u1, u2, u3, S', us, g1, g2, P', sm, j0, ul, nr⟩ h => ?_)
  · subst g1 g2
    obtain ⟨k, hk, rfl⟩ : ∃ k, ks[j]? = some k ∧ V.ref k = x := by rw [List.getElem?_map] at hx; simpa using hx
    obtain ⟨x, ex, ht⟩ := triP_at h (by wtm_at "z_sel") hk
    have jl2 := (List.getElem?_eq_some_iff.mp ex).1
    have is : (getE S' (t, x.1)).isSome = true := by rw [sm.dom]; exact ms x (List.mem_of_getElem? ex)
    have h := h.dup ht rfl
    obtain ⟨p1, h⟩ := h.rooE (by wtm_at "z_sel")
    wtm_at "z_in"
    wtm_at "z_st"
    refine s_mpag h (by wtm_at "z_sel") (fun _ _ _ _ _ _ => by wtm_at "z_no") ?_
    wtm_at "z_in"
    refine c_fetch (o := (t, x.1)) h (by wtm_at "z_arr") P' is fun S2 H4 P2 sm2 nr2 _ h => ?_
    wtm_at "z_in"
    refine s_mpag h (by wtm_at "z_sel") (fun _ _ _ _ _ _ => by wtm_at "z_no") ?_
    wtm_at "z_in"
    have is2 : (getE S2 (t, x.1)).isSome = true := by rw [sm2.dom]; exact is
    refine c_pcells (o := (t, x.1)) h (by wtm_at "z_arr") P2 is2 fun c1 rb H5 r8 h => ?_
    wtm_at "z_in"
    have cl := cut_len (xs := rb.map V.int) (lo := some x.2.1) (hi := some x.2.2)
    rw [List.length_map, r8] at cl
    refine s_extend h (by wtm_at "z_sel") (by wtm_at "z_sel") (by have := PySem.sizeLine_eq; omega) fun H6 h => ?_
    have h := h.rooI (rr := r) (S := S2) (ta := ta) (p := p1) (by wtm_at "z_arr")
    exact ⟨_, ⟨_, _, _, S2, us ++ cutV (rb.map V.int) (some x.2.1) (some x.2.2), rfl, rfl, P2, sm.trans sm2, fun z => by omega, by rw [List.length_append]; omega, fun y _ ey => by rw [show j + 1 - 1 = j by omega, ex] at ey; cases ey; exact nr2⟩, h.only (by wtm_at "z_arr")⟩
  · subst g1 g2
    wtm_at "z_in"
    have el : (ks.map V.ref).length = xs.length := by simp [kl]
    rw [el] at j0 nr
    refine hq _ _ _ ⟨S', ⟨P', by rw [sm.len]; omega⟩, fun z => ?_, fun z => ?_, cs, rfl, rfl⟩ (h.only (by wtm_at "z_arr"))
    · subst z
      rw [Int.add_zero] at ch
      exact j0 (by rw [chain_nil ch]; rfl)
    · have ne : 0 < xs.length := by
        cases xs with
        | nil => have : a = a + m := ch; omega
        | cons y ys => simp
      have ex : xs[xs.length - 1]? = some (xs[xs.length - 1]'(by omega)) := List.getElem?_eq_getElem (by omega)
      have := nr _ ne ex
      rw [chain_last ch ex] at this
      exact this
theorem c_part (h : At F0 H0 L H) (s1 : Arr [paging K p ta S, ow t o] L L1) (P : PI S) (is : (getE S o).isSome = true) (q : ∀ S' n H', PI S' → Same S S' → getE S' o = some (.fr n) → At F0 H0 (paging K p ta S' :: ow t o :: L1) H' → Q .non H') : sp_Paging_part K [.ref p, .ref t] H Q E :=
  ⟨p, ta, S, t, o, rfl, P, is, h.call s1 (fun v L' H' ⟨e1, S', n, e2, e3, e4, e5⟩ h => by subst e1 e5; exact q S' n H' e2 e3 e4 h) fun _ _ _ _ z => z.elim⟩
theorem c_pput (h : At F0 H0 L H) (s1 : Arr [paging K p ta S, ow t o, pt q (il r)] L L1) (P : PI S) (ge : getE S o = some (.fr n)) (r8 : r.length = 8) (qq : ∀ S' H', PI S' → Same S S' → getE S' o = some (.fr n) → At F0 H0 (paging K p ta S' :: ow t o :: pt q (il r) :: L1) H' → Q .non H') : sp_Paging_put K [.ref p, .ref t, .ref q] H Q E :=
  ⟨p, ta, S, t, o, n, q, r, rfl, P, ge, r8, h.call s1 (fun v L' H' ⟨e1, S', e2, e3, e4, e5⟩ h => by subst e1 e5; exact qq S' H' e2 e3 e4 h) fun _ _ _ _ z => z.elim⟩
theorem pure_Rooms_poke (h : sp_Rooms_poke K vs H Q E) : Goal (t_Rooms_poke K (WD E)) n_Rooms_poke vs H Q := by
  obtain ⟨r, ta, S, N, t, a, c, cs, rfl, ⟨P, tn⟩, hN, m1, tr⟩ := h
  obtain ⟨F, h, hq, he⟩ := tr.open
  unfold Goal t_Rooms_poke; wtm_at "z_start"
  wtm_at "z_st"
  rename_i lf _
  refine s_mroo h (by wtm_at "z_sel") (fun _ => by wtm_at "z_no") ?_
  wtm_at "z_in"
  refine c_stre h (by wtm_at "z_sel") P.nk (by omega) (fun z ks xs H' ch m0 a0 ms h => ?_) fun c H' rc h => he _ _ _ _ ⟨rc, rfl, rfl⟩ (h.only (by wtm_at "z_arr"))
  have xl := chain_len ch
  have kl : ks.length = xs.length := h.know (P := triP ks xs) (by wtm_at "z_sel") fun _ k => k.1
  refine s_list (a := z) (xs := ks.map V.ref) (by wtm_at "z_sql") ?_
  refine s_forL (xs := ks.map V.ref) (fun j σ L => ∃ (u1 u2 u3 u4 u5 : Option V) (S' : PS) (ls : List Int) (l2 : Addr) (b : Int), σ = [some (.ref r), some (.int t), some (.int a), some (.ref c), some (.ref l2), u1, u2, u3, u4, u5] ∧ L = [rooms K r ta S', pt z (.lst (ks.map V.ref)), triP ks xs, pt l2 (il ls), pt c (il cs)] ∧
      PI S' ∧ Same S S' ∧ (j = 0 → S' = S) ∧ chain b (a + cs.length) (xs.drop j) ∧ (ls.length : Int) = a + cs.length - b ∧ a ≤ b ∧ (∀ x, 0 < j → xs[j - 1]? = some x → near (getE S' (t, x.1))))
    (h.only (by wtm_at "z_arr")) ⟨none, none, none, none, none, S, cs, lf, a, rfl, rfl, P, .refl, fun _ => rfl, ch, by omega, by omega, fun x j0 => by omega⟩ (fun j σ L H ⟨_, _, _, _, _, S', us, _, _, g1, g2, _⟩ h => by subst g1 g2; exact sqL_at h (by wtm_at "z_sel")) (fun j x σ L H hx ⟨u1, u2, u3, u4, u5, S', ls, l2, b, g1, g2, P', sm, j0, chb, ll, ab, nr⟩ h => ?_) (fun σ L H ⟨u1, u2, u3, u4, u5, S', ls, l2, b, g1, g2, P', sm, j0, chb, ll, ab, nr⟩ h => ?_)
  · subst g1 g2
    obtain ⟨k, hk, rfl⟩ : ∃ k, ks[j]? = some k ∧ V.ref k = x := by rw [List.getElem?_map] at hx; simpa using hx
    obtain ⟨x, ex, ht⟩ := triP_at h (by wtm_at "z_sel") hk
    have jl2 := (List.getElem?_eq_some_iff.mp ex).1
    obtain ⟨x1, x2, x3, x4, x5, x6⟩ := chain_at chb ex
    have is : (getE S' (t, x.1)).isSome = true := by rw [sm.dom]; exact ms x (List.mem_of_getElem? ex)
    have h := h.dup ht rfl
    obtain ⟨p1, h⟩ := h.rooE (by wtm_at "z_sel")
    wtm_at "z_in"
    wtm_at "z_st"
    wtm_at "z_st"
    refine s_mpag h (by wtm_at "z_sel") (fun _ _ _ _ _ _ => by wtm_at "z_no") ?_
    wtm_at "z_in"
    refine c_part (o := (t, x.1)) h (by wtm_at "z_arr") P' is fun S2 n H4 P2 sm2 gn h => ?_
    wtm_at "z_in"
    wtm_at "z_st"
    refine s_mpag h (by wtm_at "z_sel") (fun _ _ _ _ _ _ => by wtm_at "z_no") ?_
    wtm_at "z_in"
    refine c_pcells (o := (t, x.1)) h (by wtm_at "z_arr") P2 (by rw [gn]; rfl) fun c1 rb H5 r8 h => ?_
    wtm_at "z_in"
    wtm_at "z_st"
    refine s_mpag h (by wtm_at "z_sel") (fun _ _ _ _ _ _ => by wtm_at "z_no") ?_
    wtm_at "z_in"
    have sz := PySem.sizeLine_eq
    have t1 : (ls.take (x.2.2 - x.2.1).toNat).length = (x.2.2 - x.2.1).toNat := by rw [List.length_take]; omega
    have t2 : (rb.take x.2.1.toNat).length = x.2.1.toNat := by rw [List.length_take]; omega
    have t3 : (rb.drop x.2.2.toNat).length = 8 - x.2.2.toNat := by rw [List.length_drop]; omega
    rw [cutI_to (by omega), cutI_to (by omega)] at h
    refine s_cat h (by wtm_at "z_sel") (by wtm_at "z_sel") (by simp only [List.length_map, t1, t2]; omega) fun pc H6 h => ?_
    rw [← List.map_append] at h
    refine s_slL h (by wtm_at "z_sql") fun pd H7 h => ?_
    rw [cutI_from (by omega)] at h
    refine s_cat h (by wtm_at "z_sel") (by wtm_at "z_sel") (by simp only [List.length_map, List.length_append, t1, t2, t3]; omega) fun pe H8 h => ?_
    rw [← List.map_append] at h
    refine c_pput (o := (t, x.1)) (n := n) h (by wtm_at "z_arr") P2 gn (by simp only [List.length_append, t1, t2, t3]; omega) fun S3 H9 P3 sm3 g3 h => ?_
    refine s_slL h (by wtm_at "z_sql") fun pf H10 h => ?_
    rw [cutI_from (by omega)] at h
    have h := h.rooI (rr := r) (S := S3) (ta := ta) (p := p1) (by wtm_at "z_arr")
    exact ⟨_, ⟨_, _, _, _, _, S3, ls.drop (x.2.2 - x.2.1).toNat, pf, b + (x.2.2 - x.2.1), rfl, rfl, P3, (sm.trans sm2).trans sm3, fun z => by omega, x6, by rw [List.length_drop]; omega, by omega, fun y _ ey => by rw [show j + 1 - 1 = j by omega, ex] at ey; cases ey; exact .inr ⟨n, g3⟩⟩, h.only (by wtm_at "z_arr")⟩
  · subst g1 g2
    wtm_at "z_in"
    have el : (ks.map V.ref).length = xs.length := by simp [kl]
    rw [el] at j0 nr
    refine hq _ _ _ ⟨rfl, S', ⟨P', by rw [sm.len]; omega⟩, fun z => ?_, fun z => ?_, rfl⟩ (h.only (by wtm_at "z_arr"))
    · rw [z] at ch
      rw [show a + ((0 : Nat) : Int) = a by omega] at ch
      exact j0 (by rw [chain_nil ch]; rfl)
    · have ne : 0 < xs.length := by
        cases xs with
        | nil => have : a = a + cs.length := ch; omega
        | cons y ys => simp
      have ex : xs[xs.length - 1]? = some (xs[xs.length - 1]'(by omega)) := List.getElem?_eq_getElem (by omega)
      have := nr _ ne ex
      rw [chain_last ch ex] at this
      exact this
end
set_option Elab.async false
set_option linter.all false
set_option maxRecDepth 100000
set_option maxHeartbeats 1000000
section
variable {K : PySem.W.Frag} {F0 : FP} {H0 H : Hp} {L L1 M2 : List HP} {D : Ends} {σ : L2.St} {vs : List V} {Q : VK} {E : XK} {A : Prop} {a t p d q d1 d2 d3 sf ss x s lr cr rr : Addr} {ta as ks : List Addr} {S S' : PS} {e : En} {o : Ow} {v w : V} {i n N : Nat} {f f' : Tb} {os B : List Ow} {k m tk pg tu : Int} {X : St} {c : Int} {r ps : List Int} {l : Option Ow} {dd : Dd}
theorem pure__law_draw (h : sp__law_draw K vs H Q E) : Goal (t__law_draw K (WD E)) n__law_draw vs H Q := by
  obtain ⟨a, n, m, rfl, m0, m1, n1, t⟩ := h
  obtain ⟨F, h, hq, -⟩ := t.open
  obtain ⟨x, y, z, ⟨x0, y0, y1, z0, z1⟩, h⟩ := h.tapeE
  unfold Goal t__law_draw; wtm_at "z_start"
  wtm_at "z_go"
  wtm_at "z_if"
  · wtm_at "z_go"
    refine hq _ _ _ ⟨x % m, rfl, Int.emod_nonneg _ (by omega), Int.emod_lt_of_pos _ m0, rfl⟩ (At.tapeI (by assumption) ⟨Int.ediv_nonneg x0 (by omega), y0, y1, z0, by omega⟩)
  · wtm_at "z_go"
    refine s_pow ⟨by decide, by decide, by omega⟩ ?_
    generalize (y + 39373 * (z + 1)) ^ (5 : Int).toNat = pw
    wtm_at "z_go"
    refine hq _ _ _ ⟨_, rfl, Int.emod_nonneg _ (by omega), Int.emod_lt_of_pos _ m0, rfl⟩ (At.tapeI (by assumption) ⟨x0, y0, y1, by omega, by omega⟩)
theorem pure__law_tape (h : sp__law_tape K vs H Q E) : Goal (t__law_tape K (WD E)) n__law_tape vs H Q := by
  obtain ⟨a, ns, k, rfl, k0, k1, t⟩ := h
  obtain ⟨F, h, hq, -⟩ := t.open
  have hs := h.scr .here
  unfold Goal t__law_tape; wtm_at "z_start"
  have e0 : ∃ c : Int, (k < (ns.map V.int).length → atI (ns.map V.int) k = some (.int c)) ∧ (¬ k < (ns.map V.int).length → c = 0) := by
    by_cases l : k < (ns.map V.int).length
    · obtain ⟨j, rfl⟩ := Int.eq_ofNat_of_zero_le k0
      have l' : j < ns.length := by simpa using l
      exact ⟨ns[j], fun _ => atI_nat (by simp [l']), fun n => (n l).elim⟩
    · exact ⟨0, fun q => (l q).elim, fun _ => rfl⟩
  obtain ⟨c, e1, e2⟩ := e0
  rw [List.length_map] at e1
  wtm_at "z_st"
  wtm_at "z_if"
  · refine s_ixL hs (e1 (by assumption)) ?_
    wtm_at "z_go"
    refine s_pow ⟨by decide, by decide, by decide⟩ ?_
    wtm_at "z_go"
    refine hq _ _ _ ⟨_, rfl, rfl⟩ (At.tapeI h ⟨?_, by omega, by omega, by omega, by omega⟩)
    refine Int.mul_nonneg ?_ ?_ <;> split <;> omega
  · wtm_at "z_go"
    refine s_pow ⟨by decide, by decide, by decide⟩ ?_
    wtm_at "z_go"
    refine hq _ _ _ ⟨_, rfl, rfl⟩ (At.tapeI h ⟨?_, by omega, by omega, by omega, by omega⟩)
    refine Int.mul_nonneg ?_ ?_ <;> split <;> omega
theorem c_draw (h : At F0 H0 L H) (s1 : Sel (tape a n) L L1) (m0 : 0 < m) (m1 : m ≤ 2 ^ 62) (n1 : n < 2 ^ 40) (q : ∀ r H', 0 ≤ r → r < m → At F0 H0 (tape a (n + 1) :: L1) H' → Q (.int r) H') : sp__law_draw K [.ref a, .int m] H Q E :=
  ⟨a, n, m, rfl, m0, m1, n1, h.call (.cons s1 .nil) (fun v L' H' ⟨r, e1, e2, e3, e4⟩ h => by subst e1 e4; exact q r H' e2 e3 h) fun _ _ _ _ z => z.elim⟩
theorem c_tape {ns : List Int} (h : At F0 H0 L H) (s1 : Sel (scr K a ns) L L1) (k0 : 0 ≤ k) (k1 : k < 2 ^ 20) (q : ∀ p H', At F0 H0 (tape p 0 :: scr K a ns :: L1) H' → Q (.ref p) H') : sp__law_tape K [.ref a, .int k] H Q E :=
  ⟨a, ns, k, rfl, k0, k1, h.call (.cons s1 .nil) (fun v L' H' ⟨p, e1, e2⟩ h => by subst e1 e2; exact q p H' h) fun _ _ _ _ z => z.elim⟩
theorem ix3 {t1 t2 t3 i : Int} (h0 : 0 ≤ i) (h1 : i < 3) : ∃ t, (([t1, t2, t3] : List Int).map V.int)[i.toNat]? = some (.int t) := by
  have : i.toNat < 3 := by omega
  rcases h : i.toNat with _ | _ | _ | j
  · exact ⟨t1, rfl⟩
  · exact ⟨t2, rfl⟩
  · exact ⟨t3, rfl⟩
  · omega
theorem rep_int {n : Nat} {x : Int} : List.replicate n (V.int x) = (List.replicate n x).map V.int := by simp
theorem pure__law_deed (h : sp__law_deed K vs H Q E) : Goal (t__law_deed K (WD E)) n__law_deed vs H Q := by
  obtain ⟨a, b, n, t1, t2, t3, rfl, n1, tr⟩ := h
  obtain ⟨F, h, hq, -⟩ := tr.open
  unfold Goal t__law_deed; wtm_at "z_start"
  wtm_at "z_st"
  refine c_draw h (by wtm_at "z_sel") (by omega) (by omega) (by omega) fun way H1 w0 w1 h => ?_
  wtm_at "z_in"
  refine c_draw h (by wtm_at "z_sel") (by omega) (by omega) (by omega) fun i H1 i0 i1 h => ?_
  obtain ⟨tk, et⟩ := ix3 (t1 := t1) (t2 := t2) (t3 := t3) i0 i1
  refine s_ixLn (v := .int tk) (by wtm_at "z_sql") i0 et ?_
  wtm_at "z_in"
  wtm_at "z_st"
  refine c_draw h (by wtm_at "z_sel") (by omega) (by omega) (by omega) fun pg H1 p0 p1 h => ?_
  wtm_at "z_in"
  refine c_draw h (by wtm_at "z_sel") (by omega) (by omega) (by omega) fun mm H1 m0 m1 h => ?_
  wtm_at "z_in"
  wtm_at "z_st"
  have fin : ∀ (v : V) (d : Dd) (n' : Nat) (L' : List HP) (H' : Hp), okD d → n' ≤ n + 20 → At F H (dP v d :: tape a n' :: pt b (il [t1, t2, t3]) :: L') H' → Q v H' := fun v d n' L' H' od nn h => by
    have h := h.tapeUp (m := n + 20) (.there .here) nn
    exact hq _ _ _ ⟨d, od, rfl⟩ (h.only (.cons (.there .here) (.cons .here (.cons .here .nil))))
  wtm_at "z_if"
  · wtm_at "z_if"
    · wtm_at "z_in"
      rename_i z _
      have h : At F H (dP (.ref z) (.beg tk) :: _) _ := At.exI (P := fun k => HP.pur (V.ref z = .ref k) (tp k [.str "begin", .int tk])) z (At.purI rfl h)
      exact fin _ (.beg tk) _ _ _ trivial (by omega) h
    · wtm_at "z_in"
      rename_i z _
      have h : At F H (dP (.ref z) (.cls tk) :: _) _ := At.exI (P := fun k => HP.pur (V.ref z = .ref k) (tp k [.str "close", .int tk])) z (At.purI rfl h)
      exact fin _ (.cls tk) _ _ _ trivial (by omega) h
  wtm_at "z_in"
  wtm_at "z_st"
  wtm_at "z_if"
  · wtm_at "z_in"
    rename_i z _
    have h : At F H (dP (.ref z) (.map tk pg (1 + mm)) :: _) _ := At.exI (P := fun k => HP.pur (V.ref z = .ref k) (tp k [.str "map", .int tk, .int pg, .int (1 + mm)])) z (At.purI rfl h)
    exact fin _ (.map tk pg (1 + mm)) _ _ _ trivial (by omega) h
  wtm_at "z_in"
  wtm_at "z_st"
  wtm_at "z_if"
  · wtm_at "z_in"
    rename_i z _
    have h : At F H (dP (.ref z) (.drop tk pg 1) :: _) _ := At.exI (P := fun k => HP.pur (V.ref z = .ref k) (tp k [.str "drop", .int tk, .int pg, .int 1])) z (At.purI rfl h)
    exact fin _ (.drop tk pg 1) _ _ _ trivial (by omega) h
  wtm_at "z_in"
  wtm_at "z_st"
  wtm_at "z_if"
  · wtm_at "z_in"
    refine c_draw h (by wtm_at "z_sel") (by omega) (by omega) (by omega) fun u H1 u0 u1 h => ?_
    wtm_at "z_in"
    refine c_draw h (by wtm_at "z_sel") (by omega) (by omega) (by omega) fun y H1 y0 y1 h => ?_
    wtm_at "z_in"
    rename_i z _
    have h : At F H (dP (.ref z) (.peek tk (8 * pg + u) y) :: _) _ := At.exI (P := fun k => HP.pur (V.ref z = .ref k) (tp k [.str "peek", .int tk, .int (8 * pg + u), .int y])) z (At.purI rfl h)
    exact fin _ (.peek tk (8 * pg + u) y) _ _ _ ⟨y0, by omega⟩ (by omega) h
  wtm_at "z_in"
  wtm_at "z_st"
  wtm_at "z_if"
  · wtm_at "z_in"
    refine c_draw h (by wtm_at "z_sel") (by omega) (by omega) (by omega) fun u H1 u0 u1 h => ?_
    wtm_at "z_in"
    refine c_draw h (by wtm_at "z_sel") (by omega) (by omega) (by omega) fun y H1 y0 y1 h => ?_
    wtm_at "z_in"
    refine c_draw h (by wtm_at "z_sel") (by omega) (by omega) (by omega) fun g H1 g0 g1 h => ?_
    wtm_at "z_in"
    rename_i cz _ _ z _
    rw [rep_int] at h
    have h : At F H (dP (.ref z) (.poke tk (8 * pg + u) (List.replicate g.toNat y)) :: _) _ := At.exI (P := fun k => HP.exi fun c => HP.pur (V.ref z = .ref k) (HP.all [tp k [.str "poke", .int tk, .int (8 * pg + u), .ref c], pt c (il (List.replicate g.toNat y))])) z (At.exI (P := fun c => HP.pur (V.ref z = .ref z) (HP.all [tp z [.str "poke", .int tk, .int (8 * pg + u), .ref c], pt c (il (List.replicate g.toNat y))])) cz (At.purI rfl (At.allI h)))
    exact fin _ (.poke tk (8 * pg + u) (List.replicate g.toNat y)) _ _ _ (by show (List.replicate g.toNat y).length ≤ 1000; simp; omega) (by omega) (h.arr (.cons .here (.cons .here (.cons (.there .here) .nil))))
  wtm_at "z_in"
  refine c_draw h (by wtm_at "z_sel") (by omega) (by omega) (by omega) fun u H1 u0 u1 h => ?_
  obtain ⟨tu, eu⟩ := ix3 (t1 := t1) (t2 := t2) (t3 := t3) u0 u1
  refine s_ixLn (v := .int tu) (by wtm_at "z_sql") u0 eu ?_
  wtm_at "z_in"
  rename_i z _
  have h : At F H (dP (.ref z) (.copy tk tu) :: _) _ := At.exI (P := fun k => HP.pur (V.ref z = .ref k) (tp k [.str "copy", .int tk, .int tu])) z (At.purI rfl h)
  exact fin _ (.copy tk tu) _ _ _ trivial (by omega) h
/-! ### the deeds, each done or refused -/
theorem c_begin (h : At F0 H0 L H) (s1 : Sel (rooms K rr ta S) L L1) (nk : okTab S) (tn : S.tabs.length ≤ 1000) (q : ∀ a H', tk ∉ S.tabs.map (·.1) → At F0 H0 (rooms K rr (ta ++ [a]) (bornS S tk) :: L1) H' → Q .non H') (he : ∀ c H', refuse K c → tk ∈ S.tabs.map (·.1) → At F0 H0 (rooms K rr ta S :: L1) H' → E c none H') : sp_Rooms_begin K [.ref rr, .int tk] H Q E :=
  ⟨rr, ta, S, tk, rfl, nk, tn, h.call (.cons s1 .nil) (fun v L' H' ⟨e1, e2, a, e3⟩ h => by subst e1 e3; exact q a H' e2 h) fun c d L' H' ⟨e1, e2, e3, e4⟩ h => by subst e2 e4; exact he c H' (.inr (.inr (.inr e1))) e3 h⟩
/-- what each deed is to reach -/
def doneK (K : PySem.W.Frag) (F0 : FP) (H0 : Hp) (rr : Addr) (S : PS) (N : Nat) (d : Dd) (L1 : List HP) (Q : VK) : Prop := ∀ v ta' S' H', calm8 S' (N + 1) → eff S S' d → At F0 H0 (rooms K rr ta' S' :: L1) H' → Q v H'
def failK (K : PySem.W.Frag) (F0 : FP) (H0 : Hp) (rr : Addr) (ta : List Addr) (S : PS) (L1 : List HP) (E : XK) : Prop := ∀ c H', refuse K c → At F0 H0 (rooms K rr ta S :: L1) H' → E c none H'
theorem x_begin (h : At F0 H0 L H) (s1 : Sel (rooms K rr ta S) L L1) (C : calm8 S N) (hN : N ≤ 900) (q : doneK K F0 H0 rr S N (.beg tk) L1 Q) (he : failK K F0 H0 rr ta S L1 E) : sp_Rooms_begin K [.ref rr, .int tk] H Q E := by
  have tn := C.2
  refine c_begin h s1 C.1.nk (by omega) (fun a H' nt h => ?_) fun c H' rc _ h => he c H' rc h
  obtain ⟨P, g⟩ := born_px C.1.px nt
  exact q _ _ _ H' ⟨P.pi, by show (S.tabs ++ [(tk, fun _ => none)]).length ≤ N + 1; simp; omega⟩ (fun o _ => g o) h
theorem x_close (h : At F0 H0 L H) (s1 : Sel (rooms K rr ta S) L L1) (C : calm8 S N) (hN : N ≤ 900) (q : doneK K F0 H0 rr S N (.cls tk) L1 Q) (he : failK K F0 H0 rr ta S L1 E) : sp_Rooms_close K [.ref rr, .int tk] H Q E :=
  ⟨rr, ta, S, N, tk, rfl, C, hN, h.call (.cons s1 .nil) (fun v L' H' ⟨e1, ta', S', e2, e3, e4⟩ h => by subst e1 e4; exact q _ _ _ H' e2 e3 h) fun c d L' H' ⟨e1, e2, e3⟩ h => by subst e2 e3; exact he c H' e1 h⟩
theorem x_map (h : At F0 H0 L H) (s1 : Sel (rooms K rr ta S) L L1) (C : calm8 S N) (hN : N ≤ 900) (q : doneK K F0 H0 rr S N (.map tk pg m) L1 Q) (he : failK K F0 H0 rr ta S L1 E) : sp_Rooms_map K [.ref rr, .int tk, .int pg, .int m] H Q E :=
  ⟨rr, ta, S, N, tk, pg, m, rfl, C, hN, h.call (.cons s1 .nil) (fun v L' H' ⟨e1, ta', S', e2, e3, e4⟩ h => by subst e1 e4; exact q _ _ _ H' e2 e3 h) fun c d L' H' ⟨e1, e2, e3⟩ h => by subst e2 e3; exact he c H' e1 h⟩
theorem x_drop (h : At F0 H0 L H) (s1 : Sel (rooms K rr ta S) L L1) (C : calm8 S N) (hN : N ≤ 900) (q : doneK K F0 H0 rr S N (.drop tk pg m) L1 Q) (he : failK K F0 H0 rr ta S L1 E) : sp_Rooms_drop K [.ref rr, .int tk, .int pg, .int m] H Q E :=
  ⟨rr, ta, S, N, tk, pg, m, rfl, C, hN, h.call (.cons s1 .nil) (fun v L' H' ⟨e1, ta', S', e2, e3, e4⟩ h => by subst e1 e4; exact q _ _ _ H' e2 e3 h) fun c d L' H' ⟨e1, e2, e3⟩ h => by subst e2 e3; exact he c H' e1 h⟩
theorem x_peek (h : At F0 H0 L H) (s1 : Sel (rooms K rr ta S) L L1) (C : calm8 S N) (hN : N ≤ 900) (m1 : m ≤ 1000) (q : doneK K F0 H0 rr S N (.peek tk pg m) L1 Q) (he : failK K F0 H0 rr ta S L1 E) : sp_Rooms_peek K [.ref rr, .int tk, .int pg, .int m] H Q E :=
  ⟨rr, ta, S, N, tk, pg, m, rfl, C, hN, m1, h.call (.cons s1 .nil) (fun v L' H' ⟨S', e2, e3, e4, z, e5, e6⟩ h => by subst e6; exact q _ _ _ H' e2 ⟨e3, e4⟩ h) fun c d L' H' ⟨e1, e2, e3⟩ h => by subst e2 e3; exact he c H' e1 h⟩
theorem x_poke (h : At F0 H0 L H) (s1 : Arr [rooms K rr ta S, pt a (il r)] L L1) (C : calm8 S N) (hN : N ≤ 900) (m1 : r.length ≤ 1000) (q : doneK K F0 H0 rr S N (.poke tk pg r) (pt a (il r) :: L1) Q) (he : failK K F0 H0 rr ta S (pt a (il r) :: L1) E) : sp_Rooms_poke K [.ref rr, .int tk, .int pg, .ref a] H Q E :=
  ⟨rr, ta, S, N, tk, pg, a, r, rfl, C, hN, m1, h.call s1 (fun v L' H' ⟨e1, S', e2, e3, e4, e5⟩ h => by subst e1 e5; exact q _ _ _ H' e2 ⟨e3, e4⟩ h) fun c d L' H' ⟨e1, e2, e3⟩ h => by subst e2 e3; exact he c H' e1 h⟩
theorem x_copy (h : At F0 H0 L H) (s1 : Sel (rooms K rr ta S) L L1) (C : calm8 S N) (hN : N ≤ 900) (q : doneK K F0 H0 rr S N (.copy tk tu) L1 Q) (he : failK K F0 H0 rr ta S L1 E) : sp_Rooms_copy K [.ref rr, .int tk, .int tu] H Q E :=
  ⟨rr, ta, S, N, tk, tu, rfl, C, hN, h.call (.cons s1 .nil) (fun v L' H' ⟨e1, ta', S', e2, e3, e4⟩ h => by subst e1 e4; exact q _ _ _ H' e2 e3 h) fun c d L' H' ⟨e1, e2, e3⟩ h => by subst e2 e3; exact he c H' e1 h⟩
/-- a deed's own tuple -/
def dTup : Dd → Addr → List V
  | .beg t, _ => [.str "begin", .int t]
  | .cls t, _ => [.str "close", .int t]
  | .map t p m, _ => [.str "map", .int t, .int p, .int m]
  | .drop t p m, _ => [.str "drop", .int t, .int p, .int m]
  | .peek t a m, _ => [.str "peek", .int t, .int a, .int m]
  | .poke t a _, c => [.str "poke", .int t, .int a, .ref c]
  | .copy t u, _ => [.str "copy", .int t, .int u]
def dRest : Dd → Addr → List HP
  | .poke _ _ xs, c => [pt c (il xs)]
  | _, _ => []
theorem At.ddE (h : At F0 H0 L H) (s1 : Sel (dP v dd) L L1) : ∃ k c, v = .ref k ∧ At F0 H0 (tp k (dTup dd c) :: (dRest dd c ++ L1)) H := by
  have h := h.sel s1
  cases dd with
  | poke t a xs =>
    obtain ⟨k, h⟩ := h.exE
    obtain ⟨c, h⟩ := h.exE
    obtain ⟨e, h⟩ := h.purE
    exact ⟨k, c, e, h.allE⟩
  | _ =>
    obtain ⟨k, h⟩ := h.exE
    obtain ⟨e, h⟩ := h.purE
    exact ⟨k, 0, e, h⟩
theorem At.ddI {k c : Addr} (h : At F0 H0 L H) (s1 : Arr (tp k (dTup dd c) :: dRest dd c) L L1) : At F0 H0 (dP (.ref k) dd :: L1) H := by
  have h := h.arr s1
  cases dd with
  | poke t a xs =>
    exact At.exI (P := fun k' => HP.exi fun c => HP.pur (V.ref k = .ref k') (HP.all [tp k' [.str "poke", .int t, .int a, .ref c], pt c (il xs)])) k (At.exI (P := fun c => HP.pur (V.ref k = .ref k) (HP.all [tp k [.str "poke", .int t, .int a, .ref c], pt c (il xs)])) c (At.purI rfl (At.allI h)))
  | beg t => exact At.exI (P := fun k' => HP.pur (V.ref k = .ref k') (tp k' [.str "begin", .int t])) k (At.purI rfl h)
  | cls t => exact At.exI (P := fun k' => HP.pur (V.ref k = .ref k') (tp k' [.str "close", .int t])) k (At.purI rfl h)
  | map t p m => exact At.exI (P := fun k' => HP.pur (V.ref k = .ref k') (tp k' [.str "map", .int t, .int p, .int m])) k (At.purI rfl h)
  | drop t p m => exact At.exI (P := fun k' => HP.pur (V.ref k = .ref k') (tp k' [.str "drop", .int t, .int p, .int m])) k (At.purI rfl h)
  | peek t a m => exact At.exI (P := fun k' => HP.pur (V.ref k = .ref k') (tp k' [.str "peek", .int t, .int a, .int m])) k (At.purI rfl h)
  | copy t u => exact At.exI (P := fun k' => HP.pur (V.ref k = .ref k') (tp k' [.str "copy", .int t, .int u])) k (At.purI rfl h)
theorem pure__law_done (X1 : PySem.W.exmOne K (.ref (c_NoTask K)) (.ref (c_KernelError K)) = some true) (X2 : PySem.W.exmOne K (.ref (c_NoPage K)) (.ref (c_KernelError K)) = some true) (X3 : PySem.W.exmOne K (.ref (c_NoRoom K)) (.ref (c_KernelError K)) = some true) (X4 : PySem.W.exmOne K (.ref (c_Taken K)) (.ref (c_KernelError K)) = some true)
    (h : sp__law_done K vs H Q E) : Goal (t__law_done K (WD E)) n__law_done vs H Q := by
  obtain ⟨r, ta, S, N, v, d, rfl, C, hN, od, tr⟩ := h
  obtain ⟨F, h, hq, -⟩ := tr.open
  have X : ∀ c, refuse K c → PySem.W.exmOne K c (.ref (c_KernelError K)) = some true := fun c rc => by
    rcases rc with e | e | e | e <;> subst e <;> assumption
  obtain ⟨k, c, rfl, h2⟩ := h.ddE (by wtm_at "z_sel")
  clear h
  unfold Goal t__law_done; wtm_at "z_start"
  wtm_at "z_st"
  refine s_seq ?_
  refine s_try ?_
  cases d with
  | beg t =>
    have h : At F H (tp k [.str "begin", .int t] :: rooms K r ta S :: []) H := h2
    wtm_at "z_in"
    refine s_mroo h (by wtm_at "z_sel") (fun _ => by wtm_at "z_no") ?_
    wtm_at "z_in"
    refine x_begin h (by wtm_at "z_sel") C hN (fun v ta' S' H' C' ef h => ?_) (fun z H' rc h => ⟨true, X z rc, fun _ _ _ => ?_, fun z => (by cases z)⟩)
    · wtm_at "z_in"
      have h := h.ddI (dd := .beg t) (k := k) (c := c) (.cons (.there .here) .nil)
      exact hq _ _ _ ⟨true, ta', S', rfl, C', fun z => (by cases z), fun _ => ef, rfl⟩ (h.arr (.cons (.there .here) (.cons .here .nil)))
    · wtm_at "z_in"
      have h := h.ddI (dd := .beg t) (k := k) (c := c) (.cons (.there .here) .nil)
      exact hq _ _ _ ⟨false, ta, S, rfl, ⟨C.1, by have := C.2; omega⟩, fun _ => rfl, fun z => (by cases z), rfl⟩ (h.arr (.cons (.there .here) (.cons .here .nil)))
  | cls t =>
    have h : At F H (tp k [.str "close", .int t] :: rooms K r ta S :: []) H := h2
    wtm_at "z_in"
    refine s_ifno (by decide +kernel) ?_
    wtm_at "z_in"
    refine s_mroo h (by wtm_at "z_sel") (fun _ => by wtm_at "z_no") ?_
    wtm_at "z_in"
    refine x_close h (by wtm_at "z_sel") C hN (fun v ta' S' H' C' ef h => ?_) (fun z H' rc h => ⟨true, X z rc, fun _ _ _ => ?_, fun z => (by cases z)⟩)
    · wtm_at "z_in"
      have h := h.ddI (dd := .cls t) (k := k) (c := c) (.cons (.there .here) .nil)
      exact hq _ _ _ ⟨true, ta', S', rfl, C', fun z => (by cases z), fun _ => ef, rfl⟩ (h.arr (.cons (.there .here) (.cons .here .nil)))
    · wtm_at "z_in"
      have h := h.ddI (dd := .cls t) (k := k) (c := c) (.cons (.there .here) .nil)
      exact hq _ _ _ ⟨false, ta, S, rfl, ⟨C.1, by have := C.2; omega⟩, fun _ => rfl, fun z => (by cases z), rfl⟩ (h.arr (.cons (.there .here) (.cons .here .nil)))
  | map t p m =>
    have h : At F H (tp k [.str "map", .int t, .int p, .int m] :: rooms K r ta S :: []) H := h2
    wtm_at "z_in"
    refine s_ifno (by decide +kernel) ?_
    wtm_at "z_in"
    refine s_ifno (by decide +kernel) ?_
    wtm_at "z_in"
    refine s_mroo h (by wtm_at "z_sel") (fun _ => by wtm_at "z_no") ?_
    wtm_at "z_in"
    refine x_map h (by wtm_at "z_sel") C hN (fun v ta' S' H' C' ef h => ?_) (fun z H' rc h => ⟨true, X z rc, fun _ _ _ => ?_, fun z => (by cases z)⟩)
    · wtm_at "z_in"
      have h := h.ddI (dd := .map t p m) (k := k) (c := c) (.cons (.there .here) .nil)
      exact hq _ _ _ ⟨true, ta', S', rfl, C', fun z => (by cases z), fun _ => ef, rfl⟩ (h.arr (.cons (.there .here) (.cons .here .nil)))
    · wtm_at "z_in"
      have h := h.ddI (dd := .map t p m) (k := k) (c := c) (.cons (.there .here) .nil)
      exact hq _ _ _ ⟨false, ta, S, rfl, ⟨C.1, by have := C.2; omega⟩, fun _ => rfl, fun z => (by cases z), rfl⟩ (h.arr (.cons (.there .here) (.cons .here .nil)))
  | drop t p m =>
    have h : At F H (tp k [.str "drop", .int t, .int p, .int m] :: rooms K r ta S :: []) H := h2
    wtm_at "z_in"
    refine s_ifno (by decide +kernel) ?_
    wtm_at "z_in"
    refine s_ifno (by decide +kernel) ?_
    wtm_at "z_in"
    refine s_ifno (by decide +kernel) ?_
    wtm_at "z_in"
    refine s_mroo h (by wtm_at "z_sel") (fun _ => by wtm_at "z_no") ?_
    wtm_at "z_in"
    refine x_drop h (by wtm_at "z_sel") C hN (fun v ta' S' H' C' ef h => ?_) (fun z H' rc h => ⟨true, X z rc, fun _ _ _ => ?_, fun z => (by cases z)⟩)
    · wtm_at "z_in"
      have h := h.ddI (dd := .drop t p m) (k := k) (c := c) (.cons (.there .here) .nil)
      exact hq _ _ _ ⟨true, ta', S', rfl, C', fun z => (by cases z), fun _ => ef, rfl⟩ (h.arr (.cons (.there .here) (.cons .here .nil)))
    · wtm_at "z_in"
      have h := h.ddI (dd := .drop t p m) (k := k) (c := c) (.cons (.there .here) .nil)
      exact hq _ _ _ ⟨false, ta, S, rfl, ⟨C.1, by have := C.2; omega⟩, fun _ => rfl, fun z => (by cases z), rfl⟩ (h.arr (.cons (.there .here) (.cons .here .nil)))
  | peek t a m =>
    have h : At F H (tp k [.str "peek", .int t, .int a, .int m] :: rooms K r ta S :: []) H := h2
    wtm_at "z_in"
    refine s_ifno (by decide +kernel) ?_
    wtm_at "z_in"
    refine s_ifno (by decide +kernel) ?_
    wtm_at "z_in"
    refine s_ifno (by decide +kernel) ?_
    wtm_at "z_in"
    refine s_ifno (by decide +kernel) ?_
    wtm_at "z_in"
    refine s_mroo h (by wtm_at "z_sel") (fun _ => by wtm_at "z_no") ?_
    wtm_at "z_in"
    refine x_peek h (by wtm_at "z_sel") C hN od.2 (fun v ta' S' H' C' ef h => ?_) (fun z H' rc h => ⟨true, X z rc, fun _ _ _ => ?_, fun z => (by cases z)⟩)
    · wtm_at "z_in"
      have h := h.ddI (dd := .peek t a m) (k := k) (c := c) (.cons (.there .here) .nil)
      exact hq _ _ _ ⟨true, ta', S', rfl, C', fun z => (by cases z), fun _ => ef, rfl⟩ (h.arr (.cons (.there .here) (.cons .here .nil)))
    · wtm_at "z_in"
      have h := h.ddI (dd := .peek t a m) (k := k) (c := c) (.cons (.there .here) .nil)
      exact hq _ _ _ ⟨false, ta, S, rfl, ⟨C.1, by have := C.2; omega⟩, fun _ => rfl, fun z => (by cases z), rfl⟩ (h.arr (.cons (.there .here) (.cons .here .nil)))
  | poke t a xs =>
    have h : At F H (tp k [.str "poke", .int t, .int a, .ref c] :: pt c (il xs) :: rooms K r ta S :: []) H := h2
    wtm_at "z_in"
    refine s_ifno (by decide +kernel) ?_
    wtm_at "z_in"
    refine s_ifno (by decide +kernel) ?_
    wtm_at "z_in"
    refine s_ifno (by decide +kernel) ?_
    wtm_at "z_in"
    refine s_ifno (by decide +kernel) ?_
    wtm_at "z_in"
    refine s_ifno (by decide +kernel) ?_
    wtm_at "z_in"
    refine s_mroo h (by wtm_at "z_sel") (fun _ => by wtm_at "z_no") ?_
    wtm_at "z_in"
    refine x_poke h (by wtm_at "z_arr") C hN od (fun v ta' S' H' C' ef h => ?_) (fun z H' rc h => ⟨true, X z rc, fun _ _ _ => ?_, fun z => (by cases z)⟩)
    · wtm_at "z_in"
      have h := h.ddI (dd := .poke t a xs) (k := k) (c := c) (.cons (.there (.there .here)) (.cons (.there .here) .nil))
      exact hq _ _ _ ⟨true, ta', S', rfl, C', fun z => (by cases z), fun _ => ef, rfl⟩ (h.arr (.cons (.there .here) (.cons .here .nil)))
    · wtm_at "z_in"
      have h := h.ddI (dd := .poke t a xs) (k := k) (c := c) (.cons (.there (.there .here)) (.cons (.there .here) .nil))
      exact hq _ _ _ ⟨false, ta, S, rfl, ⟨C.1, by have := C.2; omega⟩, fun _ => rfl, fun z => (by cases z), rfl⟩ (h.arr (.cons (.there .here) (.cons .here .nil)))
  | copy t u =>
    have h : At F H (tp k [.str "copy", .int t, .int u] :: rooms K r ta S :: []) H := h2
    wtm_at "z_in"
    refine s_ifno (by decide +kernel) ?_
    wtm_at "z_in"
    refine s_ifno (by decide +kernel) ?_
    wtm_at "z_in"
    refine s_ifno (by decide +kernel) ?_
    wtm_at "z_in"
    refine s_ifno (by decide +kernel) ?_
    wtm_at "z_in"
    refine s_ifno (by decide +kernel) ?_
    wtm_at "z_in"
    refine s_ifno (by decide +kernel) ?_
    wtm_at "z_in"
    refine s_mroo h (by wtm_at "z_sel") (fun _ => by wtm_at "z_no") ?_
    wtm_at "z_in"
    refine x_copy h (by wtm_at "z_sel") C hN (fun v ta' S' H' C' ef h => ?_) (fun z H' rc h => ⟨true, X z rc, fun _ _ _ => ?_, fun z => (by cases z)⟩)
    · wtm_at "z_in"
      have h := h.ddI (dd := .copy t u) (k := k) (c := c) (.cons (.there .here) .nil)
      exact hq _ _ _ ⟨true, ta', S', rfl, C', fun z => (by cases z), fun _ => ef, rfl⟩ (h.arr (.cons (.there .here) (.cons .here .nil)))
    · wtm_at "z_in"
      have h := h.ddI (dd := .copy t u) (k := k) (c := c) (.cons (.there .here) .nil)
      exact hq _ _ _ ⟨false, ta, S, rfl, ⟨C.1, by have := C.2; omega⟩, fun _ => rfl, fun z => (by cases z), rfl⟩ (h.arr (.cons (.there .here) (.cons .here .nil)))
end
set_option Elab.async false
set_option linter.all false
set_option maxRecDepth 100000
set_option maxHeartbeats 1000000
section
variable {K : PySem.W.Frag} {F0 : FP} {H0 H : Hp} {L L1 M2 : List HP} {D : Ends} {σ : L2.St} {vs : List V} {Q : VK} {E : XK} {A : Prop} {a t p d q d1 d2 d3 sf ss x s lr cr rr : Addr} {ta as ks : List Addr} {S S' : PS} {e : En} {o : Ow} {v w : V} {i n N : Nat} {f f' : Tb} {os B : List Ow} {k m tk pg tu : Int} {X : St} {c : Int} {r ps : List Int} {l : Option Ow} {dd : Dd}
theorem inV_str2 {z z1 z2 : Str} : inV (.str z) [.str z1, .str z2] = (decide (z1 = z) || decide (z2 = z)) := by
  have h : ∀ a b : Str, (a == b) = decide (a = b) := fun a b => by
    by_cases e : a = b
    · subst e; simp
    · simp [e]
  simp [inV, eqV, h]
theorem s_inS2T {z z1 z2 : Str} (h : SqT K H a [.str z1, .str z2]) (e : z1 = z ∨ z2 = z) (q : Q (.bl true) H) : rIn K false (.str z) (.ref a) H Q := ⟨a, _, rfl, .inr h, rfl, rfl, by
  have e2 : (decide (z1 = z) || decide (z2 = z)) = true := by rcases e with e | e <;> simp [e]
  rw [inV_str2, e2]; exact q⟩
theorem s_inS2F {z z1 z2 : Str} (h : SqT K H a [.str z1, .str z2]) (e : ¬ z1 = z) (e2 : ¬ z2 = z) (q : Q (.bl false) H) : rIn K false (.str z) (.ref a) H Q := ⟨a, _, rfl, .inr h, rfl, rfl, by rw [inV_str2]; simpa [e, e2] using q⟩
theorem At.lpE (h : At F0 H0 L H) (s1 : Sel (lP w l) L L1) : (w = .non ∧ l = none) ∨ ∃ k o, w = .ref k ∧ l = some o ∧ H k = some (.tup [.int o.1, .int o.2]) := h.know s1 fun _ k => k
theorem At.lpN (h : At F0 H0 L H) : At F0 H0 (lP .non none :: L) H := h.addP (.inl ⟨rfl, rfl⟩)
theorem At.lpS {k : Addr} (h : At F0 H0 L H) (e : H k = some (.tup [.int o.1, .int o.2])) : At F0 H0 (lP (.ref k) (some o) :: L) H := h.addP (.inr ⟨k, o, rfl, rfl, e⟩)
theorem pure__law_last (h : sp__law_last K vs H Q E) : Goal (t__law_last K (WD E)) n__law_last vs H Q := by
  obtain ⟨u, v, l, d, rfl, od, tr⟩ := h
  obtain ⟨F, h, hq, -⟩ := tr.open
  obtain ⟨k, c, rfl, h2⟩ := h.ddE (by wtm_at "z_sel")
  clear h
  have fin : ∀ (w : V) (lo : Option Ow) (L' : List HP) (H' : Hp), lastOf l d = lo → At F H (lP w lo :: tp k (dTup d c) :: (dRest d c ++ L')) H' → Q w H' := fun w lo L' H' elo h => by
    rw [← elo] at h
    refine hq _ _ _ rfl ?_
    have h1 : At F H (dP (.ref k) d :: lP w (lastOf l d) :: L') H' := by
      cases d with
      | poke t a xs => exact h.ddI (dd := .poke t a xs) (k := k) (c := c) (.cons (.there .here) (.cons (.there .here) .nil))
      | beg t => exact h.ddI (dd := .beg t) (k := k) (c := c) (.cons (.there .here) .nil)
      | cls t => exact h.ddI (dd := .cls t) (k := k) (c := c) (.cons (.there .here) .nil)
      | map t p m => exact h.ddI (dd := .map t p m) (k := k) (c := c) (.cons (.there .here) .nil)
      | drop t p m => exact h.ddI (dd := .drop t p m) (k := k) (c := c) (.cons (.there .here) .nil)
      | peek t p m => exact h.ddI (dd := .peek t p m) (k := k) (c := c) (.cons (.there .here) .nil)
      | copy t p => exact h.ddI (dd := .copy t p) (k := k) (c := c) (.cons (.there .here) .nil)
    exact h1.only (.cons (.there .here) (.cons .here .nil))
  unfold Goal t__law_last; wtm_at "z_start"
  cases d with
  | peek t a m =>
    have h : At F H (tp k [.str "peek", .int t, .int a, .int m] :: lP u l :: []) H := h2
    have m0 : 0 ≤ m := od.1
    wtm_at "z_st"
    refine s_inS2T (by wtm_at "z_sqt") (.inl rfl) ?_
    wtm_at "z_in"
    wtm_at "z_st"
    wtm_at "z_if"
    · wtm_at "z_in"
      have e : lastOf l (.peek t a m) = some (t, (a + m - 1) / 8) := if_pos (by omega)
      have h := h.lpS (o := (t, (a + m - 1) / 8)) (h.getX (by wtm_at "z_sel"))
      exact fin _ (some (t, (a + m - 1) / 8)) _ _ e (h.arr (M := [lP _ (some (t, (a + m - 1) / 8)), tp k [.str "peek", .int t, .int a, .int m]]) (by wtm_at "z_arr"))
    · wtm_at "z_in"
      have e : lastOf l (.peek t a m) = l := if_neg (by omega)
      exact fin _ l _ _ e (h.arr (M := [lP _ l, tp k [.str "peek", .int t, .int a, .int m]]) (by wtm_at "z_arr"))
  | poke t a xs =>
    have h : At F H (tp k [.str "poke", .int t, .int a, .ref c] :: pt c (il xs) :: lP u l :: []) H := h2
    wtm_at "z_st"
    refine s_inS2T (by wtm_at "z_sqt") (.inr rfl) ?_
    wtm_at "z_in"
    wtm_at "z_st"
    refine s_ifno (by decide +kernel) ?_
    wtm_at "z_in"
    wtm_at "z_if"
    · wtm_at "z_in"
      have e : lastOf l (.poke t a xs) = some (t, (a + xs.length - 1) / 8) := if_pos (by omega)
      have h := h.lpS (o := (t, (a + xs.length - 1) / 8)) (h.getX (by wtm_at "z_sel"))
      exact fin _ (some (t, (a + xs.length - 1) / 8)) _ _ e (h.arr (M := [lP _ (some (t, (a + xs.length - 1) / 8)), tp k [.str "poke", .int t, .int a, .ref c], pt c (il xs)]) (by wtm_at "z_arr"))
    · wtm_at "z_in"
      have e : lastOf l (.poke t a xs) = l := if_neg (by omega)
      exact fin _ l _ _ e (h.arr (M := [lP _ l, tp k [.str "poke", .int t, .int a, .ref c], pt c (il xs)]) (by wtm_at "z_arr"))
  | beg t =>
    have h : At F H (tp k [.str "begin", .int t] :: lP u l :: []) H := h2
    wtm_at "z_st"
    refine s_inS2F (by wtm_at "z_sqt") (by decide +kernel) (by decide +kernel) ?_
    wtm_at "z_in"
    wtm_at "z_st"
    rcases h.lpE (by wtm_at "z_sel") with ⟨e1, e2⟩ | ⟨k2, o, e1, e2, ht⟩
    · subst e1 e2
      wtm_at "z_in"
      exact fin _ none _ _ rfl (h.arr (M := [lP _ none, tp k [.str "begin", .int t]]) (by wtm_at "z_arr"))
    · subst e1 e2
      have h2 := h.dup ht rfl
      have hk2 := sqT_at (K := K) h2 .here
      wtm_at "z_in"
      wtm_at "z_if"
      · wtm_at "z_in"
        refine s_ifno (by decide +kernel) ?_
        wtm_at "z_in"
        refine s_ifno (by decide +kernel) ?_
        exact fin _ (some o) _ _ rfl (h.arr (M := [lP _ (some o), tp k [.str "begin", .int t]]) (by wtm_at "z_arr"))
      · exact fin _ (some o) _ _ rfl (h.arr (M := [lP _ (some o), tp k [.str "begin", .int t]]) (by wtm_at "z_arr"))
  | cls t =>
    have h : At F H (tp k [.str "close", .int t] :: lP u l :: []) H := h2
    wtm_at "z_st"
    refine s_inS2F (by wtm_at "z_sqt") (by decide +kernel) (by decide +kernel) ?_
    wtm_at "z_in"
    wtm_at "z_st"
    rcases h.lpE (by wtm_at "z_sel") with ⟨e1, e2⟩ | ⟨k2, o, e1, e2, ht⟩
    · subst e1 e2
      wtm_at "z_in"
      exact fin _ none _ _ rfl (h.arr (M := [lP _ none, tp k [.str "close", .int t]]) (by wtm_at "z_arr"))
    · subst e1 e2
      have h2 := h.dup ht rfl
      have hk2 := sqT_at (K := K) h2 .here
      wtm_at "z_in"
      wtm_at "z_if"
      · rename_i e3
        wtm_at "z_in"
        have e : lastOf (some o) (.cls t) = none := if_pos e3
        have h := h.lpN
        exact fin _ none _ _ e (h.arr (M := [lP _ none, tp k [.str "close", .int t]]) (by wtm_at "z_arr"))
      · rename_i e3
        wtm_at "z_in"
        have e : lastOf (some o) (.cls t) = some o := if_neg e3
        exact fin _ (some o) _ _ e (h.arr (M := [lP _ (some o), tp k [.str "close", .int t]]) (by wtm_at "z_arr"))
  | map t p m =>
    have h : At F H (tp k [.str "map", .int t, .int p, .int m] :: lP u l :: []) H := h2
    wtm_at "z_st"
    refine s_inS2F (by wtm_at "z_sqt") (by decide +kernel) (by decide +kernel) ?_
    wtm_at "z_in"
    wtm_at "z_st"
    rcases h.lpE (by wtm_at "z_sel") with ⟨e1, e2⟩ | ⟨k2, o, e1, e2, ht⟩
    · subst e1 e2
      wtm_at "z_in"
      exact fin _ none _ _ rfl (h.arr (M := [lP _ none, tp k [.str "map", .int t, .int p, .int m]]) (by wtm_at "z_arr"))
    · subst e1 e2
      have h2 := h.dup ht rfl
      have hk2 := sqT_at (K := K) h2 .here
      wtm_at "z_in"
      wtm_at "z_if"
      · wtm_at "z_in"
        refine s_ifno (by decide +kernel) ?_
        wtm_at "z_in"
        refine s_ifno (by decide +kernel) ?_
        exact fin _ (some o) _ _ rfl (h.arr (M := [lP _ (some o), tp k [.str "map", .int t, .int p, .int m]]) (by wtm_at "z_arr"))
      · exact fin _ (some o) _ _ rfl (h.arr (M := [lP _ (some o), tp k [.str "map", .int t, .int p, .int m]]) (by wtm_at "z_arr"))
  | drop t p m =>
    have h : At F H (tp k [.str "drop", .int t, .int p, .int m] :: lP u l :: []) H := h2
    wtm_at "z_st"
    refine s_inS2F (by wtm_at "z_sqt") (by decide +kernel) (by decide +kernel) ?_
    wtm_at "z_in"
    wtm_at "z_st"
    rcases h.lpE (by wtm_at "z_sel") with ⟨e1, e2⟩ | ⟨k2, o, e1, e2, ht⟩
    · subst e1 e2
      wtm_at "z_in"
      exact fin _ none _ _ rfl (h.arr (M := [lP _ none, tp k [.str "drop", .int t, .int p, .int m]]) (by wtm_at "z_arr"))
    · subst e1 e2
      have h2 := h.dup ht rfl
      have hk2 := sqT_at (K := K) h2 .here
      wtm_at "z_in"
      wtm_at "z_if"
      · rename_i e3
        wtm_at "z_in"
        refine s_ifno (by decide +kernel) ?_
        wtm_at "z_in"
        wtm_at "z_if"
        · rename_i e4
          wtm_at "z_in"
          wtm_at "z_if"
          · rename_i e5
            wtm_at "z_in"
            have e : lastOf (some o) (.drop t p m) = none := if_pos ⟨e3, e4, e5⟩
            have h := h.lpN
            exact fin _ none _ _ e (h.arr (M := [lP _ none, tp k [.str "drop", .int t, .int p, .int m]]) (by wtm_at "z_arr"))
          · rename_i e5
            wtm_at "z_in"
            have e : lastOf (some o) (.drop t p m) = some o := if_neg (fun z => e5 z.2.2)
            exact fin _ (some o) _ _ e (h.arr (M := [lP _ (some o), tp k [.str "drop", .int t, .int p, .int m]]) (by wtm_at "z_arr"))
        · rename_i e4
          wtm_at "z_in"
          have e : lastOf (some o) (.drop t p m) = some o := if_neg (fun z => e4 z.2.1)
          exact fin _ (some o) _ _ e (h.arr (M := [lP _ (some o), tp k [.str "drop", .int t, .int p, .int m]]) (by wtm_at "z_arr"))
      · rename_i e3
        wtm_at "z_in"
        have e : lastOf (some o) (.drop t p m) = some o := if_neg (fun z => e3 z.1)
        exact fin _ (some o) _ _ e (h.arr (M := [lP _ (some o), tp k [.str "drop", .int t, .int p, .int m]]) (by wtm_at "z_arr"))
  | copy t u2 =>
    have h : At F H (tp k [.str "copy", .int t, .int u2] :: lP u l :: []) H := h2
    wtm_at "z_st"
    refine s_inS2F (by wtm_at "z_sqt") (by decide +kernel) (by decide +kernel) ?_
    wtm_at "z_in"
    wtm_at "z_st"
    rcases h.lpE (by wtm_at "z_sel") with ⟨e1, e2⟩ | ⟨k2, o, e1, e2, ht⟩
    · subst e1 e2
      wtm_at "z_in"
      exact fin _ none _ _ rfl (h.arr (M := [lP _ none, tp k [.str "copy", .int t, .int u2]]) (by wtm_at "z_arr"))
    · subst e1 e2
      have h2 := h.dup ht rfl
      have hk2 := sqT_at (K := K) h2 .here
      wtm_at "z_in"
      wtm_at "z_if"
      · wtm_at "z_in"
        refine s_ifno (by decide +kernel) ?_
        wtm_at "z_in"
        refine s_ifno (by decide +kernel) ?_
        exact fin _ (some o) _ _ rfl (h.arr (M := [lP _ (some o), tp k [.str "copy", .int t, .int u2]]) (by wtm_at "z_arr"))
      · exact fin _ (some o) _ _ rfl (h.arr (M := [lP _ (some o), tp k [.str "copy", .int t, .int u2]]) (by wtm_at "z_arr"))
end
set_option Elab.async false
set_option linter.all false
set_option maxRecDepth 100000
set_option maxHeartbeats 1000000
section
variable {K : PySem.W.Frag} {F0 : FP} {H0 H : Hp} {L L1 M2 : List HP} {D : Ends} {σ : L2.St} {vs : List V} {Q : VK} {E : XK} {A : Prop} {a t p d q d1 d2 d3 sf ss x s lr cr rr : Addr} {ta as ks : List Addr} {S S' : PS} {e : En} {o : Ow} {v w : V} {i n N : Nat} {f f' : Tb} {os B : List Ow} {k m tk pg tu : Int} {X : St} {c : Int} {r ps : List Int} {l : Option Ow} {dd : Dd}
theorem near_some {e : Option En} (h : near e) : e.isSome = true := by
  rcases h with h | ⟨n, h⟩ <;> rw [h] <;> rfl
theorem law_step (h : ∀ o, l = some o → near (getE S o)) (od : okD dd) (ef : eff S S' dd) : ∀ o, lastOf l dd = some o → near (getE S' o) := by
  intro o ho
  cases dd with
  | beg t => rw [ef o (near_some (h o ho))]; exact h o ho
  | map t p m => rw [ef o (near_some (h o ho))]; exact h o ho
  | copy t u => rw [ef o (near_some (h o ho))]; exact h o ho
  | cls t =>
    cases l with
    | none => cases ho
    | some o' =>
      have ho : (if t = o'.1 then none else some o') = some o := ho
      by_cases c : t = o'.1
      · rw [if_pos c] at ho; cases ho
      · rw [if_neg c] at ho; cases ho
        rw [ef o (fun z => c z.symm)]; exact h o rfl
  | drop t p m =>
    cases l with
    | none => cases ho
    | some o' =>
      have ho : (if t = o'.1 ∧ p ≤ o'.2 ∧ o'.2 < p + m then none else some o') = some o := ho
      by_cases c : t = o'.1 ∧ p ≤ o'.2 ∧ o'.2 < p + m
      · rw [if_pos c] at ho; cases ho
      · rw [if_neg c] at ho; cases ho
        rw [ef o (fun z => c ⟨z.1.symm, z.2⟩)]; exact h o rfl
  | peek t a m =>
    have ho : (if 0 < m then some (t, (a + m - 1) / 8) else l) = some o := ho
    by_cases c : 0 < m
    · rw [if_pos c] at ho; cases ho; exact ef.2 c
    · rw [if_neg c] at ho
      have m0 : 0 ≤ m := od.1
      rw [ef.1 (by omega)]; exact h o ho
  | poke t a xs =>
    have ho : (if 0 < xs.length then some (t, (a + xs.length - 1) / 8) else l) = some o := ho
    by_cases c : 0 < xs.length
    · rw [if_pos c] at ho; cases ho; exact ef.2 c
    · rw [if_neg c] at ho
      rw [ef.1 (by omega)]; exact h o ho
theorem init_pi {a b : Nat} (h1 : 2 ≤ a) (h2 : a ≤ 900) (h3 : b ≤ 900) : PI (initS a b) where
  nk := List.Pairwise.nil
  dom := fun q hq => by cases hq
  lf := by simp [initS]
  ls := by simp [initS]
  fb := ⟨h1, h2, h3⟩
  c8 := ⟨fun r hr => by rw [(List.mem_replicate.mp hr).2]; rfl, fun r hr => by rw [(List.mem_replicate.mp hr).2]; rfl⟩
  o1 := fun e eb o ho => by cases ho
  o2 := fun e eb => List.Pairwise.nil
  cn := fun e eb c hc => by
    cases e with
    | bl => exact (eb rfl).elim
    | fr n =>
      have hc : (List.replicate a (0 : Int))[n]? = some c := hc
      have := List.mem_of_getElem? hc
      rw [(List.mem_replicate.mp this).2]; rfl
    | sl n =>
      have hc : (List.replicate b (0 : Int))[n]? = some c := hc
      have := List.mem_of_getElem? hc
      rw [(List.mem_replicate.mp this).2]; rfl
  rg := fun e eb h => (h rfl).elim
  hd := ⟨Int.le_refl _, by show (0 : Int) < (a : Int); omega⟩
  hl := by simp [initS]
  o3 := fun o e eb h => by cases h
theorem c_Rinit {i j : Int} (h : At F0 H0 L H) (s1 : Sel (obj (c_Rooms K) x []) L L1) (i0 : 2 ≤ i) (i1 : i ≤ 900) (j0 : 0 ≤ j) (j1 : j ≤ 900) (q : ∀ S H', PI S → S.tabs = [] → At F0 H0 (rooms K x [] S :: L1) H' → Q .non H') : sp_Rooms___init__ K [.ref x, .int i, .int j] H Q E := by
  obtain ⟨a, rfl⟩ := Int.eq_ofNat_of_zero_le (show 0 ≤ i by omega)
  obtain ⟨b, rfl⟩ := Int.eq_ofNat_of_zero_le j0
  exact ⟨x, a, b, rfl, by omega, by omega, h.call (.cons s1 .nil) (fun v L' H' ⟨e1, e2⟩ h => by subst e1 e2; exact q _ H' (init_pi (by omega) (by omega) (by omega)) rfl h) fun _ _ _ _ z => z.elim⟩
theorem c_deed {b : Addr} {t1 t2 t3 : Int} (h : At F0 H0 L H) (s1 : Arr [tape a n, pt b (il [t1, t2, t3])] L L1) (n1 : n + 20 < 2 ^ 40) (q : ∀ v d H', okD d → At F0 H0 (dP v d :: tape a (n + 20) :: pt b (il [t1, t2, t3]) :: L1) H' → Q v H') : sp__law_deed K [.ref a, .ref b] H Q E :=
  ⟨a, b, n, t1, t2, t3, rfl, n1, h.call s1 (fun v L' H' ⟨d, e1, e2⟩ h => by subst e2; exact q v d H' e1 h) fun _ _ _ _ z => z.elim⟩
theorem c_done (h : At F0 H0 L H) (s1 : Arr [rooms K rr ta S, dP v dd] L L1) (C : calm8 S N) (hN : N ≤ 900) (od : okD dd) (q : ∀ b ta' S' H', calm8 S' (N + 1) → (b = false → S' = S) → (b = true → eff S S' dd) → At F0 H0 (rooms K rr ta' S' :: dP v dd :: L1) H' → Q (.bl b) H') : sp__law_done K [.ref rr, v] H Q E :=
  ⟨rr, ta, S, N, v, dd, rfl, C, hN, od, h.call s1 (fun v L' H' ⟨b, ta', S', e1, e2, e3, e4, e5⟩ h => by subst e1 e5; exact q b ta' S' H' e2 e3 e4 h) fun _ _ _ _ z => z.elim⟩
theorem c_last (h : At F0 H0 L H) (s1 : Arr [lP w l, dP v dd] L L1) (od : okD dd) (q : ∀ w' H', At F0 H0 (lP w' (lastOf l dd) :: dP v dd :: L1) H' → Q w' H') : sp__law_last K [w, v] H Q E :=
  ⟨w, v, l, dd, rfl, od, h.call s1 (fun v L' H' e1 h => by subst e1; exact q v H' h) fun _ _ _ _ z => z.elim⟩
theorem c_place (h : At F0 H0 L H) (s1 : Sel (rooms K rr ta S) L L1) (nk : okTab S) (ge : getE S (tk, pg) = some e) (q : ∀ v H', At F0 H0 (enP K v e :: rooms K rr ta S :: L1) H' → Q v H') : sp_Rooms_place K [.ref rr, .int tk, .int pg] H Q E :=
  ⟨rr, ta, S, tk, pg, e, rfl, nk, ge, h.call (.cons s1 .nil) (fun v L' H' e1 h => by subst e1; exact q v H' h) fun _ _ _ _ z => z.elim⟩
theorem s_isiT (h : At F0 H0 L H) (s1 : Sel (enP K (.ref t) e) L L1) (q : Q (.bl true) H) : rIsi K [.ref t, .ty "tuple"] H Q := by
  obtain ⟨t', e1, h⟩ := h.en s1
  cases e1
  refine ⟨.ref t, .ty "tuple", .type "tuple", .type "tuple", true, rfl, .ty _, ?_, by simp [PySem.W.kitOne], q⟩
  rcases h with h | ⟨_, h⟩
  · exact .base (.tup h)
  · rcases h with (h | ⟨o, h⟩) | ⟨o, its, n, h1, h2, _⟩
    · cases h
    · cases h
    · exact .kTuple h1 h2
theorem s_neBt (h : At F0 H0 L H) (s : Sel (enP K v e) L L1) (s2 : Sel (tp q [.str "blank"]) L M2) (qq : Q (.bl (!decide (e = .bl))) H) : rNeD K v (.ref q) H Q :=
  ⟨e.dat, En.bl.dat, (h.en s).dp, .tup (.of (h.getX s2)) (.cons (.str _) .nil), e.dat_sh, En.bl.dat_sh, by rw [e.dat_eq]; exact qq⟩
theorem pure_law (hB : BlankAt K) (h : sp_law K vs H Q E) : Goal (t_law K (WD E)) n_law vs H Q := by
  obtain ⟨a, ns, rfl, nl, tr⟩ := h
  obtain ⟨F, h, hq, -⟩ := tr.open
  unfold Goal t_law; wtm_at "z_start"
  have hs := h.scr .here
  wtm_at "z_st"
  generalize hcnt : (if (if (3 : Int) < (ns.length : Int) then 3 else (ns.length : Int)) > 2 then (if (3 : Int) < (ns.length : Int) then 3 else (ns.length : Int)) else (2 : Int)) = cnt
  have hc : 0 ≤ cnt ∧ cnt ≤ 3 := by rw [← hcnt]; split <;> split <;> omega
  refine s_rng1 (by omega) (by omega) ?_
  refine s_forR (fun j σ L => ∃ u1 u2 u3 u4 u5 u6 u7 u8 u9, σ = [some (.ref a), u1, u2, u3, u4, u5, u6, u7, u8, u9] ∧ L = [scr K a ns]) h ⟨_, _, _, _, _, _, _, _, _, rfl, rfl⟩ (fun j σ L H1 hj ⟨_, _, _, _, _, _, _, _, _, e1, e2⟩ h => ?_) (fun σ L H1 ⟨_, _, _, _, _, _, _, _, _, e1, e2⟩ h => ?_)
  · subst e1 e2
    wtm_at "z_in"
    wtm_at "z_st"
    refine c_tape h (by wtm_at "z_sel") (by omega) (by omega) fun tp1 H2 h => ?_
    wtm_at "z_in"
    wtm_at "z_st"
    refine c_draw h (by wtm_at "z_sel") (by omega) (by omega) (by omega) fun r1 H3 b0 b1 h => ?_
    wtm_at "z_in"
    refine c_draw h (by wtm_at "z_sel") (by omega) (by omega) (by omega) fun r2 H4 c0 c1 h => ?_
    wtm_at "z_in"
    rename_i ro _
    refine c_Rinit h (by wtm_at "z_sel") (by omega) (by omega) (by omega) (by omega) fun S0 H5 P0 T0 h => ?_
    refine ⟨rfl, ?_⟩
    wtm_at "z_in"
    wtm_at "z_st"
    refine c_draw h (by wtm_at "z_sel") (by omega) (by omega) (by omega) fun r3 H6 d0 d1 h => ?_
    wtm_at "z_in"
    refine s_pow ⟨by decide, by decide, by decide⟩ ?_
    wtm_at "z_in"
    refine c_draw h (by wtm_at "z_sel") (by omega) (by omega) (by omega) fun r4 H7 f0 f1 h => ?_
    wtm_at "z_in"
    have e30 : (10 : Int) ^ (30 : Int).toNat = 1000000000000000000000000000000 := by decide +kernel
    rw [e30] at h
    rename_i tl _
    have el : HO.lst [V.int 1, V.int (2 + r3), V.int (1000000000000000000000000000000 + r4)] = il [1, 2 + r3, 1000000000000000000000000000000 + r4] := rfl
    rw [el] at h
    have nd : ([1, 2 + r3, 1000000000000000000000000000000 + r4] : List Int).Nodup := by simp; omega
    generalize hts : (1000000000000000000000000000000 + r4 : Int) = t3 at h nd
    generalize ht2 : (2 + r3 : Int) = t2 at h nd
    wtm_at "z_st"
    refine c_draw h (by wtm_at "z_sel") (by omega) (by omega) (by omega) fun r5 H8 g0 g1 h => ?_
    wtm_at "z_in"
    rw [cutI_to (by omega)] at h
    rename_i sl _
    have nd2 : (([1, t2, t3] : List Int).take (1 + r5).toNat).Nodup := nd.sublist (List.take_sublist _ _)
    have l2 : (([1, t2, t3] : List Int).take (1 + r5).toNat).length ≤ 3 := by rw [List.length_take]; simp; omega
    generalize (([1, t2, t3] : List Int).take (1 + r5).toNat) = ts at h nd2 l2
    refine s_list (a := sl) (xs := ts.map V.int) (by wtm_at "z_sql") ?_
    refine s_forL (xs := ts.map V.int) (fun i σ L => ∃ u1 u6 u7 u8 u9 ta S, σ = [some (.ref a), u1, some (.ref tp1), some (.ref ro), some .non, some (.ref tl), u6, u7, u8, u9] ∧ L = [rooms K ro ta S, pt sl (.lst (ts.map V.int)), tape tp1 10, pt tl (il [1, t2, t3]), scr K a ns] ∧
        PI S ∧ S.tabs.map (·.1) = ts.take i)
      ((h.tapeUp (m := 10) (by wtm_at "z_sel") (by omega)).only (by wtm_at "z_arr")) ⟨_, _, _, _, _, [], S0, rfl, rfl, P0, by rw [T0]; rfl⟩ (fun i σ L H ⟨_, _, _, _, _, _, _, e1, e2, _⟩ h => by subst e1 e2; exact sqL_at h (by wtm_at "z_sel")) (fun i x σ L H9 hx ⟨u1, u6, u7, u8, u9, ta, S, e1, e2, P, kt⟩ h => ?_) (fun σ L H9 ⟨u1, u6, u7, u8, u9, ta, S, e1, e2, P, kt⟩ h => ?_)
    · subst e1 e2
      obtain ⟨k, hk, rfl⟩ : ∃ k, ts[i]? = some k ∧ V.int k = x := by rw [List.getElem?_map] at hx; simpa using hx
      have il := (List.getElem?_eq_some_iff.mp hk).1
      have et : ts.take (i + 1) = ts.take i ++ [k] := by rw [List.take_add_one, hk]; rfl
      have nk : k ∉ ts.take i := by
        intro hm
        have nd : (ts.take (i + 1)).Nodup := nd2.sublist (List.take_sublist _ _)
        rw [et, List.nodup_append] at nd
        exact nd.2.2 k hm k (by simp) rfl
      have tn : S.tabs.length ≤ 1000 := by
        have := congrArg List.length kt
        simp at this; omega
      wtm_at "z_in"
      refine s_mroo h (by wtm_at "z_sel") (fun _ => by wtm_at "z_no") ?_
      wtm_at "z_in"
      refine c_begin h (by wtm_at "z_sel") P.nk tn (fun a2 H10 nt h => ?_) fun c H' _ hin h => (by rw [kt] at hin; exact (nk hin).elim)
      obtain ⟨P2, g⟩ := born_px P.px nt
      exact ⟨_, ⟨_, _, _, _, _, _, bornS S k, rfl, rfl, P2.pi, by rw [et, ← kt]; simp [bornS]⟩, h.only (by wtm_at "z_arr")⟩
    · subst e1 e2
      have tn : S.tabs.length ≤ 3 := by
        have := congrArg List.length kt
        simp at this; omega
      wtm_at "z_in"
      refine s_rng1 (by omega) (by omega) ?_
      refine s_forR (fun i σ L => ∃ u1 u6 u7 u8 u9 v l ta S, σ = [some (.ref a), u1, some (.ref tp1), some (.ref ro), some v, some (.ref tl), u6, u7, u8, u9] ∧ L = [rooms K ro ta S, lP v l, tape tp1 (10 + 20 * i), pt tl (_root_.S.il [1, t2, t3]), scr K a ns] ∧
          calm8 S (3 + i) ∧ ∀ o, l = some o → near (getE S o))
        (h.lpN.only (by wtm_at "z_arr")) ⟨_, _, _, _, _, .non, none, ta, S, rfl, rfl, ⟨P, tn⟩, fun o z => by cases z⟩ (fun i σ L H10 hi ⟨u1, u6, u7, u8, u9, v, l, ta, S, e1, e2, C, nr⟩ h => ?_) (fun σ L H9 ⟨u1, u6, u7, u8, u9, v, l, ta, S, e1, e2, C, nr⟩ h => ?_)
      · subst e1 e2
        have hi2 : i < 30 := by simpa using hi
        wtm_at "z_in"
        wtm_at "z_st"
        refine c_deed h (by wtm_at "z_arr") (by omega) fun vd d H11 od h => ?_
        wtm_at "z_in"
        wtm_at "z_st"
        refine c_done h (by wtm_at "z_arr") C (by omega) od fun b ta' S' H12 C' eb1 eb2 h => ?_
        wtm_at "z_in"
        have fin : ∀ (bk ct : L2.St → Hp → Prop) (v : V) (l : Option Ow) (L' : List HP) (H13 : Hp), (∀ o, l = some o → near (getE S' o)) → At F H (lP v l :: rooms K ro ta' S' :: tape tp1 (10 + 20 * i + 20) :: pt tl (_root_.S.il [1, t2, t3]) :: scr K a ns :: L') H13 →
            tIfS (tTest (tOp rNotN (tVar 4) (tC .non))) (tSeq (tAsg (tM (c_Rooms K) "place" (sp_Rooms_place K) (WE (WD E)) (tVar 3) (tCons (tOp (rIxT K) (tVar 4) (tC (.int 0))) (tCons (tOp (rIxT K) (tVar 4) (tC (.int 1))) tNil))) (gName 9))
              (tIfS (tOr (tNot (tB (tCB (rIsi K) (tCons (tVar 9) (tCons (tC (.ty "tuple")) tNil))))) (tAnd (tTest (tOp (rNeD K) (tVar 9) (tTup (tCons (tC (.str "blank")) tNil)))) (tTest (tOp rNe (tOp (rIxT K) (tVar 9) (tC (.int 0))) (tC (.str "frame")))))) (tRet (tC (.bl false))) tNext)) tNext
              ⟨inv F H (fun σ L => ∃ u1 u6 u7 u8 u9 v l ta S, σ = [some (.ref a), u1, some (.ref tp1), some (.ref ro), some v, some (.ref tl), u6, u7, u8, u9] ∧ L = [rooms K ro ta S, lP v l, tape tp1 (10 + 20 * (i + 1)), pt tl (_root_.S.il [1, t2, t3]), scr K a ns] ∧
          calm8 S (3 + (i + 1)) ∧ ∀ o, l = some o → near (getE S o)), Q, bk, ct⟩ [some (.ref a), u1, some (.ref tp1), some (.ref ro), some v, some (.ref tl), u6, some (.int (0 + i)), some vd, u9] H13 := by
          clear h nr
          intro bk ct v l L' H13 nr h
          rw [show 10 + 20 * i + 20 = 10 + 20 * (i + 1) by omega] at h
          wtm_at "z_in"
          rcases h.lpE (by wtm_at "z_sel") with ⟨q1, q2⟩ | ⟨k2, o, q1, q2, ht⟩
          · subst q1 q2
            wtm_at "z_in"
            exact ⟨_, ⟨_, _, _, _, _, .non, none, ta', S', rfl, rfl, C', nr⟩, h.only (by wtm_at "z_arr")⟩
          · subst q1 q2
            have h2 := h.dup ht rfl
            have hk2 := sqT_at (K := K) h2 .here
            wtm_at "z_in"
            wtm_at "z_st"
            refine s_mroo h (by wtm_at "z_sel") (fun _ => by wtm_at "z_no") ?_
            wtm_at "z_in"
            obtain ⟨e, ge⟩ := Option.isSome_iff_exists.mp (near_some (nr o rfl))
            refine c_place (tk := o.1) (pg := o.2) h (by wtm_at "z_sel") C'.1.nk ge fun pl H14 h => ?_
            obtain ⟨te, rfl⟩ := h.enRef (by wtm_at "z_sel")
            wtm_at "z_in"
            refine s_isiT h (by wtm_at "z_sel") ?_
            wtm_at "z_in"
            refine s_neBt h (by wtm_at "z_sel") (by wtm_at "z_sel") ?_
            wtm_at "z_in"
            have nn := nr o rfl
            have go : ∀ (zz : Addr) (H' : Hp) (u7 u8 u9 : Option V) (w2 : V), w2 = .ref k2 → At F H (tp zz [.str "blank"] :: enP K (.ref te) e :: rooms K ro ta' S' :: lP (.ref k2) (some o) :: tape tp1 (10 + 20 * (i + 1)) :: pt tl (_root_.S.il [1, t2, t3]) :: scr K a ns :: L') H' →
                inv F H (fun σ L => ∃ u1 u6 u7 u8 u9 v l ta S, σ = [some (.ref a), u1, some (.ref tp1), some (.ref ro), some v, some (.ref tl), u6, u7, u8, u9] ∧ L = [rooms K ro ta S, lP v l, tape tp1 (10 + 20 * (i + 1)), pt tl (_root_.S.il [1, t2, t3]), scr K a ns] ∧
          calm8 S (3 + (i + 1)) ∧ ∀ o, l = some o → near (getE S o)) [some (.ref a), u1, some (.ref tp1), some (.ref ro), some w2, some (.ref tl), u6, u7, u8, u9] H' := fun zz H' u7 u8 u9 w2 ew h => by
              subst ew
              exact ⟨_, ⟨_, _, _, _, _, _, some o, ta', S', rfl, rfl, C', nr⟩, h.only (by wtm_at "z_arr")⟩
            rw [ge] at nn
            rcases nn with nn | ⟨n, nn⟩
            · cases nn
              wtm_at "z_in"
              exact go _ _ _ _ _ _ rfl h
            · cases nn
              have h3 : SqT K _ te [.str "frame", .int n] := h.enSq (e := .fr n) (t := te) (by wtm_at "z_sel")
              rw [decide_eq_false (show ¬ En.fr n = En.bl from fun z => (by cases z))]
              wtm_at "z_in"
              exact go _ _ _ _ _ _ rfl h
        simp only [q_ifS, q_test, q_op, q_var0, q_varS, q_c, q_next] at fin
        cases b with
        | true =>
          wtm_at "z_in"
          refine c_last h (by wtm_at "z_arr") od fun w' H13 h => ?_
          wtm_at "z_in"
          exact fin _ _ w' (lastOf l d) _ _ (law_step nr od (eb2 rfl)) (h.arr (M := [lP w' (lastOf l d), rooms K ro ta' S', tape tp1 (10 + 20 * i + 20), pt tl (_root_.S.il [1, t2, t3]), scr K a ns]) (by wtm_at "z_arr"))
        | false =>
          wtm_at "z_in"
          exact fin _ _ v l _ _ (fun o ho => by rw [eb1 rfl]; exact nr o ho) (h.arr (M := [lP v l, rooms K ro ta' S', tape tp1 (10 + 20 * i + 20), pt tl (_root_.S.il [1, t2, t3]), scr K a ns]) (by wtm_at "z_arr"))
      · subst e1 e2
        exact ⟨_, ⟨_, _, _, _, _, _, _, _, _, rfl, rfl⟩, h.only (by wtm_at "z_arr")⟩
  · subst e1 e2
    wtm_at "z_in"
    exact hq _ _ _ rfl h
end
set_option Elab.async false
set_option linter.all false
set_option maxRecDepth 100000
set_option maxHeartbeats 4000000
def top (i : Nat) : Stmt := PySem.Challenge.pw_ownroom_k08_last_page_stays_in_a_frame.main.body.getD i (.Pass ⟨0, 0, 0, 0⟩)
structure Txt (K : PySem.W.Frag) (mg : Str → Option Value) : Prop where
  b_abs : mg "abs" = none
  b_any : mg "any" = none
  b_int : mg "int" = none
  b_isinstance : mg "isinstance" = none
  b_len : mg "len" = none
  b_list : mg "list" = none
  b_max : mg "max" = none
  b_min : mg "min" = none
  b_range : mg "range" = none
  b_sorted : mg "sorted" = none
  b_sum : mg "sum" = none
  b_tuple : mg "tuple" = none
  c_Paging : Cls K (S.c_Paging K)
  c_Rooms : Cls K (S.c_Rooms K)
  c_Store : Cls K (S.c_Store K)
  c_Table : Cls K (S.c_Table K)
  e_KernelError : ExC K mg "KernelError" (S.c_KernelError K) [.type "ValueError", .type "Exception", .type "BaseException", .type "object"]
  e_NoOwner : ExC K mg "NoOwner" (S.c_NoOwner K) [.type "ValueError", .type "Exception", .type "BaseException", .type "object"]
  e_NoPage : ExC K mg "NoPage" (S.c_NoPage K) [.type "ValueError", .type "Exception", .type "BaseException", .type "object"]
  e_NoRoom : ExC K mg "NoRoom" (S.c_NoRoom K) [.type "ValueError", .type "Exception", .type "BaseException", .type "object"]
  e_NoTask : ExC K mg "NoTask" (S.c_NoTask K) [.type "ValueError", .type "Exception", .type "BaseException", .type "object"]
  e_Taken : ExC K mg "Taken" (S.c_Taken K) [.type "ValueError", .type "Exception", .type "BaseException", .type "object"]
  g_BLANK : mg "BLANK" = some (.ref (S.g_BLANK K))
  i_PAGES : ∃ t, mg "PAGES" = some (.int 64 t)
  i_PAGE_SIZE : ∃ t, mg "PAGE_SIZE" = some (.int 8 t)
  i_STEP : ∃ t, mg "STEP" = some (.int 8 t)
  n_Paging_frames : NoAttr K (S.c_Paging K) "frames"
  n_Paging_hand : NoAttr K (S.c_Paging K) "hand"
  n_Paging_owners : NoAttr K (S.c_Paging K) "owners"
  n_Paging_slots : NoAttr K (S.c_Paging K) "slots"
  n_Paging_stores : NoAttr K (S.c_Paging K) "stores"
  n_Paging_tables : NoAttr K (S.c_Paging K) "tables"
  n_Rooms_paging : NoAttr K (S.c_Rooms K) "paging"
  n_Store_contents : NoAttr K (S.c_Store K) "contents"
  n_Store_owners : NoAttr K (S.c_Store K) "owners"
  n_Table_firsts : NoAttr K (S.c_Table K) "firsts"
  x_NoTask : PySem.W.exmOne K (.ref (c_NoTask K)) (.ref (c_KernelError K)) = some true
  x_NoPage : PySem.W.exmOne K (.ref (c_NoPage K)) (.ref (c_KernelError K)) = some true
  x_NoRoom : PySem.W.exmOne K (.ref (c_NoRoom K)) (.ref (c_KernelError K)) = some true
  x_Taken : PySem.W.exmOne K (.ref (c_Taken K)) (.ref (c_KernelError K)) = some true
section
variable {P : Program} {w : World} {K : PySem.W.Frag} {mg : Str → Option Value} {base : Heap}
abbrev st_Store___init__ : Stmt := inClass (top 10) 0
theorem sc_Store___init__ : FnScope n_Store___init__ ["self", "many"] (defScope st_Store___init__) := ⟨rfl, rfl, rfl, by decide +kernel, rfl, by decide +kernel, by decide +kernel⟩
theorem ok_Store___init__ {f : Addr} {fd : FuncData} (F : FnP K "__init__" "Store.__init__" st_Store___init__ f fd) (T : Txt K mg)
    (len : ∀ vs H Q E, sp_Store___init__ K vs H Q E → vs.length = 2) (pure : ∀ vs H Q E, sp_Store___init__ K vs H Q E → t_Store___init__ K (WD E) ⟨fun _ H' => Q .non H', Q, fun _ _ => False, fun _ _ => False⟩ (start n_Store___init__ vs) H) :
    FnOk P w K mg base (L2.CX P w) 1 f fd ["self", "many"] (sp_Store___init__ K) := by
  have sc := sc_Store___init__
  refine F.ok sc len fun cdv A outer s H vs Q E hr h => ⟨t_Store___init__ K (WD E), ?_, pure vs H Q E h⟩
  have tk : Takes (cxOf (L2.CX P w) P w K mg base n_Store___init__ "Store.__init__" (defScope st_Store___init__) f cdv A outer s H E) (WD E) := takes_of rfl rfl rfl rfl
  exact (pss_cons (ps_f T.c_Store T.n_Store_owners (pv 0) (pe_op op_rep (pe_lst (pa_cons pe_int pa_nil)) (pv 1)))
  (pss_one (ps_f T.c_Store T.n_Store_contents (pv 0) (pe_lc (own := [("page", 2)]) (g := (gName 2)) rfl sc.nd (pi_range1 rfl T.b_range (pa_cons (pv 1) pa_nil)) (blkOk_by (own := [("page", 2)]) (N := n_Store___init__) (sc := defScope st_Store___init__) (by decide +kernel)) (fun _ _ _ _ _ => (pg_name (i := 2) sc.nd rfl (Or.inl rfl))) (fun _ _ _ _ _ => pts_nil) (fun _ _ _ _ _ => (pe_op op_rep (pe_lst (pa_cons pe_int pa_nil)) (pe_gint rfl T.i_PAGE_SIZE)))))))

abbrev st_Store_take : Stmt := inClass (top 10) 1
theorem sc_Store_take : FnScope n_Store_take ["self"] (defScope st_Store_take) := ⟨rfl, rfl, rfl, by decide +kernel, rfl, by decide +kernel, by decide +kernel⟩
theorem ok_Store_take {f : Addr} {fd : FuncData} (F : FnP K "take" "Store.take" st_Store_take f fd) (T : Txt K mg)
    (len : ∀ vs H Q E, sp_Store_take K vs H Q E → vs.length = 1) (pure : ∀ vs H Q E, sp_Store_take K vs H Q E → t_Store_take K (WD E) ⟨fun _ H' => Q .non H', Q, fun _ _ => False, fun _ _ => False⟩ (start n_Store_take vs) H) :
    FnOk P w K mg base (L2.CX P w) 1 f fd ["self"] (sp_Store_take K) := by
  have sc := sc_Store_take
  refine F.ok sc len fun cdv A outer s H vs Q E hr h => ⟨t_Store_take K (WD E), ?_, pure vs H Q E h⟩
  have tk : Takes (cxOf (L2.CX P w) P w K mg base n_Store_take "Store.take" (defScope st_Store_take) f cdv A outer s H E) (WD E) := takes_of rfl rfl rfl rfl
  exact (pss_cons (ps_if (pt_cmpR op_notIn_seq pe_int (pe_f T.c_Store T.n_Store_owners (pv 0)) (by with_unfolding_all rfl)) (pss_one (ps_ret pe_non)) pss_nil)
  (pss_cons (ps_set (i := 1) sc.nd rfl (Or.inl rfl) (pe_bm PySem.F.plainAttrs_list PySem.F.slot_list_index PySem.F.type_list_index mt_index (pe_f T.c_Store T.n_Store_owners (pv 0)) (pa_cons pe_int pa_nil)))
  (pss_cons (ps_asg pe_int (pg_sub (pe_f T.c_Store T.n_Store_owners (pv 0)) (pv 1) set_list))
  (pss_cons (ps_asg (pe_op op_rep (pe_lst (pa_cons pe_int pa_nil)) (pe_gint rfl T.i_PAGE_SIZE)) (pg_sub (pe_f T.c_Store T.n_Store_contents (pv 0)) (pv 1) set_list))
  (pss_one (ps_ret (pv 1)))))))

abbrev st_Store_count : Stmt := inClass (top 10) 5
theorem sc_Store_count : FnScope n_Store_count ["self", "page"] (defScope st_Store_count) := ⟨rfl, rfl, rfl, by decide +kernel, rfl, by decide +kernel, by decide +kernel⟩
theorem ok_Store_count {f : Addr} {fd : FuncData} (F : FnP K "count" "Store.count" st_Store_count f fd) (T : Txt K mg)
    (len : ∀ vs H Q E, sp_Store_count K vs H Q E → vs.length = 2) (pure : ∀ vs H Q E, sp_Store_count K vs H Q E → t_Store_count K (WD E) ⟨fun _ H' => Q .non H', Q, fun _ _ => False, fun _ _ => False⟩ (start n_Store_count vs) H) :
    FnOk P w K mg base (L2.CX P w) 1 f fd ["self", "page"] (sp_Store_count K) := by
  have sc := sc_Store_count
  refine F.ok sc len fun cdv A outer s H vs Q E hr h => ⟨t_Store_count K (WD E), ?_, pure vs H Q E h⟩
  have tk : Takes (cxOf (L2.CX P w) P w K mg base n_Store_count "Store.count" (defScope st_Store_count) f cdv A outer s H E) (WD E) := takes_of rfl rfl rfl rfl
  exact (pss_cons (ps_if (pt_not (pt_chain op_le op_lt pe_int (pv 1) (pe_callB call_len (by rfl) T.b_len PySem.boot_len (pa_cons (pe_f T.c_Store T.n_Store_owners (pv 0)) pa_nil)))) (pss_one (ps_ret pe_int)) pss_nil)
  (pss_one (ps_ret (pe_ix ix_list (pe_f T.c_Store T.n_Store_owners (pv 0)) (pv 1) (fun _ _ => rfl)))))

abbrev st_Store_free : Stmt := inClass (top 10) 8
theorem sc_Store_free : FnScope n_Store_free ["self"] (defScope st_Store_free) := ⟨rfl, rfl, rfl, by decide +kernel, rfl, by decide +kernel, by decide +kernel⟩
theorem ok_Store_free {f : Addr} {fd : FuncData} (F : FnP K "free" "Store.free" st_Store_free f fd) (T : Txt K mg)
    (len : ∀ vs H Q E, sp_Store_free K vs H Q E → vs.length = 1) (pure : ∀ vs H Q E, sp_Store_free K vs H Q E → t_Store_free K (WD E) ⟨fun _ H' => Q .non H', Q, fun _ _ => False, fun _ _ => False⟩ (start n_Store_free vs) H) :
    FnOk P w K mg base (L2.CX P w) 1 f fd ["self"] (sp_Store_free K) := by
  have sc := sc_Store_free
  refine F.ok sc len fun cdv A outer s H vs Q E hr h => ⟨t_Store_free K (WD E), ?_, pure vs H Q E h⟩
  have tk : Takes (cxOf (L2.CX P w) P w K mg base n_Store_free "Store.free" (defScope st_Store_free) f cdv A outer s H E) (WD E) := takes_of rfl rfl rfl rfl
  exact (pss_one (ps_ret (pe_bm PySem.F.plainAttrs_list PySem.F.slot_list_count PySem.F.type_list_count mt_lcount (pe_f T.c_Store T.n_Store_owners (pv 0)) (pa_cons pe_int pa_nil))))

abbrev st_Table___init__ : Stmt := inClass (top 16) 0
theorem sc_Table___init__ : FnScope n_Table___init__ ["self"] (defScope st_Table___init__) := ⟨rfl, rfl, rfl, by decide +kernel, rfl, by decide +kernel, by decide +kernel⟩
theorem ok_Table___init__ {f : Addr} {fd : FuncData} (F : FnP K "__init__" "Table.__init__" st_Table___init__ f fd) (T : Txt K mg)
    (len : ∀ vs H Q E, sp_Table___init__ K vs H Q E → vs.length = 1) (pure : ∀ vs H Q E, sp_Table___init__ K vs H Q E → t_Table___init__ K (WD E) ⟨fun _ H' => Q .non H', Q, fun _ _ => False, fun _ _ => False⟩ (start n_Table___init__ vs) H) :
    FnOk P w K mg base (L2.CX P w) 1 f fd ["self"] (sp_Table___init__ K) := by
  have sc := sc_Table___init__
  refine F.ok sc len fun cdv A outer s H vs Q E hr h => ⟨t_Table___init__ K (WD E), ?_, pure vs H Q E h⟩
  have tk : Takes (cxOf (L2.CX P w) P w K mg base n_Table___init__ "Table.__init__" (defScope st_Table___init__) f cdv A outer s H E) (WD E) := takes_of rfl rfl rfl rfl
  exact (pss_one (ps_f T.c_Table T.n_Table_firsts (pv 0) pe_dnewK))

abbrev st_Table_get : Stmt := inClass (top 16) 1
theorem sc_Table_get : FnScope n_Table_get ["self", "page"] (defScope st_Table_get) := ⟨rfl, rfl, rfl, by decide +kernel, rfl, by decide +kernel, by decide +kernel⟩
theorem ok_Table_get {f : Addr} {fd : FuncData} (F : FnP K "get" "Table.get" st_Table_get f fd) (T : Txt K mg)
    (len : ∀ vs H Q E, sp_Table_get K vs H Q E → vs.length = 2) (pure : ∀ vs H Q E, sp_Table_get K vs H Q E → t_Table_get K (WD E) ⟨fun _ H' => Q .non H', Q, fun _ _ => False, fun _ _ => False⟩ (start n_Table_get vs) H) :
    FnOk P w K mg base (L2.CX P w) 1 f fd ["self", "page"] (sp_Table_get K) := by
  have sc := sc_Table_get
  refine F.ok sc len fun cdv A outer s H vs Q E hr h => ⟨t_Table_get K (WD E), ?_, pure vs H Q E h⟩
  have tk : Takes (cxOf (L2.CX P w) P w K mg base n_Table_get "Table.get" (defScope st_Table_get) f cdv A outer s H E) (WD E) := takes_of rfl rfl rfl rfl
  exact (pss_cons (ps_set (i := 2) sc.nd rfl (Or.inl rfl) (pe_dget2 (hu_of hr) (pe_f T.c_Table T.n_Table_firsts (pv 0)) (pe_op op_fdivW (pv 1) (pe_gint rfl T.i_STEP)) pe_non ⟨by rfl, by rfl, by rfl, by rfl⟩))
  (pss_cons (ps_if (pt_cmpR op_isN (pv 2) pe_non (nomark _)) (pss_one (ps_ret pe_non)) pss_nil)
  (pss_one (ps_ret (pe_dget2 (hu_of hr) (pv 2) (pe_op op_mod (pv 1) (pe_gint rfl T.i_STEP)) pe_non ⟨by rfl, by rfl, by rfl, by rfl⟩)))))

abbrev st_Table_lay : Stmt := inClass (top 16) 2
theorem sc_Table_lay : FnScope n_Table_lay ["self", "page", "entry"] (defScope st_Table_lay) := ⟨rfl, rfl, rfl, by decide +kernel, rfl, by decide +kernel, by decide +kernel⟩
theorem ok_Table_lay {f : Addr} {fd : FuncData} (F : FnP K "lay" "Table.lay" st_Table_lay f fd) (T : Txt K mg)
    (len : ∀ vs H Q E, sp_Table_lay K vs H Q E → vs.length = 3) (pure : ∀ vs H Q E, sp_Table_lay K vs H Q E → t_Table_lay K (WD E) ⟨fun _ H' => Q .non H', Q, fun _ _ => False, fun _ _ => False⟩ (start n_Table_lay vs) H) :
    FnOk P w K mg base (L2.CX P w) 1 f fd ["self", "page", "entry"] (sp_Table_lay K) := by
  have sc := sc_Table_lay
  refine F.ok sc len fun cdv A outer s H vs Q E hr h => ⟨t_Table_lay K (WD E), ?_, pure vs H Q E h⟩
  have tk : Takes (cxOf (L2.CX P w) P w K mg base n_Table_lay "Table.lay" (defScope st_Table_lay) f cdv A outer s H E) (WD E) := takes_of rfl rfl rfl rfl
  exact (pss_cons (ps_if (pt_cmp (pc_dnotin (hu_of hr) (pe_op op_fdivW (pv 1) (pe_gint rfl T.i_STEP)) (pe_f T.c_Table T.n_Table_firsts (pv 0)))) (pss_one (ps_dput (hu_of hr) (pe_f T.c_Table T.n_Table_firsts (pv 0)) (pe_op op_fdivW (pv 1) (pe_gint rfl T.i_STEP)) pe_dnewK rfl)) pss_nil)
  (pss_one (ps_dput (hu_of hr) (pe_dget (hu_of hr) (pe_f T.c_Table T.n_Table_firsts (pv 0)) (pe_op op_fdivW (pv 1) (pe_gint rfl T.i_STEP)) (fun _ _ => rfl)) (pe_op op_mod (pv 1) (pe_gint rfl T.i_STEP)) (pv 2) rfl)))

abbrev st_Table_clear : Stmt := inClass (top 16) 3
theorem sc_Table_clear : FnScope n_Table_clear ["self", "page"] (defScope st_Table_clear) := ⟨rfl, rfl, rfl, by decide +kernel, rfl, by decide +kernel, by decide +kernel⟩
theorem ok_Table_clear {f : Addr} {fd : FuncData} (F : FnP K "clear" "Table.clear" st_Table_clear f fd) (T : Txt K mg)
    (len : ∀ vs H Q E, sp_Table_clear K vs H Q E → vs.length = 2) (pure : ∀ vs H Q E, sp_Table_clear K vs H Q E → t_Table_clear K (WD E) ⟨fun _ H' => Q .non H', Q, fun _ _ => False, fun _ _ => False⟩ (start n_Table_clear vs) H) :
    FnOk P w K mg base (L2.CX P w) 1 f fd ["self", "page"] (sp_Table_clear K) := by
  have sc := sc_Table_clear
  refine F.ok sc len fun cdv A outer s H vs Q E hr h => ⟨t_Table_clear K (WD E), ?_, pure vs H Q E h⟩
  have tk : Takes (cxOf (L2.CX P w) P w K mg base n_Table_clear "Table.clear" (defScope st_Table_clear) f cdv A outer s H E) (WD E) := takes_of rfl rfl rfl rfl
  exact (pss_cons (ps_set (i := 2) sc.nd rfl (Or.inl rfl) (pe_dget2 (hu_of hr) (pe_f T.c_Table T.n_Table_firsts (pv 0)) (pe_op op_fdivW (pv 1) (pe_gint rfl T.i_STEP)) pe_non ⟨by rfl, by rfl, by rfl, by rfl⟩))
  (pss_cons (ps_if (pt_cmpR op_isN (pv 2) pe_non (nomark _)) (pss_one ps_retN) pss_nil)
  (pss_cons (ps_expr (pe_dpop2 (pv 2) (pe_op op_mod (pv 1) (pe_gint rfl T.i_STEP)) pe_non ⟨by rfl, by rfl, by rfl, by rfl⟩))
  (pss_one (ps_if (pt_cmpR op_eq (pe_callB call_lenD (by rfl) T.b_len PySem.boot_len (pa_cons (pv 2) pa_nil)) pe_int (nomark _)) (pss_one (ps_expr (pe_dpop2 (pe_f T.c_Table T.n_Table_firsts (pv 0)) (pe_op op_fdivW (pv 1) (pe_gint rfl T.i_STEP)) pe_non ⟨by rfl, by rfl, by rfl, by rfl⟩))) pss_nil)))))

abbrev st_Table_pages : Stmt := inClass (top 16) 4
theorem sc_Table_pages : FnScope n_Table_pages ["self"] (defScope st_Table_pages) := ⟨rfl, rfl, rfl, by decide +kernel, rfl, by decide +kernel, by decide +kernel⟩
theorem ok_Table_pages {f : Addr} {fd : FuncData} (F : FnP K "pages" "Table.pages" st_Table_pages f fd) (T : Txt K mg)
    (len : ∀ vs H Q E, sp_Table_pages K vs H Q E → vs.length = 1) (pure : ∀ vs H Q E, sp_Table_pages K vs H Q E → t_Table_pages K (WD E) ⟨fun _ H' => Q .non H', Q, fun _ _ => False, fun _ _ => False⟩ (start n_Table_pages vs) H) :
    FnOk P w K mg base (L2.CX P w) 1 f fd ["self"] (sp_Table_pages K) := by
  have sc := sc_Table_pages
  refine F.ok sc len fun cdv A outer s H vs Q E hr h => ⟨t_Table_pages K (WD E), ?_, pure vs H Q E h⟩
  have tk : Takes (cxOf (L2.CX P w) P w K mg base n_Table_pages "Table.pages" (defScope st_Table_pages) f cdv A outer s H E) (WD E) := takes_of rfl rfl rfl rfl
  exact (pss_cons (ps_set (i := 1) sc.nd rfl (Or.inl rfl) (pe_lst pa_nil))
  (pss_cons (ps_for (passes_of rfl) rfl (pi_list (pe_callB (call_sortedDI rfl) (by rfl) T.b_sorted (by decide +kernel) (pa_cons (pe_f T.c_Table T.n_Table_firsts (pv 0)) pa_nil))) (pg_name (i := 2) sc.nd rfl (Or.inl rfl)) (pss_one (ps_for (passes_of rfl) rfl (pi_list (pe_callB (call_sortedDI rfl) (by rfl) T.b_sorted (by decide +kernel) (pa_cons (pe_dget (hu_of hr) (pe_f T.c_Table T.n_Table_firsts (pv 0)) (pv 2) (fun _ _ => rfl)) pa_nil))) (pg_name (i := 3) sc.nd rfl (Or.inl rfl)) (pss_one (ps_expr (pe_bm PySem.F.plainAttrs_list PySem.F.slot_list_append PySem.F.type_list_append mt_append (pv 1) (pa_cons (pe_op op_add (pe_op op_mul (pv 2) (pe_gint rfl T.i_STEP)) (pv 3)) pa_nil)))))))
  (pss_one (ps_ret (pv 1)))))

abbrev st_pages_asked : Stmt := top 19
theorem sc_pages_asked : FnScope n_pages_asked ["page", "many"] (defScope st_pages_asked) := ⟨rfl, rfl, rfl, by decide +kernel, rfl, by decide +kernel, by decide +kernel⟩
theorem ok_pages_asked {f : Addr} {fd : FuncData} (F : FnP K "pages_asked" "pages_asked" st_pages_asked f fd) (T : Txt K mg)
    (len : ∀ vs H Q E, sp_pages_asked K vs H Q E → vs.length = 2) (pure : ∀ vs H Q E, sp_pages_asked K vs H Q E → t_pages_asked K (WD E) ⟨fun _ H' => Q .non H', Q, fun _ _ => False, fun _ _ => False⟩ (start n_pages_asked vs) H) :
    FnOk P w K mg base (L2.CX P w) 1 f fd ["page", "many"] (sp_pages_asked K) := by
  have sc := sc_pages_asked
  refine F.ok sc len fun cdv A outer s H vs Q E hr h => ⟨t_pages_asked K (WD E), ?_, pure vs H Q E h⟩
  have tk : Takes (cxOf (L2.CX P w) P w K mg base n_pages_asked "pages_asked" (defScope st_pages_asked) f cdv A outer s H E) (WD E) := takes_of rfl rfl rfl rfl
  exact (pss_cons (ps_if (PW.pt (pw_or (pt_cmpR op_lt (pv 1) pe_int (nomark _)) (pw_or (pt_cmpR op_lt (pv 0) pe_int (nomark _)) (pw_or1 (pt_cmpR op_gt (pe_op op_add (pv 0) (pv 1)) (pe_gint rfl T.i_PAGES) (nomark _)))))) (pss_one (ps_rz T.e_NoPage rfl rfl tk rfl)) pss_nil)
  (pss_one (ps_ret (pe_listRg rfl rfl T.b_list (prg_2 rfl T.b_range (pv 0) (pe_op op_add (pv 0) (pv 1)))))))

abbrev st_stretches_of : Stmt := top 20
theorem sc_stretches_of : FnScope n_stretches_of ["address", "many"] (defScope st_stretches_of) := ⟨rfl, rfl, rfl, by decide +kernel, rfl, by decide +kernel, by decide +kernel⟩
theorem ok_stretches_of {f : Addr} {fd : FuncData} (F : FnP K "stretches_of" "stretches_of" st_stretches_of f fd) (T : Txt K mg)
    (len : ∀ vs H Q E, sp_stretches_of K vs H Q E → vs.length = 2) (pure : ∀ vs H Q E, sp_stretches_of K vs H Q E → t_stretches_of K (WD E) ⟨fun _ H' => Q .non H', Q, fun _ _ => False, fun _ _ => False⟩ (start n_stretches_of vs) H) :
    FnOk P w K mg base (L2.CX P w) 1 f fd ["address", "many"] (sp_stretches_of K) := by
  have sc := sc_stretches_of
  refine F.ok sc len fun cdv A outer s H vs Q E hr h => ⟨t_stretches_of K (WD E), ?_, pure vs H Q E h⟩
  have tk : Takes (cxOf (L2.CX P w) P w K mg base n_stretches_of "stretches_of" (defScope st_stretches_of) f cdv A outer s H E) (WD E) := takes_of rfl rfl rfl rfl
  exact (pss_cons (ps_set (i := 2) sc.nd rfl (Or.inl rfl) (pe_lst pa_nil))
  (pss_cons (ps_set (i := 3) sc.nd rfl (Or.inl rfl) (pv 0))
  (pss_cons (ps_while (passes_of rfl) (pt_cmpR op_lt (pv 3) (pe_op op_add (pv 0) (pv 1)) (nomark _)) (pss_cons (ps_set (i := 4) sc.nd rfl (Or.inl rfl) (pe_callB (call_min2 rfl) (by rfl) T.b_min (by decide +kernel) (pa_cons (pe_op op_add (pv 0) (pv 1)) (pa_cons (pe_op op_mul (pe_op op_add (pe_op op_fdivW (pv 3) (pe_gint rfl T.i_PAGE_SIZE)) pe_int) (pe_gint rfl T.i_PAGE_SIZE)) pa_nil))))
  (pss_cons (ps_expr (pe_bm PySem.F.plainAttrs_list PySem.F.slot_list_append PySem.F.type_list_append mt_append (pv 2) (pa_cons (pe_tup (pa_cons (pe_op op_fdivW (pv 3) (pe_gint rfl T.i_PAGE_SIZE)) (pa_cons (pe_op op_mod (pv 3) (pe_gint rfl T.i_PAGE_SIZE)) (pa_cons (pe_op op_sub (pe_op op_add (pe_op op_mod (pv 3) (pe_gint rfl T.i_PAGE_SIZE)) (pv 4)) (pv 3)) pa_nil)))) pa_nil)))
  (pss_one (ps_set (i := 3) sc.nd rfl (Or.inl rfl) (pv 4))))))
  (pss_one (ps_ret (pv 2))))))

abbrev st_Rooms_table_of : Stmt := inClass (top 21) 2
theorem sc_Rooms_table_of : FnScope n_Rooms_table_of ["self", "task"] (defScope st_Rooms_table_of) := ⟨rfl, rfl, rfl, by decide +kernel, rfl, by decide +kernel, by decide +kernel⟩
theorem ok_Rooms_table_of {f : Addr} {fd : FuncData} (F : FnP K "table_of" "Rooms.table_of" st_Rooms_table_of f fd) (T : Txt K mg)
    (len : ∀ vs H Q E, sp_Rooms_table_of K vs H Q E → vs.length = 2) (pure : ∀ vs H Q E, sp_Rooms_table_of K vs H Q E → t_Rooms_table_of K (WD E) ⟨fun _ H' => Q .non H', Q, fun _ _ => False, fun _ _ => False⟩ (start n_Rooms_table_of vs) H) :
    FnOk P w K mg base (L2.CX P w) 1 f fd ["self", "task"] (sp_Rooms_table_of K) := by
  have sc := sc_Rooms_table_of
  refine F.ok sc len fun cdv A outer s H vs Q E hr h => ⟨t_Rooms_table_of K (WD E), ?_, pure vs H Q E h⟩
  have tk : Takes (cxOf (L2.CX P w) P w K mg base n_Rooms_table_of "Rooms.table_of" (defScope st_Rooms_table_of) f cdv A outer s H E) (WD E) := takes_of rfl rfl rfl rfl
  exact (pss_cons (ps_if (pt_cmp (pc_dnotin (hu_of hr) (pv 1) (pe_f T.c_Paging T.n_Paging_tables (pe_f T.c_Rooms T.n_Rooms_paging (pv 0))))) (pss_one (ps_rz T.e_NoTask rfl rfl tk rfl)) pss_nil)
  (pss_one (ps_ret (pe_dget (hu_of hr) (pe_f T.c_Paging T.n_Paging_tables (pe_f T.c_Rooms T.n_Rooms_paging (pv 0))) (pv 1) (fun _ _ => rfl)))))

abbrev st__law_tape : Stmt := top 23
theorem sc__law_tape : FnScope n__law_tape ["script", "k"] (defScope st__law_tape) := ⟨rfl, rfl, rfl, by decide +kernel, rfl, by decide +kernel, by decide +kernel⟩
theorem ok__law_tape {f : Addr} {fd : FuncData} (F : FnP K "_law_tape" "_law_tape" st__law_tape f fd) (T : Txt K mg)
    (len : ∀ vs H Q E, sp__law_tape K vs H Q E → vs.length = 2) (pure : ∀ vs H Q E, sp__law_tape K vs H Q E → t__law_tape K (WD E) ⟨fun _ H' => Q .non H', Q, fun _ _ => False, fun _ _ => False⟩ (start n__law_tape vs) H) :
    FnOk P w K mg base (L2.CX P w) 1 f fd ["script", "k"] (sp__law_tape K) := by
  have sc := sc__law_tape
  refine F.ok sc len fun cdv A outer s H vs Q E hr h => ⟨t__law_tape K (WD E), ?_, pure vs H Q E h⟩
  have tk : Takes (cxOf (L2.CX P w) P w K mg base n__law_tape "_law_tape" (defScope st__law_tape) f cdv A outer s H E) (WD E) := takes_of rfl rfl rfl rfl
  exact (pss_cons (ps_set (i := 2) sc.nd rfl (Or.inl rfl) (pe_ifExp (pt_cmpR op_lt (pv 1) (pe_callB call_len (by rfl) T.b_len PySem.boot_len (pa_cons (pv 0) pa_nil)) (nomark _)) (pe_ix ix_list (pv 0) (pv 1) (fun _ _ => rfl)) pe_int))
  (pss_one (ps_ret (pe_lst (pa_cons (pe_op op_mul (pe_callB call_abs (by rfl) T.b_abs (by decide +kernel) (pa_cons (pv 2) pa_nil)) (pe_callTy call_int1 (by rfl) T.b_int (by decide +kernel) (pa_cons (pe_cmpR op_ge (pe_callB call_abs (by rfl) T.b_abs (by decide +kernel) (pa_cons (pv 2) pa_nil)) (pe_op op_pow pe_int pe_int) (nomark _)) pa_nil))) (pa_cons (pe_op op_add (pe_op op_add (pe_op op_mod (pv 2) pe_int) (pe_op op_mul pe_int (pv 1))) pe_int) (pa_cons pe_int pa_nil)))))))

abbrev st__law_draw : Stmt := top 24
theorem sc__law_draw : FnScope n__law_draw ["tape", "many"] (defScope st__law_draw) := ⟨rfl, rfl, rfl, by decide +kernel, rfl, by decide +kernel, by decide +kernel⟩
theorem ok__law_draw {f : Addr} {fd : FuncData} (F : FnP K "_law_draw" "_law_draw" st__law_draw f fd) (T : Txt K mg)
    (len : ∀ vs H Q E, sp__law_draw K vs H Q E → vs.length = 2) (pure : ∀ vs H Q E, sp__law_draw K vs H Q E → t__law_draw K (WD E) ⟨fun _ H' => Q .non H', Q, fun _ _ => False, fun _ _ => False⟩ (start n__law_draw vs) H) :
    FnOk P w K mg base (L2.CX P w) 1 f fd ["tape", "many"] (sp__law_draw K) := by
  have sc := sc__law_draw
  refine F.ok sc len fun cdv A outer s H vs Q E hr h => ⟨t__law_draw K (WD E), ?_, pure vs H Q E h⟩
  have tk : Takes (cxOf (L2.CX P w) P w K mg base n__law_draw "_law_draw" (defScope st__law_draw) f cdv A outer s H E) (WD E) := takes_of rfl rfl rfl rfl
  exact (pss_cons (ps_if (pt_cmpR op_gt (pe_ix ix_list (pv 0) pe_int (fun _ _ => rfl)) pe_int (nomark _)) (pss_cons (ps_set (i := 2) sc.nd rfl (Or.inl rfl) (pe_op op_mod (pe_ix ix_list (pv 0) pe_int (fun _ _ => rfl)) (pv 1)))
  (pss_cons (ps_asg (pe_op op_fdivW (pe_ix ix_list (pv 0) pe_int (fun _ _ => rfl)) (pv 1)) (pg_sub (pv 0) pe_int set_list))
  (pss_one (ps_ret (pv 2))))) pss_nil)
  (pss_cons (ps_asg (pe_op op_add (pe_ix ix_list (pv 0) pe_int (fun _ _ => rfl)) pe_int) (pg_sub (pv 0) pe_int set_list))
  (pss_cons (ps_set (i := 3) sc.nd rfl (Or.inl rfl) (pe_op op_mod (pe_op op_pow (pe_op op_add (pe_ix ix_list (pv 0) pe_int (fun _ _ => rfl)) (pe_op op_mul pe_int (pe_ix ix_list (pv 0) pe_int (fun _ _ => rfl)))) pe_int) pe_int))
  (pss_cons (ps_set (i := 4) sc.nd rfl (Or.inl rfl) (pe_op op_mod (pe_op op_mul (pe_op op_add (pv 3) (pe_ix ix_list (pv 0) pe_int (fun _ _ => rfl))) (pe_op op_add (pe_op op_add (pe_op op_mod (pv 3) pe_int) pe_int) (pe_ix ix_list (pv 0) pe_int (fun _ _ => rfl)))) pe_int))
  (pss_one (ps_ret (pe_op op_mod (pe_op op_fdivW (pe_op op_mod (pe_op op_add (pe_op op_mul (pv 4) pe_int) (pv 3)) pe_int) pe_int) (pv 1))))))))

abbrev st__law_last : Stmt := top 27
theorem sc__law_last : FnScope n__law_last ["last", "deed"] (defScope st__law_last) := ⟨rfl, rfl, rfl, by decide +kernel, rfl, by decide +kernel, by decide +kernel⟩
theorem ok__law_last {f : Addr} {fd : FuncData} (F : FnP K "_law_last" "_law_last" st__law_last f fd) (T : Txt K mg)
    (len : ∀ vs H Q E, sp__law_last K vs H Q E → vs.length = 2) (pure : ∀ vs H Q E, sp__law_last K vs H Q E → t__law_last K (WD E) ⟨fun _ H' => Q .non H', Q, fun _ _ => False, fun _ _ => False⟩ (start n__law_last vs) H) :
    FnOk P w K mg base (L2.CX P w) 1 f fd ["last", "deed"] (sp__law_last K) := by
  have sc := sc__law_last
  refine F.ok sc len fun cdv A outer s H vs Q E hr h => ⟨t__law_last K (WD E), ?_, pure vs H Q E h⟩
  have tk : Takes (cxOf (L2.CX P w) P w K mg base n__law_last "_law_last" (defScope st__law_last) f cdv A outer s H E) (WD E) := takes_of rfl rfl rfl rfl
  exact (pss_cons (ps_if (pt_cmpR op_in_seq (pe_ix ix_tup (pv 1) pe_int (fun _ _ => rfl)) (pe_tup (pa_cons pe_str (pa_cons pe_str pa_nil))) (by with_unfolding_all rfl)) (pss_cons (ps_set (i := 2) sc.nd rfl (Or.inl rfl) (pe_ifExp (pt_cmpR op_eq (pe_ix ix_tup (pv 1) pe_int (fun _ _ => rfl)) pe_str (nomark _)) (pe_ix ix_tup (pv 1) pe_int (fun _ _ => rfl)) (pe_callB call_len (by rfl) T.b_len PySem.boot_len (pa_cons (pe_ix ix_tup (pv 1) pe_int (fun _ _ => rfl)) pa_nil))))
  (pss_one (ps_ret (pe_ifExp (pt_cmpR op_gt (pv 2) pe_int (nomark _)) (pe_tup (pa_cons (pe_ix ix_tup (pv 1) pe_int (fun _ _ => rfl)) (pa_cons (pe_op op_fdivW (pe_op op_sub (pe_op op_add (pe_ix ix_tup (pv 1) pe_int (fun _ _ => rfl)) (pv 2)) pe_int) pe_int) pa_nil))) (pv 0))))) pss_nil)
  (pss_cons (ps_if (PW.pt (pw_and (pt_cmpR op_notN (pv 0) pe_non (nomark _)) (pw_and1 (pt_cmpR op_eq (pe_ix ix_tup (pv 1) pe_int (fun _ _ => rfl)) (pe_ix ix_tup (pv 0) pe_int (fun _ _ => rfl)) (nomark _))))) (pss_one (ps_if (PW.pt (pw_or (pt_cmpR op_eq (pe_ix ix_tup (pv 1) pe_int (fun _ _ => rfl)) pe_str (nomark _)) (pw_or1 (PW.pt (pw_and (pt_cmpR op_eq (pe_ix ix_tup (pv 1) pe_int (fun _ _ => rfl)) pe_str (nomark _)) (pw_and1 (pt_chain op_le op_lt (pe_ix ix_tup (pv 1) pe_int (fun _ _ => rfl)) (pe_ix ix_tup (pv 0) pe_int (fun _ _ => rfl)) (pe_op op_add (pe_ix ix_tup (pv 1) pe_int (fun _ _ => rfl)) (pe_ix ix_tup (pv 1) pe_int (fun _ _ => rfl)))))))))) (pss_one (ps_ret pe_non)) pss_nil)) pss_nil)
  (pss_one (ps_ret (pv 0)))))

abbrev st_Store_look_taken : Stmt := inClass (top 10) 2
theorem sc_Store_look_taken : FnScope n_Store_look_taken ["self", "page"] (defScope st_Store_look_taken) := ⟨rfl, rfl, rfl, by decide +kernel, rfl, by decide +kernel, by decide +kernel⟩
theorem ok_Store_look_taken {f : Addr} {fd : FuncData} (F : FnP K "look_taken" "Store.look_taken" st_Store_look_taken f fd) (T : Txt K mg) (D_Store_count : MtAt P w K mg base CX0 1 (c_Store K) "count" (sp_Store_count K))
    (len : ∀ vs H Q E, sp_Store_look_taken K vs H Q E → vs.length = 2) (pure : ∀ vs H Q E, sp_Store_look_taken K vs H Q E → t_Store_look_taken K (WD E) ⟨fun _ H' => Q .non H', Q, fun _ _ => False, fun _ _ => False⟩ (start n_Store_look_taken vs) H) :
    FnOk P w K mg base (L2.CX P w) 2 f fd ["self", "page"] (sp_Store_look_taken K) := by
  have sc := sc_Store_look_taken
  refine F.ok sc len fun cdv A outer s H vs Q E hr h => ⟨t_Store_look_taken K (WD E), ?_, pure vs H Q E h⟩
  have tk : Takes (cxOf (L2.CX P w) P w K mg base n_Store_look_taken "Store.look_taken" (defScope st_Store_look_taken) f cdv A outer s H E) (WD E) := takes_of rfl rfl rfl rfl
  exact (pss_one (ps_if (pt_cmpR op_eq (pe_mt D_Store_count tk (hr.mono (by decide)) (pv 0) (pa_cons (pv 1) pa_nil)) pe_int (nomark _)) (pss_one (ps_rz T.e_NoOwner rfl rfl tk rfl)) pss_nil))

abbrev st_Paging_entry : Stmt := inClass (top 13) 1
theorem sc_Paging_entry : FnScope n_Paging_entry ["self", "owner"] (defScope st_Paging_entry) := ⟨rfl, rfl, rfl, by decide +kernel, rfl, by decide +kernel, by decide +kernel⟩
theorem ok_Paging_entry {f : Addr} {fd : FuncData} (F : FnP K "entry" "Paging.entry" st_Paging_entry f fd) (T : Txt K mg) (D_Table_get : MtAt P w K mg base CX0 1 (c_Table K) "get" (sp_Table_get K))
    (len : ∀ vs H Q E, sp_Paging_entry K vs H Q E → vs.length = 2) (pure : ∀ vs H Q E, sp_Paging_entry K vs H Q E → t_Paging_entry K (WD E) ⟨fun _ H' => Q .non H', Q, fun _ _ => False, fun _ _ => False⟩ (start n_Paging_entry vs) H) :
    FnOk P w K mg base (L2.CX P w) 2 f fd ["self", "owner"] (sp_Paging_entry K) := by
  have sc := sc_Paging_entry
  refine F.ok sc len fun cdv A outer s H vs Q E hr h => ⟨t_Paging_entry K (WD E), ?_, pure vs H Q E h⟩
  have tk : Takes (cxOf (L2.CX P w) P w K mg base n_Paging_entry "Paging.entry" (defScope st_Paging_entry) f cdv A outer s H E) (WD E) := takes_of rfl rfl rfl rfl
  exact (pss_cons (ps_asg (pv 1) (pg_tup rfl (pgs_cons (pg_name (i := 2) sc.nd rfl (Or.inl rfl)) (pgs_cons (pg_name (i := 3) sc.nd rfl (Or.inl rfl)) pgs_nil))))
  (pss_one (ps_ret (pe_mt D_Table_get tk (hr.mono (by decide)) (pe_dget (hu_of hr) (pe_f T.c_Paging T.n_Paging_tables (pv 0)) (pv 2) (fun _ _ => rfl)) (pa_cons (pv 3) pa_nil)))))

abbrev st_Paging_lay : Stmt := inClass (top 13) 2
theorem sc_Paging_lay : FnScope n_Paging_lay ["self", "owner", "entry"] (defScope st_Paging_lay) := ⟨rfl, rfl, rfl, by decide +kernel, rfl, by decide +kernel, by decide +kernel⟩
theorem ok_Paging_lay {f : Addr} {fd : FuncData} (F : FnP K "lay" "Paging.lay" st_Paging_lay f fd) (T : Txt K mg) (D_Table_lay : MtAt P w K mg base CX0 1 (c_Table K) "lay" (sp_Table_lay K))
    (len : ∀ vs H Q E, sp_Paging_lay K vs H Q E → vs.length = 3) (pure : ∀ vs H Q E, sp_Paging_lay K vs H Q E → t_Paging_lay K (WD E) ⟨fun _ H' => Q .non H', Q, fun _ _ => False, fun _ _ => False⟩ (start n_Paging_lay vs) H) :
    FnOk P w K mg base (L2.CX P w) 2 f fd ["self", "owner", "entry"] (sp_Paging_lay K) := by
  have sc := sc_Paging_lay
  refine F.ok sc len fun cdv A outer s H vs Q E hr h => ⟨t_Paging_lay K (WD E), ?_, pure vs H Q E h⟩
  have tk : Takes (cxOf (L2.CX P w) P w K mg base n_Paging_lay "Paging.lay" (defScope st_Paging_lay) f cdv A outer s H E) (WD E) := takes_of rfl rfl rfl rfl
  exact (pss_cons (ps_asg (pv 1) (pg_tup rfl (pgs_cons (pg_name (i := 3) sc.nd rfl (Or.inl rfl)) (pgs_cons (pg_name (i := 4) sc.nd rfl (Or.inl rfl)) pgs_nil))))
  (pss_cons (ps_expr (pe_mt D_Table_lay tk (hr.mono (by decide)) (pe_dget (hu_of hr) (pe_f T.c_Paging T.n_Paging_tables (pv 0)) (pv 3) (fun _ _ => rfl)) (pa_cons (pv 4) (pa_cons (pv 2) pa_nil))))
  (pss_one (ps_if (pt_cmpR (op_neD (hu64 hr)) (pv 2) (pe_gref rfl T.g_BLANK) (nomark _)) (pss_one (ps_dput (hu_of hr) (pe_dsetT (hu_of hr) (pe_f T.c_Paging T.n_Paging_owners (pv 0)) (pv 2) pe_dnewT ⟨by rfl, by rfl, by rfl, by rfl⟩) (pv 1) pe_bl rfl)) pss_nil))))

abbrev st_Rooms_held : Stmt := inClass (top 21) 4
theorem sc_Rooms_held : FnScope n_Rooms_held ["self"] (defScope st_Rooms_held) := ⟨rfl, rfl, rfl, by decide +kernel, rfl, by decide +kernel, by decide +kernel⟩
theorem ok_Rooms_held {f : Addr} {fd : FuncData} (F : FnP K "held" "Rooms.held" st_Rooms_held f fd) (T : Txt K mg) (D_Table_pages : MtAt P w K mg base CX0 1 (c_Table K) "pages" (sp_Table_pages K))
    (len : ∀ vs H Q E, sp_Rooms_held K vs H Q E → vs.length = 1) (pure : ∀ vs H Q E, sp_Rooms_held K vs H Q E → t_Rooms_held K (WD E) ⟨fun _ H' => Q .non H', Q, fun _ _ => False, fun _ _ => False⟩ (start n_Rooms_held vs) H) :
    FnOk P w K mg base (L2.CX P w) 2 f fd ["self"] (sp_Rooms_held K) := by
  have sc := sc_Rooms_held
  refine F.ok sc len fun cdv A outer s H vs Q E hr h => ⟨t_Rooms_held K (WD E), ?_, pure vs H Q E h⟩
  have tk : Takes (cxOf (L2.CX P w) P w K mg base n_Rooms_held "Rooms.held" (defScope st_Rooms_held) f cdv A outer s H E) (WD E) := takes_of rfl rfl rfl rfl
  exact (pss_one (ps_ret (pe_callB (cr_sum rfl) (by rfl) T.b_sum (by decide +kernel) (pa_cons (pe_lock (pe_lc (own := [("table", 1)]) (g := (gName 1)) rfl sc.nd (pi_values (pe_f T.c_Paging T.n_Paging_tables (pe_f T.c_Rooms T.n_Rooms_paging (pv 0)))) (blkOk_by (own := [("table", 1)]) (N := n_Rooms_held) (sc := defScope st_Rooms_held) (by decide +kernel)) (fun _ _ _ _ _ => (pg_name (i := 1) sc.nd rfl (Or.inl rfl))) (fun _ _ _ _ _ => pts_nil) (fun _ _ _ _ _ => (pe_callB call_len (by rfl) T.b_len PySem.boot_len (pa_cons (pe_mt0 D_Table_pages takes0 (hr.mono (by decide)) (pv 1)) pa_nil))))) pa_nil))))

abbrev st_Rooms_look_mapped : Stmt := inClass (top 21) 7
theorem sc_Rooms_look_mapped : FnScope n_Rooms_look_mapped ["self", "table", "pages"] (defScope st_Rooms_look_mapped) := ⟨rfl, rfl, rfl, by decide +kernel, rfl, by decide +kernel, by decide +kernel⟩
theorem ok_Rooms_look_mapped {f : Addr} {fd : FuncData} (F : FnP K "look_mapped" "Rooms.look_mapped" st_Rooms_look_mapped f fd) (T : Txt K mg) (D_Table_get : MtAt P w K mg base CX0 1 (c_Table K) "get" (sp_Table_get K))
    (len : ∀ vs H Q E, sp_Rooms_look_mapped K vs H Q E → vs.length = 3) (pure : ∀ vs H Q E, sp_Rooms_look_mapped K vs H Q E → t_Rooms_look_mapped K (WD E) ⟨fun _ H' => Q .non H', Q, fun _ _ => False, fun _ _ => False⟩ (start n_Rooms_look_mapped vs) H) :
    FnOk P w K mg base (L2.CX P w) 2 f fd ["self", "table", "pages"] (sp_Rooms_look_mapped K) := by
  have sc := sc_Rooms_look_mapped
  refine F.ok sc len fun cdv A outer s H vs Q E hr h => ⟨t_Rooms_look_mapped K (WD E), ?_, pure vs H Q E h⟩
  have tk : Takes (cxOf (L2.CX P w) P w K mg base n_Rooms_look_mapped "Rooms.look_mapped" (defScope st_Rooms_look_mapped) f cdv A outer s H E) (WD E) := takes_of rfl rfl rfl rfl
  exact (pss_one (ps_if (pt_val (pe_callB (cr_any rfl) (by rfl) T.b_any (by decide +kernel) (pa_cons (pe_lc (own := [("one", 3)]) (g := (gName 3)) rfl sc.nd (pi_list (pv 2)) (blkOk_by (own := [("one", 3)]) (N := n_Rooms_look_mapped) (sc := defScope st_Rooms_look_mapped) (by decide +kernel)) (fun _ _ _ _ _ => (pg_name (i := 3) sc.nd rfl (Or.inl rfl))) (fun _ _ _ _ _ => pts_nil) (fun _ _ _ _ _ => (pe_cmpR op_isN (pe_mt D_Table_get takes0 (hr.mono (by decide)) (pv 1) (pa_cons (pv 3) pa_nil)) pe_non (nomark _)))) pa_nil))) (pss_one (ps_rz T.e_NoPage rfl rfl tk rfl)) pss_nil))

abbrev st_Rooms_place : Stmt := inClass (top 21) 14
theorem sc_Rooms_place : FnScope n_Rooms_place ["self", "task", "page"] (defScope st_Rooms_place) := ⟨rfl, rfl, rfl, by decide +kernel, rfl, by decide +kernel, by decide +kernel⟩
theorem ok_Rooms_place {f : Addr} {fd : FuncData} (F : FnP K "place" "Rooms.place" st_Rooms_place f fd) (T : Txt K mg) (D_Table_get : MtAt P w K mg base CX0 1 (c_Table K) "get" (sp_Table_get K)) (D_Rooms_table_of : MtAt P w K mg base (L2.CX P w) 1 (c_Rooms K) "table_of" (sp_Rooms_table_of K))
    (len : ∀ vs H Q E, sp_Rooms_place K vs H Q E → vs.length = 3) (pure : ∀ vs H Q E, sp_Rooms_place K vs H Q E → t_Rooms_place K (WD E) ⟨fun _ H' => Q .non H', Q, fun _ _ => False, fun _ _ => False⟩ (start n_Rooms_place vs) H) :
    FnOk P w K mg base (L2.CX P w) 2 f fd ["self", "task", "page"] (sp_Rooms_place K) := by
  have sc := sc_Rooms_place
  refine F.ok sc len fun cdv A outer s H vs Q E hr h => ⟨t_Rooms_place K (WD E), ?_, pure vs H Q E h⟩
  have tk : Takes (cxOf (L2.CX P w) P w K mg base n_Rooms_place "Rooms.place" (defScope st_Rooms_place) f cdv A outer s H E) (WD E) := takes_of rfl rfl rfl rfl
  exact (pss_one (ps_ret (pe_mt D_Table_get tk (hr.mono (by decide)) (pe_mt D_Rooms_table_of tk (hr.mono (by decide)) (pv 0) (pa_cons (pv 1) pa_nil)) (pa_cons (pv 2) pa_nil))))

abbrev st__law_deed : Stmt := top 25
theorem sc__law_deed : FnScope n__law_deed ["tape", "tasks"] (defScope st__law_deed) := ⟨rfl, rfl, rfl, by decide +kernel, rfl, by decide +kernel, by decide +kernel⟩
theorem ok__law_deed {f : Addr} {fd : FuncData} (F : FnP K "_law_deed" "_law_deed" st__law_deed f fd) (T : Txt K mg) (D__law_draw : FnAt P w K mg base CX0 1 "_law_draw" (sp__law_draw K))
    (len : ∀ vs H Q E, sp__law_deed K vs H Q E → vs.length = 2) (pure : ∀ vs H Q E, sp__law_deed K vs H Q E → t__law_deed K (WD E) ⟨fun _ H' => Q .non H', Q, fun _ _ => False, fun _ _ => False⟩ (start n__law_deed vs) H) :
    FnOk P w K mg base (L2.CX P w) 2 f fd ["tape", "tasks"] (sp__law_deed K) := by
  have sc := sc__law_deed
  refine F.ok sc len fun cdv A outer s H vs Q E hr h => ⟨t__law_deed K (WD E), ?_, pure vs H Q E h⟩
  have tk : Takes (cxOf (L2.CX P w) P w K mg base n__law_deed "_law_deed" (defScope st__law_deed) f cdv A outer s H E) (WD E) := takes_of rfl rfl rfl rfl
  exact (pss_cons (ps_par (i := 2) (j := 3) rfl sc.nd rfl rfl (by decide) rfl rfl (pa_cons (pe_fn D__law_draw tk (hr.mono (by decide)) rfl (pa_cons (pv 0) (pa_cons pe_int pa_nil))) (pa_cons (pe_ix ix_list (pv 1) (pe_fn D__law_draw tk (hr.mono (by decide)) rfl (pa_cons (pv 0) (pa_cons pe_int pa_nil))) (fun _ _ => rfl)) pa_nil)) (by first | rfl | decide +kernel))
  (pss_cons (ps_par (i := 4) (j := 5) rfl sc.nd rfl rfl (by decide) rfl rfl (pa_cons (pe_fn D__law_draw tk (hr.mono (by decide)) rfl (pa_cons (pv 0) (pa_cons pe_int pa_nil))) (pa_cons (pe_op op_add pe_int (pe_fn D__law_draw tk (hr.mono (by decide)) rfl (pa_cons (pv 0) (pa_cons pe_int pa_nil)))) pa_nil)) (by first | rfl | decide +kernel))
  (pss_cons (ps_if (pt_cmpR op_lt (pv 2) pe_int (nomark _)) (pss_one (ps_ret (pe_ifExp (pt_cmpR op_eq (pv 2) pe_int (nomark _)) (pe_tup (pa_cons pe_str (pa_cons (pv 3) pa_nil))) (pe_tup (pa_cons pe_str (pa_cons (pv 3) pa_nil)))))) pss_nil)
  (pss_cons (ps_if (pt_cmpR op_lt (pv 2) pe_int (nomark _)) (pss_one (ps_ret (pe_tup (pa_cons pe_str (pa_cons (pv 3) (pa_cons (pv 4) (pa_cons (pv 5) pa_nil))))))) pss_nil)
  (pss_cons (ps_if (pt_cmpR op_eq (pv 2) pe_int (nomark _)) (pss_one (ps_ret (pe_tup (pa_cons pe_str (pa_cons (pv 3) (pa_cons (pv 4) (pa_cons pe_int pa_nil))))))) pss_nil)
  (pss_cons (ps_if (pt_cmpR op_lt (pv 2) pe_int (nomark _)) (pss_one (ps_ret (pe_tup (pa_cons pe_str (pa_cons (pv 3) (pa_cons (pe_op op_add (pe_op op_mul pe_int (pv 4)) (pe_fn D__law_draw tk (hr.mono (by decide)) rfl (pa_cons (pv 0) (pa_cons pe_int pa_nil)))) (pa_cons (pe_fn D__law_draw tk (hr.mono (by decide)) rfl (pa_cons (pv 0) (pa_cons pe_int pa_nil))) pa_nil))))))) pss_nil)
  (pss_cons (ps_if (pt_cmpR op_lt (pv 2) pe_int (nomark _)) (pss_one (ps_ret (pe_tup (pa_cons pe_str (pa_cons (pv 3) (pa_cons (pe_op op_add (pe_op op_mul pe_int (pv 4)) (pe_fn D__law_draw tk (hr.mono (by decide)) rfl (pa_cons (pv 0) (pa_cons pe_int pa_nil)))) (pa_cons (pe_op op_rep (pe_lst (pa_cons (pe_fn D__law_draw tk (hr.mono (by decide)) rfl (pa_cons (pv 0) (pa_cons pe_int pa_nil))) pa_nil)) (pe_fn D__law_draw tk (hr.mono (by decide)) rfl (pa_cons (pv 0) (pa_cons pe_int pa_nil)))) pa_nil))))))) pss_nil)
  (pss_one (ps_ret (pe_tup (pa_cons pe_str (pa_cons (pv 3) (pa_cons (pe_ix ix_list (pv 1) (pe_fn D__law_draw tk (hr.mono (by decide)) rfl (pa_cons (pv 0) (pa_cons pe_int pa_nil))) (fun _ _ => rfl)) pa_nil)))))))))))))

abbrev st_Store_more : Stmt := inClass (top 10) 3
theorem sc_Store_more : FnScope n_Store_more ["self", "page"] (defScope st_Store_more) := ⟨rfl, rfl, rfl, by decide +kernel, rfl, by decide +kernel, by decide +kernel⟩
theorem ok_Store_more {f : Addr} {fd : FuncData} (F : FnP K "more" "Store.more" st_Store_more f fd) (T : Txt K mg) (D_Store_look_taken : MtAt P w K mg base CX0 2 (c_Store K) "look_taken" (sp_Store_look_taken K))
    (len : ∀ vs H Q E, sp_Store_more K vs H Q E → vs.length = 2) (pure : ∀ vs H Q E, sp_Store_more K vs H Q E → t_Store_more K (WD E) ⟨fun _ H' => Q .non H', Q, fun _ _ => False, fun _ _ => False⟩ (start n_Store_more vs) H) :
    FnOk P w K mg base (L2.CX P w) 3 f fd ["self", "page"] (sp_Store_more K) := by
  have sc := sc_Store_more
  refine F.ok sc len fun cdv A outer s H vs Q E hr h => ⟨t_Store_more K (WD E), ?_, pure vs H Q E h⟩
  have tk : Takes (cxOf (L2.CX P w) P w K mg base n_Store_more "Store.more" (defScope st_Store_more) f cdv A outer s H E) (WD E) := takes_of rfl rfl rfl rfl
  exact (pss_cons (ps_expr (pe_mt D_Store_look_taken tk (hr.mono (by decide)) (pv 0) (pa_cons (pv 1) pa_nil)))
  (pss_one (ps_augS (pe_f T.c_Store T.n_Store_owners (pv 0)) (pv 1) get_list pe_int ip_add set_list)))

abbrev st_Store_less : Stmt := inClass (top 10) 4
theorem sc_Store_less : FnScope n_Store_less ["self", "page"] (defScope st_Store_less) := ⟨rfl, rfl, rfl, by decide +kernel, rfl, by decide +kernel, by decide +kernel⟩
theorem ok_Store_less {f : Addr} {fd : FuncData} (F : FnP K "less" "Store.less" st_Store_less f fd) (T : Txt K mg) (D_Store_look_taken : MtAt P w K mg base CX0 2 (c_Store K) "look_taken" (sp_Store_look_taken K))
    (len : ∀ vs H Q E, sp_Store_less K vs H Q E → vs.length = 2) (pure : ∀ vs H Q E, sp_Store_less K vs H Q E → t_Store_less K (WD E) ⟨fun _ H' => Q .non H', Q, fun _ _ => False, fun _ _ => False⟩ (start n_Store_less vs) H) :
    FnOk P w K mg base (L2.CX P w) 3 f fd ["self", "page"] (sp_Store_less K) := by
  have sc := sc_Store_less
  refine F.ok sc len fun cdv A outer s H vs Q E hr h => ⟨t_Store_less K (WD E), ?_, pure vs H Q E h⟩
  have tk : Takes (cxOf (L2.CX P w) P w K mg base n_Store_less "Store.less" (defScope st_Store_less) f cdv A outer s H E) (WD E) := takes_of rfl rfl rfl rfl
  exact (pss_cons (ps_expr (pe_mt D_Store_look_taken tk (hr.mono (by decide)) (pv 0) (pa_cons (pv 1) pa_nil)))
  (pss_one (ps_augS (pe_f T.c_Store T.n_Store_owners (pv 0)) (pv 1) get_list pe_int ip_sub set_list)))

abbrev st_Store_cells : Stmt := inClass (top 10) 6
theorem sc_Store_cells : FnScope n_Store_cells ["self", "page"] (defScope st_Store_cells) := ⟨rfl, rfl, rfl, by decide +kernel, rfl, by decide +kernel, by decide +kernel⟩
theorem ok_Store_cells {f : Addr} {fd : FuncData} (F : FnP K "cells" "Store.cells" st_Store_cells f fd) (T : Txt K mg) (D_Store_look_taken : MtAt P w K mg base CX0 2 (c_Store K) "look_taken" (sp_Store_look_taken K))
    (len : ∀ vs H Q E, sp_Store_cells K vs H Q E → vs.length = 2) (pure : ∀ vs H Q E, sp_Store_cells K vs H Q E → t_Store_cells K (WD E) ⟨fun _ H' => Q .non H', Q, fun _ _ => False, fun _ _ => False⟩ (start n_Store_cells vs) H) :
    FnOk P w K mg base (L2.CX P w) 3 f fd ["self", "page"] (sp_Store_cells K) := by
  have sc := sc_Store_cells
  refine F.ok sc len fun cdv A outer s H vs Q E hr h => ⟨t_Store_cells K (WD E), ?_, pure vs H Q E h⟩
  have tk : Takes (cxOf (L2.CX P w) P w K mg base n_Store_cells "Store.cells" (defScope st_Store_cells) f cdv A outer s H E) (WD E) := takes_of rfl rfl rfl rfl
  exact (pss_cons (ps_expr (pe_mt D_Store_look_taken tk (hr.mono (by decide)) (pv 0) (pa_cons (pv 1) pa_nil)))
  (pss_one (ps_ret (pe_callTy call_list_of (by rfl) T.b_list (by decide +kernel) (pa_cons (pe_ix ix_list (pe_f T.c_Store T.n_Store_contents (pv 0)) (pv 1) (fun _ _ => rfl)) pa_nil)))))

abbrev st_Store_put : Stmt := inClass (top 10) 7
theorem sc_Store_put : FnScope n_Store_put ["self", "page", "cells"] (defScope st_Store_put) := ⟨rfl, rfl, rfl, by decide +kernel, rfl, by decide +kernel, by decide +kernel⟩
theorem ok_Store_put {f : Addr} {fd : FuncData} (F : FnP K "put" "Store.put" st_Store_put f fd) (T : Txt K mg) (D_Store_look_taken : MtAt P w K mg base CX0 2 (c_Store K) "look_taken" (sp_Store_look_taken K))
    (len : ∀ vs H Q E, sp_Store_put K vs H Q E → vs.length = 3) (pure : ∀ vs H Q E, sp_Store_put K vs H Q E → t_Store_put K (WD E) ⟨fun _ H' => Q .non H', Q, fun _ _ => False, fun _ _ => False⟩ (start n_Store_put vs) H) :
    FnOk P w K mg base (L2.CX P w) 3 f fd ["self", "page", "cells"] (sp_Store_put K) := by
  have sc := sc_Store_put
  refine F.ok sc len fun cdv A outer s H vs Q E hr h => ⟨t_Store_put K (WD E), ?_, pure vs H Q E h⟩
  have tk : Takes (cxOf (L2.CX P w) P w K mg base n_Store_put "Store.put" (defScope st_Store_put) f cdv A outer s H E) (WD E) := takes_of rfl rfl rfl rfl
  exact (pss_cons (ps_expr (pe_mt D_Store_look_taken tk (hr.mono (by decide)) (pv 0) (pa_cons (pv 1) pa_nil)))
  (pss_one (ps_asg (pe_callTy call_list_of (by rfl) T.b_list (by decide +kernel) (pa_cons (pv 2) pa_nil)) (pg_sub (pe_f T.c_Store T.n_Store_contents (pv 0)) (pv 1) set_list))))

abbrev st_Paging___init__ : Stmt := inClass (top 13) 0
theorem sc_Paging___init__ : FnScope n_Paging___init__ ["self", "frames", "slots"] (defScope st_Paging___init__) := ⟨rfl, rfl, rfl, by decide +kernel, rfl, by decide +kernel, by decide +kernel⟩
theorem ok_Paging___init__ {f : Addr} {fd : FuncData} (F : FnP K "__init__" "Paging.__init__" st_Paging___init__ f fd) (T : Txt K mg) (D_Store___init__ : MkAt P w K mg base CX0 1 "Store" (c_Store K) (sp_Store___init__ K))
    (len : ∀ vs H Q E, sp_Paging___init__ K vs H Q E → vs.length = 3) (pure : ∀ vs H Q E, sp_Paging___init__ K vs H Q E → t_Paging___init__ K (WD E) ⟨fun _ H' => Q .non H', Q, fun _ _ => False, fun _ _ => False⟩ (start n_Paging___init__ vs) H) :
    FnOk P w K mg base (L2.CX P w) 3 f fd ["self", "frames", "slots"] (sp_Paging___init__ K) := by
  have sc := sc_Paging___init__
  refine F.ok sc len fun cdv A outer s H vs Q E hr h => ⟨t_Paging___init__ K (WD E), ?_, pure vs H Q E h⟩
  have tk : Takes (cxOf (L2.CX P w) P w K mg base n_Paging___init__ "Paging.__init__" (defScope st_Paging___init__) f cdv A outer s H E) (WD E) := takes_of rfl rfl rfl rfl
  exact (pss_cons (ps_f T.c_Paging T.n_Paging_stores (pv 0) (pe_disp (pps_cons pe_str (pe_mk D_Store___init__ tk (hr.mono (by decide)) rfl (pa_cons (pv 1) pa_nil)) (pps_cons pe_str (pe_mk D_Store___init__ tk (hr.mono (by decide)) rfl (pa_cons (pv 2) pa_nil)) pps_nil)) (by rfl) (by rfl) (fun z => by cases z) (by decide)))
  (pss_cons (ps_f T.c_Paging T.n_Paging_frames (pv 0) (pv 1))
  (pss_cons (ps_f T.c_Paging T.n_Paging_slots (pv 0) (pv 2))
  (pss_cons (ps_f T.c_Paging T.n_Paging_tables (pv 0) pe_dnewK)
  (pss_cons (ps_f T.c_Paging T.n_Paging_owners (pv 0) pe_dnewT)
  (pss_one (ps_f T.c_Paging T.n_Paging_hand (pv 0) pe_int)))))))

abbrev st_Rooms_begin : Stmt := inClass (top 21) 1
theorem sc_Rooms_begin : FnScope n_Rooms_begin ["self", "task"] (defScope st_Rooms_begin) := ⟨rfl, rfl, rfl, by decide +kernel, rfl, by decide +kernel, by decide +kernel⟩
theorem ok_Rooms_begin {f : Addr} {fd : FuncData} (F : FnP K "begin" "Rooms.begin" st_Rooms_begin f fd) (T : Txt K mg) (D_Table___init__ : MkAt P w K mg base CX0 1 "Table" (c_Table K) (sp_Table___init__ K))
    (len : ∀ vs H Q E, sp_Rooms_begin K vs H Q E → vs.length = 2) (pure : ∀ vs H Q E, sp_Rooms_begin K vs H Q E → t_Rooms_begin K (WD E) ⟨fun _ H' => Q .non H', Q, fun _ _ => False, fun _ _ => False⟩ (start n_Rooms_begin vs) H) :
    FnOk P w K mg base (L2.CX P w) 3 f fd ["self", "task"] (sp_Rooms_begin K) := by
  have sc := sc_Rooms_begin
  refine F.ok sc len fun cdv A outer s H vs Q E hr h => ⟨t_Rooms_begin K (WD E), ?_, pure vs H Q E h⟩
  have tk : Takes (cxOf (L2.CX P w) P w K mg base n_Rooms_begin "Rooms.begin" (defScope st_Rooms_begin) f cdv A outer s H E) (WD E) := takes_of rfl rfl rfl rfl
  exact (pss_cons (ps_if (pt_cmp (pc_din (hu_of hr) (pv 1) (pe_f T.c_Paging T.n_Paging_tables (pe_f T.c_Rooms T.n_Rooms_paging (pv 0))))) (pss_one (ps_rz T.e_Taken rfl rfl tk rfl)) pss_nil)
  (pss_one (ps_dput (hu_of hr) (pe_f T.c_Paging T.n_Paging_tables (pe_f T.c_Rooms T.n_Rooms_paging (pv 0))) (pv 1) (pe_mk0 D_Table___init__ tk (hr.mono (by decide)) rfl) rfl)))

abbrev st_Rooms_ask_room : Stmt := inClass (top 21) 5
theorem sc_Rooms_ask_room : FnScope n_Rooms_ask_room ["self", "many"] (defScope st_Rooms_ask_room) := ⟨rfl, rfl, rfl, by decide +kernel, rfl, by decide +kernel, by decide +kernel⟩
theorem ok_Rooms_ask_room {f : Addr} {fd : FuncData} (F : FnP K "ask_room" "Rooms.ask_room" st_Rooms_ask_room f fd) (T : Txt K mg) (D_Rooms_held : MtAt P w K mg base CX0 2 (c_Rooms K) "held" (sp_Rooms_held K))
    (len : ∀ vs H Q E, sp_Rooms_ask_room K vs H Q E → vs.length = 2) (pure : ∀ vs H Q E, sp_Rooms_ask_room K vs H Q E → t_Rooms_ask_room K (WD E) ⟨fun _ H' => Q .non H', Q, fun _ _ => False, fun _ _ => False⟩ (start n_Rooms_ask_room vs) H) :
    FnOk P w K mg base (L2.CX P w) 3 f fd ["self", "many"] (sp_Rooms_ask_room K) := by
  have sc := sc_Rooms_ask_room
  refine F.ok sc len fun cdv A outer s H vs Q E hr h => ⟨t_Rooms_ask_room K (WD E), ?_, pure vs H Q E h⟩
  have tk : Takes (cxOf (L2.CX P w) P w K mg base n_Rooms_ask_room "Rooms.ask_room" (defScope st_Rooms_ask_room) f cdv A outer s H E) (WD E) := takes_of rfl rfl rfl rfl
  exact (pss_one (ps_if (pt_cmpR op_gt (pe_op op_add (pe_mt0 D_Rooms_held tk (hr.mono (by decide)) (pv 0)) (pv 1)) (pe_op op_add (pe_f T.c_Paging T.n_Paging_frames (pe_f T.c_Rooms T.n_Rooms_paging (pv 0))) (pe_f T.c_Paging T.n_Paging_slots (pe_f T.c_Rooms T.n_Rooms_paging (pv 0)))) (nomark _)) (pss_one (ps_rz T.e_NoRoom rfl rfl tk rfl)) pss_nil))

abbrev st_Rooms_stretches : Stmt := inClass (top 21) 9
theorem sc_Rooms_stretches : FnScope n_Rooms_stretches ["self", "task", "address", "many"] (defScope st_Rooms_stretches) := ⟨rfl, rfl, rfl, by decide +kernel, rfl, by decide +kernel, by decide +kernel⟩
theorem ok_Rooms_stretches {f : Addr} {fd : FuncData} (F : FnP K "stretches" "Rooms.stretches" st_Rooms_stretches f fd) (T : Txt K mg) (D_Rooms_table_of : MtAt P w K mg base (L2.CX P w) 1 (c_Rooms K) "table_of" (sp_Rooms_table_of K)) (D_stretches_of : FnAt P w K mg base CX0 1 "stretches_of" (sp_stretches_of K)) (D_Rooms_look_mapped : MtAt P w K mg base (L2.CX P w) 2 (c_Rooms K) "look_mapped" (sp_Rooms_look_mapped K))
    (len : ∀ vs H Q E, sp_Rooms_stretches K vs H Q E → vs.length = 4) (pure : ∀ vs H Q E, sp_Rooms_stretches K vs H Q E → t_Rooms_stretches K (WD E) ⟨fun _ H' => Q .non H', Q, fun _ _ => False, fun _ _ => False⟩ (start n_Rooms_stretches vs) H) :
    FnOk P w K mg base (L2.CX P w) 3 f fd ["self", "task", "address", "many"] (sp_Rooms_stretches K) := by
  have sc := sc_Rooms_stretches
  refine F.ok sc len fun cdv A outer s H vs Q E hr h => ⟨t_Rooms_stretches K (WD E), ?_, pure vs H Q E h⟩
  have tk : Takes (cxOf (L2.CX P w) P w K mg base n_Rooms_stretches "Rooms.stretches" (defScope st_Rooms_stretches) f cdv A outer s H E) (WD E) := takes_of rfl rfl rfl rfl
  exact (pss_cons (ps_set (i := 4) sc.nd rfl (Or.inl rfl) (pe_mt D_Rooms_table_of tk (hr.mono (by decide)) (pv 0) (pa_cons (pv 1) pa_nil)))
  (pss_cons (ps_if (PW.pt (pw_or (pt_cmpR op_lt (pv 3) pe_int (nomark _)) (pw_or1 (PW.pt (pw_and (pt_cmpR op_gt (pv 3) pe_int (nomark _)) (pw_and1 (PW.pt (pw_or (pt_cmpR op_lt (pv 2) pe_int (nomark _)) (pw_or1 (pt_cmpR op_gt (pe_op op_add (pv 2) (pv 3)) (pe_op op_mul (pe_gint rfl T.i_PAGES) (pe_gint rfl T.i_PAGE_SIZE)) (nomark _))))))))))) (pss_one (ps_rz T.e_NoPage rfl rfl tk rfl)) pss_nil)
  (pss_cons (ps_set (i := 5) sc.nd rfl (Or.inl rfl) (pe_fn D_stretches_of tk (hr.mono (by decide)) rfl (pa_cons (pv 2) (pa_cons (pv 3) pa_nil))))
  (pss_cons (ps_expr (pe_mt D_Rooms_look_mapped tk (hr.mono (by decide)) (pv 0) (pa_cons (pv 4) (pa_cons (pe_lc (own := [("page", 6), ("low", 7), ("high", 8)]) (g := (gTup K 3 (gCons (gName 6) (gCons (gName 7) (gCons (gName 8) gNil))))) rfl sc.nd (pi_list (pv 5)) (blkOk_by (own := [("page", 6), ("low", 7), ("high", 8)]) (N := n_Rooms_stretches) (sc := defScope st_Rooms_stretches) (by decide +kernel)) (fun _ _ _ _ _ => (pg_tup rfl (pgs_cons (pg_name (i := 6) sc.nd rfl (Or.inl rfl)) (pgs_cons (pg_name (i := 7) sc.nd rfl (Or.inl rfl)) (pgs_cons (pg_name (i := 8) sc.nd rfl (Or.inl rfl)) pgs_nil))))) (fun _ _ _ _ _ => pts_nil) (fun _ _ _ _ _ => (pv 6))) pa_nil))))
  (pss_one (ps_ret (pv 5)))))))

abbrev st_Paging_share : Stmt := inClass (top 13) 3
theorem sc_Paging_share : FnScope n_Paging_share ["self", "owner", "entry"] (defScope st_Paging_share) := ⟨rfl, rfl, rfl, by decide +kernel, rfl, by decide +kernel, by decide +kernel⟩
theorem ok_Paging_share {f : Addr} {fd : FuncData} (F : FnP K "share" "Paging.share" st_Paging_share f fd) (T : Txt K mg) (D_Store_more : MtAt P w K mg base CX0 3 (c_Store K) "more" (sp_Store_more K)) (D_Paging_lay : MtAt P w K mg base CX0 2 (c_Paging K) "lay" (sp_Paging_lay K))
    (len : ∀ vs H Q E, sp_Paging_share K vs H Q E → vs.length = 3) (pure : ∀ vs H Q E, sp_Paging_share K vs H Q E → t_Paging_share K (WD E) ⟨fun _ H' => Q .non H', Q, fun _ _ => False, fun _ _ => False⟩ (start n_Paging_share vs) H) :
    FnOk P w K mg base (L2.CX P w) 4 f fd ["self", "owner", "entry"] (sp_Paging_share K) := by
  have sc := sc_Paging_share
  refine F.ok sc len fun cdv A outer s H vs Q E hr h => ⟨t_Paging_share K (WD E), ?_, pure vs H Q E h⟩
  have tk : Takes (cxOf (L2.CX P w) P w K mg base n_Paging_share "Paging.share" (defScope st_Paging_share) f cdv A outer s H E) (WD E) := takes_of rfl rfl rfl rfl
  exact (pss_cons (ps_if (pt_cmpR (op_neD (hu64 hr)) (pv 2) (pe_gref rfl T.g_BLANK) (nomark _)) (pss_one (ps_expr (pe_mt D_Store_more tk (hr.mono (by decide)) (pe_dget (hu_of hr) (pe_f T.c_Paging T.n_Paging_stores (pv 0)) (pe_ix ix_tup (pv 2) pe_int (fun _ _ => rfl)) (fun _ _ => rfl)) (pa_cons (pe_ix ix_tup (pv 2) pe_int (fun _ _ => rfl)) pa_nil)))) pss_nil)
  (pss_one (ps_expr (pe_mt D_Paging_lay tk (hr.mono (by decide)) (pv 0) (pa_cons (pv 1) (pa_cons (pv 2) pa_nil))))))

abbrev st_Paging_leave : Stmt := inClass (top 13) 4
theorem sc_Paging_leave : FnScope n_Paging_leave ["self", "owner"] (defScope st_Paging_leave) := ⟨rfl, rfl, rfl, by decide +kernel, rfl, by decide +kernel, by decide +kernel⟩
theorem ok_Paging_leave {f : Addr} {fd : FuncData} (F : FnP K "leave" "Paging.leave" st_Paging_leave f fd) (T : Txt K mg) (D_Paging_entry : MtAt P w K mg base CX0 2 (c_Paging K) "entry" (sp_Paging_entry K)) (D_Store_less : MtAt P w K mg base CX0 3 (c_Store K) "less" (sp_Store_less K))
    (len : ∀ vs H Q E, sp_Paging_leave K vs H Q E → vs.length = 2) (pure : ∀ vs H Q E, sp_Paging_leave K vs H Q E → t_Paging_leave K (WD E) ⟨fun _ H' => Q .non H', Q, fun _ _ => False, fun _ _ => False⟩ (start n_Paging_leave vs) H) :
    FnOk P w K mg base (L2.CX P w) 4 f fd ["self", "owner"] (sp_Paging_leave K) := by
  have sc := sc_Paging_leave
  refine F.ok sc len fun cdv A outer s H vs Q E hr h => ⟨t_Paging_leave K (WD E), ?_, pure vs H Q E h⟩
  have tk : Takes (cxOf (L2.CX P w) P w K mg base n_Paging_leave "Paging.leave" (defScope st_Paging_leave) f cdv A outer s H E) (WD E) := takes_of rfl rfl rfl rfl
  exact (pss_cons (ps_set (i := 2) sc.nd rfl (Or.inl rfl) (pe_mt D_Paging_entry tk (hr.mono (by decide)) (pv 0) (pa_cons (pv 1) pa_nil)))
  (pss_one (ps_if (pt_cmpR (op_neD (hu64 hr)) (pv 2) (pe_gref rfl T.g_BLANK) (nomark _)) (pss_cons (ps_expr (pe_dpopT (hu_of hr) (pe_dget (hu_of hr) (pe_f T.c_Paging T.n_Paging_owners (pv 0)) (pv 2) (fun _ _ => rfl)) (pv 1) ⟨by rfl, by rfl, by rfl, by rfl⟩))
  (pss_one (ps_expr (pe_mt D_Store_less tk (hr.mono (by decide)) (pe_dget (hu_of hr) (pe_f T.c_Paging T.n_Paging_stores (pv 0)) (pe_ix ix_tup (pv 2) pe_int (fun _ _ => rfl)) (fun _ _ => rfl)) (pa_cons (pe_ix ix_tup (pv 2) pe_int (fun _ _ => rfl)) pa_nil))))) pss_nil)))

abbrev st_Paging_lifted : Stmt := inClass (top 13) 5
theorem sc_Paging_lifted : FnScope n_Paging_lifted ["self", "entry"] (defScope st_Paging_lifted) := ⟨rfl, rfl, rfl, by decide +kernel, rfl, by decide +kernel, by decide +kernel⟩
theorem ok_Paging_lifted {f : Addr} {fd : FuncData} (F : FnP K "lifted" "Paging.lifted" st_Paging_lifted f fd) (T : Txt K mg) (D_Store_cells : MtAt P w K mg base CX0 3 (c_Store K) "cells" (sp_Store_cells K)) (D_Store_less : MtAt P w K mg base CX0 3 (c_Store K) "less" (sp_Store_less K))
    (len : ∀ vs H Q E, sp_Paging_lifted K vs H Q E → vs.length = 2) (pure : ∀ vs H Q E, sp_Paging_lifted K vs H Q E → t_Paging_lifted K (WD E) ⟨fun _ H' => Q .non H', Q, fun _ _ => False, fun _ _ => False⟩ (start n_Paging_lifted vs) H) :
    FnOk P w K mg base (L2.CX P w) 4 f fd ["self", "entry"] (sp_Paging_lifted K) := by
  have sc := sc_Paging_lifted
  refine F.ok sc len fun cdv A outer s H vs Q E hr h => ⟨t_Paging_lifted K (WD E), ?_, pure vs H Q E h⟩
  have tk : Takes (cxOf (L2.CX P w) P w K mg base n_Paging_lifted "Paging.lifted" (defScope st_Paging_lifted) f cdv A outer s H E) (WD E) := takes_of rfl rfl rfl rfl
  exact (pss_cons (ps_set (i := 2) sc.nd rfl (Or.inl rfl) (pe_dget (hu_of hr) (pe_f T.c_Paging T.n_Paging_stores (pv 0)) (pe_ix ix_tup (pv 1) pe_int (fun _ _ => rfl)) (fun _ _ => rfl)))
  (pss_cons (ps_set (i := 3) sc.nd rfl (Or.inl rfl) (pe_mt D_Store_cells tk (hr.mono (by decide)) (pv 2) (pa_cons (pe_ix ix_tup (pv 1) pe_int (fun _ _ => rfl)) pa_nil)))
  (pss_cons (ps_set (i := 4) sc.nd rfl (Or.inl rfl) (pe_callTy (call_list_dT rfl) (by rfl) T.b_list (by decide +kernel) (pa_cons (pe_dpopT (hu_of hr) (pe_f T.c_Paging T.n_Paging_owners (pv 0)) (pv 1) ⟨by rfl, by rfl, by rfl, by rfl⟩) pa_nil)))
  (pss_cons (ps_for (passes_of rfl) rfl (pi_list (pv 4)) (pg_name (i := 5) sc.nd rfl (Or.inl rfl)) (pss_one (ps_expr (pe_mt D_Store_less tk (hr.mono (by decide)) (pv 2) (pa_cons (pe_ix ix_tup (pv 1) pe_int (fun _ _ => rfl)) pa_nil)))))
  (pss_one (ps_ret (pe_tup (pa_cons (pv 3) (pa_cons (pv 4) pa_nil)))))))))

abbrev st_Paging_settle : Stmt := inClass (top 13) 6
theorem sc_Paging_settle : FnScope n_Paging_settle ["self", "entry", "cells", "owners"] (defScope st_Paging_settle) := ⟨rfl, rfl, rfl, by decide +kernel, rfl, by decide +kernel, by decide +kernel⟩
theorem ok_Paging_settle {f : Addr} {fd : FuncData} (F : FnP K "settle" "Paging.settle" st_Paging_settle f fd) (T : Txt K mg) (D_Store_put : MtAt P w K mg base CX0 3 (c_Store K) "put" (sp_Store_put K)) (D_Store_more : MtAt P w K mg base CX0 3 (c_Store K) "more" (sp_Store_more K)) (D_Paging_lay : MtAt P w K mg base CX0 2 (c_Paging K) "lay" (sp_Paging_lay K))
    (len : ∀ vs H Q E, sp_Paging_settle K vs H Q E → vs.length = 4) (pure : ∀ vs H Q E, sp_Paging_settle K vs H Q E → t_Paging_settle K (WD E) ⟨fun _ H' => Q .non H', Q, fun _ _ => False, fun _ _ => False⟩ (start n_Paging_settle vs) H) :
    FnOk P w K mg base (L2.CX P w) 4 f fd ["self", "entry", "cells", "owners"] (sp_Paging_settle K) := by
  have sc := sc_Paging_settle
  refine F.ok sc len fun cdv A outer s H vs Q E hr h => ⟨t_Paging_settle K (WD E), ?_, pure vs H Q E h⟩
  have tk : Takes (cxOf (L2.CX P w) P w K mg base n_Paging_settle "Paging.settle" (defScope st_Paging_settle) f cdv A outer s H E) (WD E) := takes_of rfl rfl rfl rfl
  exact (pss_cons (ps_set (i := 4) sc.nd rfl (Or.inl rfl) (pe_dget (hu_of hr) (pe_f T.c_Paging T.n_Paging_stores (pv 0)) (pe_ix ix_tup (pv 1) pe_int (fun _ _ => rfl)) (fun _ _ => rfl)))
  (pss_cons (ps_expr (pe_mt D_Store_put tk (hr.mono (by decide)) (pv 4) (pa_cons (pe_ix ix_tup (pv 1) pe_int (fun _ _ => rfl)) (pa_cons (pv 2) pa_nil))))
  (pss_cons (ps_for (passes_of rfl) rfl (pi_list (pe_slice sl_list (pv 3) (po_some pe_int) po_none)) (pg_name (i := 5) sc.nd rfl (Or.inl rfl)) (pss_one (ps_expr (pe_mt D_Store_more tk (hr.mono (by decide)) (pv 4) (pa_cons (pe_ix ix_tup (pv 1) pe_int (fun _ _ => rfl)) pa_nil)))))
  (pss_one (ps_for (passes_of rfl) rfl (pi_list (pv 3)) (pg_name (i := 5) sc.nd rfl (Or.inl rfl)) (pss_one (ps_expr (pe_mt D_Paging_lay tk (hr.mono (by decide)) (pv 0) (pa_cons (pv 5) (pa_cons (pv 1) pa_nil))))))))))

abbrev st_Paging_cells : Stmt := inClass (top 13) 11
theorem sc_Paging_cells : FnScope n_Paging_cells ["self", "owner"] (defScope st_Paging_cells) := ⟨rfl, rfl, rfl, by decide +kernel, rfl, by decide +kernel, by decide +kernel⟩
theorem ok_Paging_cells {f : Addr} {fd : FuncData} (F : FnP K "cells" "Paging.cells" st_Paging_cells f fd) (T : Txt K mg) (D_Paging_entry : MtAt P w K mg base CX0 2 (c_Paging K) "entry" (sp_Paging_entry K)) (D_Store_cells : MtAt P w K mg base CX0 3 (c_Store K) "cells" (sp_Store_cells K))
    (len : ∀ vs H Q E, sp_Paging_cells K vs H Q E → vs.length = 2) (pure : ∀ vs H Q E, sp_Paging_cells K vs H Q E → t_Paging_cells K (WD E) ⟨fun _ H' => Q .non H', Q, fun _ _ => False, fun _ _ => False⟩ (start n_Paging_cells vs) H) :
    FnOk P w K mg base (L2.CX P w) 4 f fd ["self", "owner"] (sp_Paging_cells K) := by
  have sc := sc_Paging_cells
  refine F.ok sc len fun cdv A outer s H vs Q E hr h => ⟨t_Paging_cells K (WD E), ?_, pure vs H Q E h⟩
  have tk : Takes (cxOf (L2.CX P w) P w K mg base n_Paging_cells "Paging.cells" (defScope st_Paging_cells) f cdv A outer s H E) (WD E) := takes_of rfl rfl rfl rfl
  exact (pss_cons (ps_set (i := 2) sc.nd rfl (Or.inl rfl) (pe_mt D_Paging_entry tk (hr.mono (by decide)) (pv 0) (pa_cons (pv 1) pa_nil)))
  (pss_cons (ps_if (pt_cmpR (op_eqD (hu64 hr)) (pv 2) (pe_gref rfl T.g_BLANK) (nomark _)) (pss_one (ps_ret (pe_op op_rep (pe_lst (pa_cons pe_int pa_nil)) (pe_gint rfl T.i_PAGE_SIZE)))) pss_nil)
  (pss_one (ps_ret (pe_mt D_Store_cells tk (hr.mono (by decide)) (pe_dget (hu_of hr) (pe_f T.c_Paging T.n_Paging_stores (pv 0)) (pe_ix ix_tup (pv 2) pe_int (fun _ _ => rfl)) (fun _ _ => rfl)) (pa_cons (pe_ix ix_tup (pv 2) pe_int (fun _ _ => rfl)) pa_nil))))))

abbrev st_Paging_put : Stmt := inClass (top 13) 12
theorem sc_Paging_put : FnScope n_Paging_put ["self", "owner", "cells"] (defScope st_Paging_put) := ⟨rfl, rfl, rfl, by decide +kernel, rfl, by decide +kernel, by decide +kernel⟩
theorem ok_Paging_put {f : Addr} {fd : FuncData} (F : FnP K "put" "Paging.put" st_Paging_put f fd) (T : Txt K mg) (D_Paging_entry : MtAt P w K mg base CX0 2 (c_Paging K) "entry" (sp_Paging_entry K)) (D_Store_put : MtAt P w K mg base CX0 3 (c_Store K) "put" (sp_Store_put K))
    (len : ∀ vs H Q E, sp_Paging_put K vs H Q E → vs.length = 3) (pure : ∀ vs H Q E, sp_Paging_put K vs H Q E → t_Paging_put K (WD E) ⟨fun _ H' => Q .non H', Q, fun _ _ => False, fun _ _ => False⟩ (start n_Paging_put vs) H) :
    FnOk P w K mg base (L2.CX P w) 4 f fd ["self", "owner", "cells"] (sp_Paging_put K) := by
  have sc := sc_Paging_put
  refine F.ok sc len fun cdv A outer s H vs Q E hr h => ⟨t_Paging_put K (WD E), ?_, pure vs H Q E h⟩
  have tk : Takes (cxOf (L2.CX P w) P w K mg base n_Paging_put "Paging.put" (defScope st_Paging_put) f cdv A outer s H E) (WD E) := takes_of rfl rfl rfl rfl
  exact (pss_cons (ps_set (i := 3) sc.nd rfl (Or.inl rfl) (pe_mt D_Paging_entry tk (hr.mono (by decide)) (pv 0) (pa_cons (pv 1) pa_nil)))
  (pss_one (ps_expr (pe_mt D_Store_put tk (hr.mono (by decide)) (pe_dget (hu_of hr) (pe_f T.c_Paging T.n_Paging_stores (pv 0)) (pe_ix ix_tup (pv 3) pe_int (fun _ _ => rfl)) (fun _ _ => rfl)) (pa_cons (pe_ix ix_tup (pv 3) pe_int (fun _ _ => rfl)) (pa_cons (pv 2) pa_nil))))))

abbrev st_Rooms_map : Stmt := inClass (top 21) 6
theorem sc_Rooms_map : FnScope n_Rooms_map ["self", "task", "page", "many"] (defScope st_Rooms_map) := ⟨rfl, rfl, rfl, by decide +kernel, rfl, by decide +kernel, by decide +kernel⟩
theorem ok_Rooms_map {f : Addr} {fd : FuncData} (F : FnP K "map" "Rooms.map" st_Rooms_map f fd) (T : Txt K mg) (D_Rooms_table_of : MtAt P w K mg base (L2.CX P w) 1 (c_Rooms K) "table_of" (sp_Rooms_table_of K)) (D_pages_asked : FnAt P w K mg base (L2.CX P w) 1 "pages_asked" (sp_pages_asked K)) (D_Table_get : MtAt P w K mg base CX0 1 (c_Table K) "get" (sp_Table_get K)) (D_Rooms_ask_room : MtAt P w K mg base (L2.CX P w) 3 (c_Rooms K) "ask_room" (sp_Rooms_ask_room K)) (D_Paging_lay : MtAt P w K mg base CX0 2 (c_Paging K) "lay" (sp_Paging_lay K))
    (len : ∀ vs H Q E, sp_Rooms_map K vs H Q E → vs.length = 4) (pure : ∀ vs H Q E, sp_Rooms_map K vs H Q E → t_Rooms_map K (WD E) ⟨fun _ H' => Q .non H', Q, fun _ _ => False, fun _ _ => False⟩ (start n_Rooms_map vs) H) :
    FnOk P w K mg base (L2.CX P w) 4 f fd ["self", "task", "page", "many"] (sp_Rooms_map K) := by
  have sc := sc_Rooms_map
  refine F.ok sc len fun cdv A outer s H vs Q E hr h => ⟨t_Rooms_map K (WD E), ?_, pure vs H Q E h⟩
  have tk : Takes (cxOf (L2.CX P w) P w K mg base n_Rooms_map "Rooms.map" (defScope st_Rooms_map) f cdv A outer s H E) (WD E) := takes_of rfl rfl rfl rfl
  exact (pss_cons (ps_set (i := 4) sc.nd rfl (Or.inr rfl) (pe_mt D_Rooms_table_of tk (hr.mono (by decide)) (pv 0) (pa_cons (pv 1) pa_nil)))
  (pss_cons (ps_set (i := 5) sc.nd rfl (Or.inl rfl) (pe_fn D_pages_asked tk (hr.mono (by decide)) rfl (pa_cons (pv 2) (pa_cons (pv 3) pa_nil))))
  (pss_cons (ps_if (pt_val (pe_callB (cr_any rfl) (by rfl) T.b_any (by decide +kernel) (pa_cons (pe_lc (own := [("one", 6)]) (g := (gName 6)) rfl sc.nd (pi_list (pv 5)) (blkOk_by (own := [("one", 6)]) (N := n_Rooms_map) (sc := defScope st_Rooms_map) (by decide +kernel)) (fun _ _ _ _ _ => (pg_name (i := 6) sc.nd rfl (Or.inl rfl))) (fun _ _ _ _ _ => pts_nil) (fun _ _ _ _ _ => (pe_cmpR op_notN (pe_mt D_Table_get takes0 (hr.mono (by decide)) (pv 4) (pa_cons (pv 6) pa_nil)) pe_non (nomark _)))) pa_nil))) (pss_one (ps_rz T.e_Taken rfl rfl tk rfl)) pss_nil)
  (pss_cons (ps_expr (pe_mt D_Rooms_ask_room tk (hr.mono (by decide)) (pv 0) (pa_cons (pv 3) pa_nil)))
  (pss_one (ps_for (passes_of rfl) rfl (pi_list (pv 5)) (pg_name (i := 6) sc.nd rfl (Or.inl rfl)) (pss_one (ps_expr (pe_mt D_Paging_lay tk (hr.mono (by decide)) (pe_f T.c_Rooms T.n_Rooms_paging (pv 0)) (pa_cons (pe_tup (pa_cons (pv 1) (pa_cons (pv 6) pa_nil))) (pa_cons (pe_gref rfl T.g_BLANK) pa_nil)))))))))))

abbrev st_Paging_put_out : Stmt := inClass (top 13) 7
theorem sc_Paging_put_out : FnScope n_Paging_put_out ["self"] (defScope st_Paging_put_out) := ⟨rfl, rfl, rfl, by decide +kernel, rfl, by decide +kernel, by decide +kernel⟩
theorem ok_Paging_put_out {f : Addr} {fd : FuncData} (F : FnP K "put_out" "Paging.put_out" st_Paging_put_out f fd) (T : Txt K mg) (D_Paging_lifted : MtAt P w K mg base CX0 4 (c_Paging K) "lifted" (sp_Paging_lifted K)) (D_Paging_settle : MtAt P w K mg base CX0 4 (c_Paging K) "settle" (sp_Paging_settle K)) (D_Store_take : MtAt P w K mg base CX0 1 (c_Store K) "take" (sp_Store_take K))
    (len : ∀ vs H Q E, sp_Paging_put_out K vs H Q E → vs.length = 1) (pure : ∀ vs H Q E, sp_Paging_put_out K vs H Q E → t_Paging_put_out K (WD E) ⟨fun _ H' => Q .non H', Q, fun _ _ => False, fun _ _ => False⟩ (start n_Paging_put_out vs) H) :
    FnOk P w K mg base (L2.CX P w) 5 f fd ["self"] (sp_Paging_put_out K) := by
  have sc := sc_Paging_put_out
  refine F.ok sc len fun cdv A outer s H vs Q E hr h => ⟨t_Paging_put_out K (WD E), ?_, pure vs H Q E h⟩
  have tk : Takes (cxOf (L2.CX P w) P w K mg base n_Paging_put_out "Paging.put_out" (defScope st_Paging_put_out) f cdv A outer s H E) (WD E) := takes_of rfl rfl rfl rfl
  exact (pss_cons (ps_asg (pe_mt D_Paging_lifted tk (hr.mono (by decide)) (pv 0) (pa_cons (pe_tup (pa_cons pe_str (pa_cons (pe_f T.c_Paging T.n_Paging_hand (pv 0)) pa_nil))) pa_nil)) (pg_tup rfl (pgs_cons (pg_name (i := 1) sc.nd rfl (Or.inl rfl)) (pgs_cons (pg_name (i := 2) sc.nd rfl (Or.inl rfl)) pgs_nil))))
  (pss_cons (ps_f T.c_Paging T.n_Paging_hand (pv 0) (pe_op op_mod (pe_op op_add (pe_f T.c_Paging T.n_Paging_hand (pv 0)) pe_int) (pe_f T.c_Paging T.n_Paging_frames (pv 0))))
  (pss_one (ps_expr (pe_mt D_Paging_settle tk (hr.mono (by decide)) (pv 0) (pa_cons (pe_tup (pa_cons pe_str (pa_cons (pe_mt0 D_Store_take tk (hr.mono (by decide)) (pe_dget (hu_of hr) (pe_f T.c_Paging T.n_Paging_stores (pv 0)) pe_str (fun _ _ => rfl))) pa_nil))) (pa_cons (pv 1) (pa_cons (pv 2) pa_nil))))))))

abbrev st_Rooms___init__ : Stmt := inClass (top 21) 0
theorem sc_Rooms___init__ : FnScope n_Rooms___init__ ["self", "frames", "slots"] (defScope st_Rooms___init__) := ⟨rfl, rfl, rfl, by decide +kernel, rfl, by decide +kernel, by decide +kernel⟩
theorem ok_Rooms___init__ {f : Addr} {fd : FuncData} (F : FnP K "__init__" "Rooms.__init__" st_Rooms___init__ f fd) (T : Txt K mg) (D_Paging___init__ : MkAt P w K mg base CX0 3 "Paging" (c_Paging K) (sp_Paging___init__ K))
    (len : ∀ vs H Q E, sp_Rooms___init__ K vs H Q E → vs.length = 3) (pure : ∀ vs H Q E, sp_Rooms___init__ K vs H Q E → t_Rooms___init__ K (WD E) ⟨fun _ H' => Q .non H', Q, fun _ _ => False, fun _ _ => False⟩ (start n_Rooms___init__ vs) H) :
    FnOk P w K mg base (L2.CX P w) 5 f fd ["self", "frames", "slots"] (sp_Rooms___init__ K) := by
  have sc := sc_Rooms___init__
  refine F.ok sc len fun cdv A outer s H vs Q E hr h => ⟨t_Rooms___init__ K (WD E), ?_, pure vs H Q E h⟩
  have tk : Takes (cxOf (L2.CX P w) P w K mg base n_Rooms___init__ "Rooms.__init__" (defScope st_Rooms___init__) f cdv A outer s H E) (WD E) := takes_of rfl rfl rfl rfl
  exact (pss_one (ps_f T.c_Rooms T.n_Rooms_paging (pv 0) (pe_mk D_Paging___init__ tk (hr.mono (by decide)) rfl (pa_cons (pv 1) (pa_cons (pv 2) pa_nil)))))

abbrev st_Rooms_close : Stmt := inClass (top 21) 3
theorem sc_Rooms_close : FnScope n_Rooms_close ["self", "task"] (defScope st_Rooms_close) := ⟨rfl, rfl, rfl, by decide +kernel, rfl, by decide +kernel, by decide +kernel⟩
theorem ok_Rooms_close {f : Addr} {fd : FuncData} (F : FnP K "close" "Rooms.close" st_Rooms_close f fd) (T : Txt K mg) (D_Table_pages : MtAt P w K mg base CX0 1 (c_Table K) "pages" (sp_Table_pages K)) (D_Rooms_table_of : MtAt P w K mg base (L2.CX P w) 1 (c_Rooms K) "table_of" (sp_Rooms_table_of K)) (D_Paging_leave : MtAt P w K mg base CX0 4 (c_Paging K) "leave" (sp_Paging_leave K))
    (len : ∀ vs H Q E, sp_Rooms_close K vs H Q E → vs.length = 2) (pure : ∀ vs H Q E, sp_Rooms_close K vs H Q E → t_Rooms_close K (WD E) ⟨fun _ H' => Q .non H', Q, fun _ _ => False, fun _ _ => False⟩ (start n_Rooms_close vs) H) :
    FnOk P w K mg base (L2.CX P w) 5 f fd ["self", "task"] (sp_Rooms_close K) := by
  have sc := sc_Rooms_close
  refine F.ok sc len fun cdv A outer s H vs Q E hr h => ⟨t_Rooms_close K (WD E), ?_, pure vs H Q E h⟩
  have tk : Takes (cxOf (L2.CX P w) P w K mg base n_Rooms_close "Rooms.close" (defScope st_Rooms_close) f cdv A outer s H E) (WD E) := takes_of rfl rfl rfl rfl
  exact (pss_cons (ps_for (passes_of rfl) rfl (pi_list (pe_mt0 D_Table_pages tk (hr.mono (by decide)) (pe_mt D_Rooms_table_of tk (hr.mono (by decide)) (pv 0) (pa_cons (pv 1) pa_nil)))) (pg_name (i := 2) sc.nd rfl (Or.inl rfl)) (pss_one (ps_expr (pe_mt D_Paging_leave tk (hr.mono (by decide)) (pe_f T.c_Rooms T.n_Rooms_paging (pv 0)) (pa_cons (pe_tup (pa_cons (pv 1) (pa_cons (pv 2) pa_nil))) pa_nil)))))
  (pss_one (ps_expr (pe_dpop1 (pe_f T.c_Paging T.n_Paging_tables (pe_f T.c_Rooms T.n_Rooms_paging (pv 0))) (pv 1) ⟨by rfl, by rfl, by rfl, by rfl⟩))))

abbrev st_Rooms_drop : Stmt := inClass (top 21) 8
theorem sc_Rooms_drop : FnScope n_Rooms_drop ["self", "task", "page", "many"] (defScope st_Rooms_drop) := ⟨rfl, rfl, rfl, by decide +kernel, rfl, by decide +kernel, by decide +kernel⟩
theorem ok_Rooms_drop {f : Addr} {fd : FuncData} (F : FnP K "drop" "Rooms.drop" st_Rooms_drop f fd) (T : Txt K mg) (D_Rooms_table_of : MtAt P w K mg base (L2.CX P w) 1 (c_Rooms K) "table_of" (sp_Rooms_table_of K)) (D_pages_asked : FnAt P w K mg base (L2.CX P w) 1 "pages_asked" (sp_pages_asked K)) (D_Rooms_look_mapped : MtAt P w K mg base (L2.CX P w) 2 (c_Rooms K) "look_mapped" (sp_Rooms_look_mapped K)) (D_Paging_leave : MtAt P w K mg base CX0 4 (c_Paging K) "leave" (sp_Paging_leave K)) (D_Table_clear : MtAt P w K mg base CX0 1 (c_Table K) "clear" (sp_Table_clear K))
    (len : ∀ vs H Q E, sp_Rooms_drop K vs H Q E → vs.length = 4) (pure : ∀ vs H Q E, sp_Rooms_drop K vs H Q E → t_Rooms_drop K (WD E) ⟨fun _ H' => Q .non H', Q, fun _ _ => False, fun _ _ => False⟩ (start n_Rooms_drop vs) H) :
    FnOk P w K mg base (L2.CX P w) 5 f fd ["self", "task", "page", "many"] (sp_Rooms_drop K) := by
  have sc := sc_Rooms_drop
  refine F.ok sc len fun cdv A outer s H vs Q E hr h => ⟨t_Rooms_drop K (WD E), ?_, pure vs H Q E h⟩
  have tk : Takes (cxOf (L2.CX P w) P w K mg base n_Rooms_drop "Rooms.drop" (defScope st_Rooms_drop) f cdv A outer s H E) (WD E) := takes_of rfl rfl rfl rfl
  exact (pss_cons (ps_set (i := 4) sc.nd rfl (Or.inl rfl) (pe_mt D_Rooms_table_of tk (hr.mono (by decide)) (pv 0) (pa_cons (pv 1) pa_nil)))
  (pss_cons (ps_set (i := 5) sc.nd rfl (Or.inl rfl) (pe_fn D_pages_asked tk (hr.mono (by decide)) rfl (pa_cons (pv 2) (pa_cons (pv 3) pa_nil))))
  (pss_cons (ps_expr (pe_mt D_Rooms_look_mapped tk (hr.mono (by decide)) (pv 0) (pa_cons (pv 4) (pa_cons (pv 5) pa_nil))))
  (pss_one (ps_for (passes_of rfl) rfl (pi_list (pv 5)) (pg_name (i := 6) sc.nd rfl (Or.inl rfl)) (pss_cons (ps_expr (pe_mt D_Paging_leave tk (hr.mono (by decide)) (pe_f T.c_Rooms T.n_Rooms_paging (pv 0)) (pa_cons (pe_tup (pa_cons (pv 1) (pa_cons (pv 6) pa_nil))) pa_nil)))
  (pss_one (ps_expr (pe_mt D_Table_clear tk (hr.mono (by decide)) (pv 4) (pa_cons (pv 6) pa_nil))))))))))

abbrev st_Rooms_copy : Stmt := inClass (top 21) 13
theorem sc_Rooms_copy : FnScope n_Rooms_copy ["self", "task", "other"] (defScope st_Rooms_copy) := ⟨rfl, rfl, rfl, by decide +kernel, rfl, by decide +kernel, by decide +kernel⟩
theorem ok_Rooms_copy {f : Addr} {fd : FuncData} (F : FnP K "copy" "Rooms.copy" st_Rooms_copy f fd) (T : Txt K mg) (D_Rooms_table_of : MtAt P w K mg base (L2.CX P w) 1 (c_Rooms K) "table_of" (sp_Rooms_table_of K)) (D_Rooms_ask_room : MtAt P w K mg base (L2.CX P w) 3 (c_Rooms K) "ask_room" (sp_Rooms_ask_room K)) (D_Table_pages : MtAt P w K mg base CX0 1 (c_Table K) "pages" (sp_Table_pages K)) (D_Table___init__ : MkAt P w K mg base CX0 1 "Table" (c_Table K) (sp_Table___init__ K)) (D_Paging_share : MtAt P w K mg base CX0 4 (c_Paging K) "share" (sp_Paging_share K)) (D_Table_get : MtAt P w K mg base CX0 1 (c_Table K) "get" (sp_Table_get K))
    (len : ∀ vs H Q E, sp_Rooms_copy K vs H Q E → vs.length = 3) (pure : ∀ vs H Q E, sp_Rooms_copy K vs H Q E → t_Rooms_copy K (WD E) ⟨fun _ H' => Q .non H', Q, fun _ _ => False, fun _ _ => False⟩ (start n_Rooms_copy vs) H) :
    FnOk P w K mg base (L2.CX P w) 5 f fd ["self", "task", "other"] (sp_Rooms_copy K) := by
  have sc := sc_Rooms_copy
  refine F.ok sc len fun cdv A outer s H vs Q E hr h => ⟨t_Rooms_copy K (WD E), ?_, pure vs H Q E h⟩
  have tk : Takes (cxOf (L2.CX P w) P w K mg base n_Rooms_copy "Rooms.copy" (defScope st_Rooms_copy) f cdv A outer s H E) (WD E) := takes_of rfl rfl rfl rfl
  exact (pss_cons (ps_set (i := 3) sc.nd rfl (Or.inl rfl) (pe_mt D_Rooms_table_of tk (hr.mono (by decide)) (pv 0) (pa_cons (pv 1) pa_nil)))
  (pss_cons (ps_if (pt_cmp (pc_din (hu_of hr) (pv 2) (pe_f T.c_Paging T.n_Paging_tables (pe_f T.c_Rooms T.n_Rooms_paging (pv 0))))) (pss_one (ps_rz T.e_Taken rfl rfl tk rfl)) pss_nil)
  (pss_cons (ps_expr (pe_mt D_Rooms_ask_room tk (hr.mono (by decide)) (pv 0) (pa_cons (pe_callB call_len (by rfl) T.b_len PySem.boot_len (pa_cons (pe_mt0 D_Table_pages tk (hr.mono (by decide)) (pv 3)) pa_nil)) pa_nil)))
  (pss_cons (ps_dput (hu_of hr) (pe_f T.c_Paging T.n_Paging_tables (pe_f T.c_Rooms T.n_Rooms_paging (pv 0))) (pv 2) (pe_mk0 D_Table___init__ tk (hr.mono (by decide)) rfl) rfl)
  (pss_one (ps_for (passes_of rfl) rfl (pi_list (pe_mt0 D_Table_pages tk (hr.mono (by decide)) (pv 3))) (pg_name (i := 4) sc.nd rfl (Or.inl rfl)) (pss_one (ps_expr (pe_mt D_Paging_share tk (hr.mono (by decide)) (pe_f T.c_Rooms T.n_Rooms_paging (pv 0)) (pa_cons (pe_tup (pa_cons (pv 2) (pa_cons (pv 4) pa_nil))) (pa_cons (pe_mt D_Table_get tk (hr.mono (by decide)) (pv 3) (pa_cons (pv 4) pa_nil)) pa_nil)))))))))))

abbrev st_Paging_frame_taken : Stmt := inClass (top 13) 8
theorem sc_Paging_frame_taken : FnScope n_Paging_frame_taken ["self"] (defScope st_Paging_frame_taken) := ⟨rfl, rfl, rfl, by decide +kernel, rfl, by decide +kernel, by decide +kernel⟩
theorem ok_Paging_frame_taken {f : Addr} {fd : FuncData} (F : FnP K "frame_taken" "Paging.frame_taken" st_Paging_frame_taken f fd) (T : Txt K mg) (D_Store_free : MtAt P w K mg base CX0 1 (c_Store K) "free" (sp_Store_free K)) (D_Paging_put_out : MtAt P w K mg base CX0 5 (c_Paging K) "put_out" (sp_Paging_put_out K)) (D_Store_take : MtAt P w K mg base CX0 1 (c_Store K) "take" (sp_Store_take K))
    (len : ∀ vs H Q E, sp_Paging_frame_taken K vs H Q E → vs.length = 1) (pure : ∀ vs H Q E, sp_Paging_frame_taken K vs H Q E → t_Paging_frame_taken K (WD E) ⟨fun _ H' => Q .non H', Q, fun _ _ => False, fun _ _ => False⟩ (start n_Paging_frame_taken vs) H) :
    FnOk P w K mg base (L2.CX P w) 6 f fd ["self"] (sp_Paging_frame_taken K) := by
  have sc := sc_Paging_frame_taken
  refine F.ok sc len fun cdv A outer s H vs Q E hr h => ⟨t_Paging_frame_taken K (WD E), ?_, pure vs H Q E h⟩
  have tk : Takes (cxOf (L2.CX P w) P w K mg base n_Paging_frame_taken "Paging.frame_taken" (defScope st_Paging_frame_taken) f cdv A outer s H E) (WD E) := takes_of rfl rfl rfl rfl
  exact (pss_cons (ps_if (pt_cmpR op_eq (pe_mt0 D_Store_free tk (hr.mono (by decide)) (pe_dget (hu_of hr) (pe_f T.c_Paging T.n_Paging_stores (pv 0)) pe_str (fun _ _ => rfl))) pe_int (nomark _)) (pss_one (ps_expr (pe_mt0 D_Paging_put_out tk (hr.mono (by decide)) (pv 0)))) pss_nil)
  (pss_one (ps_ret (pe_tup (pa_cons pe_str (pa_cons (pe_mt0 D_Store_take tk (hr.mono (by decide)) (pe_dget (hu_of hr) (pe_f T.c_Paging T.n_Paging_stores (pv 0)) pe_str (fun _ _ => rfl))) pa_nil))))))

abbrev st_Paging_fetch : Stmt := inClass (top 13) 9
theorem sc_Paging_fetch : FnScope n_Paging_fetch ["self", "owner"] (defScope st_Paging_fetch) := ⟨rfl, rfl, rfl, by decide +kernel, rfl, by decide +kernel, by decide +kernel⟩
theorem ok_Paging_fetch {f : Addr} {fd : FuncData} (F : FnP K "fetch" "Paging.fetch" st_Paging_fetch f fd) (T : Txt K mg) (D_Paging_entry : MtAt P w K mg base CX0 2 (c_Paging K) "entry" (sp_Paging_entry K)) (D_Paging_lifted : MtAt P w K mg base CX0 4 (c_Paging K) "lifted" (sp_Paging_lifted K)) (D_Paging_settle : MtAt P w K mg base CX0 4 (c_Paging K) "settle" (sp_Paging_settle K)) (D_Paging_frame_taken : MtAt P w K mg base CX0 6 (c_Paging K) "frame_taken" (sp_Paging_frame_taken K))
    (len : ∀ vs H Q E, sp_Paging_fetch K vs H Q E → vs.length = 2) (pure : ∀ vs H Q E, sp_Paging_fetch K vs H Q E → t_Paging_fetch K (WD E) ⟨fun _ H' => Q .non H', Q, fun _ _ => False, fun _ _ => False⟩ (start n_Paging_fetch vs) H) :
    FnOk P w K mg base (L2.CX P w) 7 f fd ["self", "owner"] (sp_Paging_fetch K) := by
  have sc := sc_Paging_fetch
  refine F.ok sc len fun cdv A outer s H vs Q E hr h => ⟨t_Paging_fetch K (WD E), ?_, pure vs H Q E h⟩
  have tk : Takes (cxOf (L2.CX P w) P w K mg base n_Paging_fetch "Paging.fetch" (defScope st_Paging_fetch) f cdv A outer s H E) (WD E) := takes_of rfl rfl rfl rfl
  exact (pss_cons (ps_set (i := 2) sc.nd rfl (Or.inl rfl) (pe_mt D_Paging_entry tk (hr.mono (by decide)) (pv 0) (pa_cons (pv 1) pa_nil)))
  (pss_one (ps_if (pt_cmpR op_eq (pe_ix ix_tup (pv 2) pe_int (fun _ _ => rfl)) pe_str (nomark _)) (pss_cons (ps_asg (pe_mt D_Paging_lifted tk (hr.mono (by decide)) (pv 0) (pa_cons (pv 2) pa_nil)) (pg_tup rfl (pgs_cons (pg_name (i := 3) sc.nd rfl (Or.inl rfl)) (pgs_cons (pg_name (i := 4) sc.nd rfl (Or.inl rfl)) pgs_nil))))
  (pss_one (ps_expr (pe_mt D_Paging_settle tk (hr.mono (by decide)) (pv 0) (pa_cons (pe_mt0 D_Paging_frame_taken tk (hr.mono (by decide)) (pv 0)) (pa_cons (pv 3) (pa_cons (pv 4) pa_nil))))))) pss_nil)))

abbrev st_Paging_part : Stmt := inClass (top 13) 10
theorem sc_Paging_part : FnScope n_Paging_part ["self", "owner"] (defScope st_Paging_part) := ⟨rfl, rfl, rfl, by decide +kernel, rfl, by decide +kernel, by decide +kernel⟩
theorem ok_Paging_part {f : Addr} {fd : FuncData} (F : FnP K "part" "Paging.part" st_Paging_part f fd) (T : Txt K mg) (D_Paging_entry : MtAt P w K mg base CX0 2 (c_Paging K) "entry" (sp_Paging_entry K)) (D_Store_count : MtAt P w K mg base CX0 1 (c_Store K) "count" (sp_Store_count K)) (D_Paging_fetch : MtAt P w K mg base CX0 7 (c_Paging K) "fetch" (sp_Paging_fetch K)) (D_Paging_cells : MtAt P w K mg base CX0 4 (c_Paging K) "cells" (sp_Paging_cells K)) (D_Paging_leave : MtAt P w K mg base CX0 4 (c_Paging K) "leave" (sp_Paging_leave K)) (D_Paging_settle : MtAt P w K mg base CX0 4 (c_Paging K) "settle" (sp_Paging_settle K)) (D_Paging_frame_taken : MtAt P w K mg base CX0 6 (c_Paging K) "frame_taken" (sp_Paging_frame_taken K))
    (len : ∀ vs H Q E, sp_Paging_part K vs H Q E → vs.length = 2) (pure : ∀ vs H Q E, sp_Paging_part K vs H Q E → t_Paging_part K (WD E) ⟨fun _ H' => Q .non H', Q, fun _ _ => False, fun _ _ => False⟩ (start n_Paging_part vs) H) :
    FnOk P w K mg base (L2.CX P w) 8 f fd ["self", "owner"] (sp_Paging_part K) := by
  have sc := sc_Paging_part
  refine F.ok sc len fun cdv A outer s H vs Q E hr h => ⟨t_Paging_part K (WD E), ?_, pure vs H Q E h⟩
  have tk : Takes (cxOf (L2.CX P w) P w K mg base n_Paging_part "Paging.part" (defScope st_Paging_part) f cdv A outer s H E) (WD E) := takes_of rfl rfl rfl rfl
  exact (pss_cons (ps_set (i := 2) sc.nd rfl (Or.inl rfl) (pe_mt D_Paging_entry tk (hr.mono (by decide)) (pv 0) (pa_cons (pv 1) pa_nil)))
  (pss_cons (ps_if (PW.pt (pw_and (pt_cmpR (op_neD (hu64 hr)) (pv 2) (pe_gref rfl T.g_BLANK) (nomark _)) (pw_and1 (pt_cmpR op_eq (pe_mt D_Store_count tk (hr.mono (by decide)) (pe_dget (hu_of hr) (pe_f T.c_Paging T.n_Paging_stores (pv 0)) (pe_ix ix_tup (pv 2) pe_int (fun _ _ => rfl)) (fun _ _ => rfl)) (pa_cons (pe_ix ix_tup (pv 2) pe_int (fun _ _ => rfl)) pa_nil)) pe_int (nomark _))))) (pss_cons (ps_expr (pe_mt D_Paging_fetch tk (hr.mono (by decide)) (pv 0) (pa_cons (pv 1) pa_nil)))
  (pss_one ps_retN)) pss_nil)
  (pss_cons (ps_set (i := 3) sc.nd rfl (Or.inl rfl) (pe_mt D_Paging_cells tk (hr.mono (by decide)) (pv 0) (pa_cons (pv 1) pa_nil)))
  (pss_cons (ps_expr (pe_mt D_Paging_leave tk (hr.mono (by decide)) (pv 0) (pa_cons (pv 1) pa_nil)))
  (pss_one (ps_expr (pe_mt D_Paging_settle tk (hr.mono (by decide)) (pv 0) (pa_cons (pe_mt0 D_Paging_frame_taken tk (hr.mono (by decide)) (pv 0)) (pa_cons (pv 3) (pa_cons (pe_lst (pa_cons (pv 1) pa_nil)) pa_nil))))))))))

abbrev st_Rooms_peek : Stmt := inClass (top 21) 11
theorem sc_Rooms_peek : FnScope n_Rooms_peek ["self", "task", "address", "many"] (defScope st_Rooms_peek) := ⟨rfl, rfl, rfl, by decide +kernel, rfl, by decide +kernel, by decide +kernel⟩
theorem ok_Rooms_peek {f : Addr} {fd : FuncData} (F : FnP K "peek" "Rooms.peek" st_Rooms_peek f fd) (T : Txt K mg) (D_Rooms_stretches : MtAt P w K mg base (L2.CX P w) 3 (c_Rooms K) "stretches" (sp_Rooms_stretches K)) (D_Paging_fetch : MtAt P w K mg base CX0 7 (c_Paging K) "fetch" (sp_Paging_fetch K)) (D_Paging_cells : MtAt P w K mg base CX0 4 (c_Paging K) "cells" (sp_Paging_cells K))
    (len : ∀ vs H Q E, sp_Rooms_peek K vs H Q E → vs.length = 4) (pure : ∀ vs H Q E, sp_Rooms_peek K vs H Q E → t_Rooms_peek K (WD E) ⟨fun _ H' => Q .non H', Q, fun _ _ => False, fun _ _ => False⟩ (start n_Rooms_peek vs) H) :
    FnOk P w K mg base (L2.CX P w) 8 f fd ["self", "task", "address", "many"] (sp_Rooms_peek K) := by
  have sc := sc_Rooms_peek
  refine F.ok sc len fun cdv A outer s H vs Q E hr h => ⟨t_Rooms_peek K (WD E), ?_, pure vs H Q E h⟩
  have tk : Takes (cxOf (L2.CX P w) P w K mg base n_Rooms_peek "Rooms.peek" (defScope st_Rooms_peek) f cdv A outer s H E) (WD E) := takes_of rfl rfl rfl rfl
  exact (pss_cons (ps_set (i := 4) sc.nd rfl (Or.inl rfl) (pe_lst pa_nil))
  (pss_cons (ps_for (passes_of rfl) rfl (pi_list (pe_mt D_Rooms_stretches tk (hr.mono (by decide)) (pv 0) (pa_cons (pv 1) (pa_cons (pv 2) (pa_cons (pv 3) pa_nil))))) (pg_tup rfl (pgs_cons (pg_name (i := 5) sc.nd rfl (Or.inl rfl)) (pgs_cons (pg_name (i := 6) sc.nd rfl (Or.inl rfl)) (pgs_cons (pg_name (i := 7) sc.nd rfl (Or.inl rfl)) pgs_nil)))) (pss_cons (ps_expr (pe_mt D_Paging_fetch tk (hr.mono (by decide)) (pe_f T.c_Rooms T.n_Rooms_paging (pv 0)) (pa_cons (pe_tup (pa_cons (pv 1) (pa_cons (pv 5) pa_nil))) pa_nil)))
  (pss_one (ps_expr (pe_bm PySem.F.plainAttrs_list PySem.F.slot_list_extend PySem.F.type_list_extend mt_extend (pv 4) (pa_cons (pe_slice sl_list (pe_mt D_Paging_cells tk (hr.mono (by decide)) (pe_f T.c_Rooms T.n_Rooms_paging (pv 0)) (pa_cons (pe_tup (pa_cons (pv 1) (pa_cons (pv 5) pa_nil))) pa_nil)) (po_some (pv 6)) (po_some (pv 7))) pa_nil))))))
  (pss_one (ps_ret (pv 4)))))

abbrev st_Rooms_poke : Stmt := inClass (top 21) 12
theorem sc_Rooms_poke : FnScope n_Rooms_poke ["self", "task", "address", "cells"] (defScope st_Rooms_poke) := ⟨rfl, rfl, rfl, by decide +kernel, rfl, by decide +kernel, by decide +kernel⟩
theorem ok_Rooms_poke {f : Addr} {fd : FuncData} (F : FnP K "poke" "Rooms.poke" st_Rooms_poke f fd) (T : Txt K mg) (D_Rooms_stretches : MtAt P w K mg base (L2.CX P w) 3 (c_Rooms K) "stretches" (sp_Rooms_stretches K)) (D_Paging_part : MtAt P w K mg base CX0 8 (c_Paging K) "part" (sp_Paging_part K)) (D_Paging_cells : MtAt P w K mg base CX0 4 (c_Paging K) "cells" (sp_Paging_cells K)) (D_Paging_put : MtAt P w K mg base CX0 4 (c_Paging K) "put" (sp_Paging_put K))
    (len : ∀ vs H Q E, sp_Rooms_poke K vs H Q E → vs.length = 4) (pure : ∀ vs H Q E, sp_Rooms_poke K vs H Q E → t_Rooms_poke K (WD E) ⟨fun _ H' => Q .non H', Q, fun _ _ => False, fun _ _ => False⟩ (start n_Rooms_poke vs) H) :
    FnOk P w K mg base (L2.CX P w) 9 f fd ["self", "task", "address", "cells"] (sp_Rooms_poke K) := by
  have sc := sc_Rooms_poke
  refine F.ok sc len fun cdv A outer s H vs Q E hr h => ⟨t_Rooms_poke K (WD E), ?_, pure vs H Q E h⟩
  have tk : Takes (cxOf (L2.CX P w) P w K mg base n_Rooms_poke "Rooms.poke" (defScope st_Rooms_poke) f cdv A outer s H E) (WD E) := takes_of rfl rfl rfl rfl
  exact (pss_cons (ps_set (i := 4) sc.nd rfl (Or.inl rfl) (pe_callTy call_list_of (by rfl) T.b_list (by decide +kernel) (pa_cons (pv 3) pa_nil)))
  (pss_one (ps_for (passes_of rfl) rfl (pi_list (pe_mt D_Rooms_stretches tk (hr.mono (by decide)) (pv 0) (pa_cons (pv 1) (pa_cons (pv 2) (pa_cons (pe_callB call_len (by rfl) T.b_len PySem.boot_len (pa_cons (pv 4) pa_nil)) pa_nil))))) (pg_tup rfl (pgs_cons (pg_name (i := 5) sc.nd rfl (Or.inl rfl)) (pgs_cons (pg_name (i := 6) sc.nd rfl (Or.inl rfl)) (pgs_cons (pg_name (i := 7) sc.nd rfl (Or.inl rfl)) pgs_nil)))) (pss_cons (ps_set (i := 8) sc.nd rfl (Or.inl rfl) (pe_tup (pa_cons (pv 1) (pa_cons (pv 5) pa_nil))))
  (pss_cons (ps_expr (pe_mt D_Paging_part tk (hr.mono (by decide)) (pe_f T.c_Rooms T.n_Rooms_paging (pv 0)) (pa_cons (pv 8) pa_nil)))
  (pss_cons (ps_set (i := 9) sc.nd rfl (Or.inl rfl) (pe_mt D_Paging_cells tk (hr.mono (by decide)) (pe_f T.c_Rooms T.n_Rooms_paging (pv 0)) (pa_cons (pv 8) pa_nil)))
  (pss_cons (ps_expr (pe_mt D_Paging_put tk (hr.mono (by decide)) (pe_f T.c_Rooms T.n_Rooms_paging (pv 0)) (pa_cons (pv 8) (pa_cons (pe_op op_cat (pe_op op_cat (pe_slice sl_list (pv 9) po_none (po_some (pv 6))) (pe_slice sl_list (pv 4) po_none (po_some (pe_op op_sub (pv 7) (pv 6))))) (pe_slice sl_list (pv 9) (po_some (pv 7)) po_none)) pa_nil))))
  (pss_one (ps_set (i := 4) sc.nd rfl (Or.inl rfl) (pe_slice sl_list (pv 4) (po_some (pe_op op_sub (pv 7) (pv 6))) po_none))))))))))

abbrev st__law_done : Stmt := top 26
theorem sc__law_done : FnScope n__law_done ["rooms", "deed"] (defScope st__law_done) := ⟨rfl, rfl, rfl, by decide +kernel, rfl, by decide +kernel, by decide +kernel⟩
theorem ok__law_done {f : Addr} {fd : FuncData} (F : FnP K "_law_done" "_law_done" st__law_done f fd) (T : Txt K mg) (D_Rooms_begin : MtAt P w K mg base (L2.CX P w) 3 (c_Rooms K) "begin" (sp_Rooms_begin K)) (D_Rooms_close : MtAt P w K mg base (L2.CX P w) 5 (c_Rooms K) "close" (sp_Rooms_close K)) (D_Rooms_map : MtAt P w K mg base (L2.CX P w) 4 (c_Rooms K) "map" (sp_Rooms_map K)) (D_Rooms_drop : MtAt P w K mg base (L2.CX P w) 5 (c_Rooms K) "drop" (sp_Rooms_drop K)) (D_Rooms_peek : MtAt P w K mg base (L2.CX P w) 8 (c_Rooms K) "peek" (sp_Rooms_peek K)) (D_Rooms_poke : MtAt P w K mg base (L2.CX P w) 9 (c_Rooms K) "poke" (sp_Rooms_poke K)) (D_Rooms_copy : MtAt P w K mg base (L2.CX P w) 5 (c_Rooms K) "copy" (sp_Rooms_copy K))
    (len : ∀ vs H Q E, sp__law_done K vs H Q E → vs.length = 2) (pure : ∀ vs H Q E, sp__law_done K vs H Q E → t__law_done K (WD E) ⟨fun _ H' => Q .non H', Q, fun _ _ => False, fun _ _ => False⟩ (start n__law_done vs) H) :
    FnOk P w K mg base (L2.CX P w) 10 f fd ["rooms", "deed"] (sp__law_done K) := by
  have sc := sc__law_done
  refine F.ok sc len fun cdv A outer s H vs Q E hr h => ⟨t__law_done K (WD E), ?_, pure vs H Q E h⟩
  have tk : Takes (cxOf (L2.CX P w) P w K mg base n__law_done "_law_done" (defScope st__law_done) f cdv A outer s H E) (WD E) := takes_of rfl rfl rfl rfl
  exact (pss_cons (ps_set (i := 2) sc.nd rfl (Or.inl rfl) pe_bl)
  (pss_cons (ps_try_only rfl rfl ⟨by rfl, by decide, .inl T.e_KernelError.g⟩ tk (fun W1 pn1 xe1 tk1 pp1 => (pss_one (ps_if (pt_cmpR op_eq (pe_ix ix_tup (pv 1) pe_int (fun _ _ => rfl)) pe_str (nomark _)) (pss_one (ps_expr (pe_mt D_Rooms_begin tk1 (hr.mono (by decide)) (pv 0) (pa_cons (pe_ix ix_tup (pv 1) pe_int (fun _ _ => rfl)) pa_nil)))) (pss_one (ps_if (pt_cmpR op_eq (pe_ix ix_tup (pv 1) pe_int (fun _ _ => rfl)) pe_str (nomark _)) (pss_one (ps_expr (pe_mt D_Rooms_close tk1 (hr.mono (by decide)) (pv 0) (pa_cons (pe_ix ix_tup (pv 1) pe_int (fun _ _ => rfl)) pa_nil)))) (pss_one (ps_if (pt_cmpR op_eq (pe_ix ix_tup (pv 1) pe_int (fun _ _ => rfl)) pe_str (nomark _)) (pss_one (ps_expr (pe_mt D_Rooms_map tk1 (hr.mono (by decide)) (pv 0) (pa_cons (pe_ix ix_tup (pv 1) pe_int (fun _ _ => rfl)) (pa_cons (pe_ix ix_tup (pv 1) pe_int (fun _ _ => rfl)) (pa_cons (pe_ix ix_tup (pv 1) pe_int (fun _ _ => rfl)) pa_nil)))))) (pss_one (ps_if (pt_cmpR op_eq (pe_ix ix_tup (pv 1) pe_int (fun _ _ => rfl)) pe_str (nomark _)) (pss_one (ps_expr (pe_mt D_Rooms_drop tk1 (hr.mono (by decide)) (pv 0) (pa_cons (pe_ix ix_tup (pv 1) pe_int (fun _ _ => rfl)) (pa_cons (pe_ix ix_tup (pv 1) pe_int (fun _ _ => rfl)) (pa_cons (pe_ix ix_tup (pv 1) pe_int (fun _ _ => rfl)) pa_nil)))))) (pss_one (ps_if (pt_cmpR op_eq (pe_ix ix_tup (pv 1) pe_int (fun _ _ => rfl)) pe_str (nomark _)) (pss_one (ps_expr (pe_mt D_Rooms_peek tk1 (hr.mono (by decide)) (pv 0) (pa_cons (pe_ix ix_tup (pv 1) pe_int (fun _ _ => rfl)) (pa_cons (pe_ix ix_tup (pv 1) pe_int (fun _ _ => rfl)) (pa_cons (pe_ix ix_tup (pv 1) pe_int (fun _ _ => rfl)) pa_nil)))))) (pss_one (ps_if (pt_cmpR op_eq (pe_ix ix_tup (pv 1) pe_int (fun _ _ => rfl)) pe_str (nomark _)) (pss_one (ps_expr (pe_mt D_Rooms_poke tk1 (hr.mono (by decide)) (pv 0) (pa_cons (pe_ix ix_tup (pv 1) pe_int (fun _ _ => rfl)) (pa_cons (pe_ix ix_tup (pv 1) pe_int (fun _ _ => rfl)) (pa_cons (pe_ix ix_tup (pv 1) pe_int (fun _ _ => rfl)) pa_nil)))))) (pss_one (ps_expr (pe_mt D_Rooms_copy tk1 (hr.mono (by decide)) (pv 0) (pa_cons (pe_ix ix_tup (pv 1) pe_int (fun _ _ => rfl)) (pa_cons (pe_ix ix_tup (pv 1) pe_int (fun _ _ => rfl)) pa_nil)))))))))))))))))) (fun a1 oe1 cls1 d1 pn1 hz1 hf1 => (pss_one (ps_set (i := 2) sc.nd rfl (Or.inl rfl) pe_bl))))
  (pss_one (ps_ret (pv 2)))))

abbrev st_law : Stmt := top 28
theorem sc_law : FnScope n_law ["script"] (defScope st_law) := ⟨rfl, rfl, rfl, by decide +kernel, rfl, by decide +kernel, by decide +kernel⟩
theorem ok_law {f : Addr} {fd : FuncData} (F : FnP K "law" "law" st_law f fd) (T : Txt K mg) (D__law_tape : FnAt P w K mg base CX0 1 "_law_tape" (sp__law_tape K)) (D_Rooms___init__ : MkAt P w K mg base CX0 5 "Rooms" (c_Rooms K) (sp_Rooms___init__ K)) (D__law_draw : FnAt P w K mg base CX0 1 "_law_draw" (sp__law_draw K)) (D_Rooms_begin : MtAt P w K mg base (L2.CX P w) 3 (c_Rooms K) "begin" (sp_Rooms_begin K)) (D__law_deed : FnAt P w K mg base CX0 2 "_law_deed" (sp__law_deed K)) (D__law_done : FnAt P w K mg base CX0 10 "_law_done" (sp__law_done K)) (D__law_last : FnAt P w K mg base CX0 1 "_law_last" (sp__law_last K)) (D_Rooms_place : MtAt P w K mg base CX0 2 (c_Rooms K) "place" (sp_Rooms_place K))
    (len : ∀ vs H Q E, sp_law K vs H Q E → vs.length = 1) (pure : ∀ vs H Q E, sp_law K vs H Q E → t_law K (WD E) ⟨fun _ H' => Q .non H', Q, fun _ _ => False, fun _ _ => False⟩ (start n_law vs) H) :
    FnOk P w K mg base (L2.CX P w) 11 f fd ["script"] (sp_law K) := by
  have sc := sc_law
  refine F.ok sc len fun cdv A outer s H vs Q E hr h => ⟨t_law K (WD E), ?_, pure vs H Q E h⟩
  have tk : Takes (cxOf (L2.CX P w) P w K mg base n_law "law" (defScope st_law) f cdv A outer s H E) (WD E) := takes_of rfl rfl rfl rfl
  exact (pss_cons (ps_for (passes_of rfl) rfl (pi_range1 rfl T.b_range (pa_cons (pe_callB (call_max2 rfl) (by rfl) T.b_max (by decide +kernel) (pa_cons pe_int (pa_cons (pe_callB (call_min2 rfl) (by rfl) T.b_min (by decide +kernel) (pa_cons (pe_callB call_len (by rfl) T.b_len PySem.boot_len (pa_cons (pv 0) pa_nil)) (pa_cons pe_int pa_nil))) pa_nil))) pa_nil)) (pg_name (i := 1) sc.nd rfl (Or.inl rfl)) (pss_cons (ps_set (i := 2) sc.nd rfl (Or.inl rfl) (pe_fn D__law_tape tk (hr.mono (by decide)) rfl (pa_cons (pv 0) (pa_cons (pv 1) pa_nil))))
  (pss_cons (ps_par (i := 3) (j := 4) rfl sc.nd rfl rfl (by decide) rfl rfl (pa_cons (pe_mk D_Rooms___init__ tk (hr.mono (by decide)) rfl (pa_cons (pe_op op_add pe_int (pe_fn D__law_draw tk (hr.mono (by decide)) rfl (pa_cons (pv 2) (pa_cons pe_int pa_nil)))) (pa_cons (pe_fn D__law_draw tk (hr.mono (by decide)) rfl (pa_cons (pv 2) (pa_cons pe_int pa_nil))) pa_nil))) (pa_cons pe_non pa_nil)) (by first | rfl | decide +kernel))
  (pss_cons (ps_set (i := 5) sc.nd rfl (Or.inl rfl) (pe_lst (pa_cons pe_int (pa_cons (pe_op op_add pe_int (pe_fn D__law_draw tk (hr.mono (by decide)) rfl (pa_cons (pv 2) (pa_cons pe_int pa_nil)))) (pa_cons (pe_op op_add (pe_op op_pow pe_int pe_int) (pe_fn D__law_draw tk (hr.mono (by decide)) rfl (pa_cons (pv 2) (pa_cons pe_int pa_nil)))) pa_nil)))))
  (pss_cons (ps_for (passes_of rfl) rfl (pi_list (pe_slice sl_list (pv 5) po_none (po_some (pe_op op_add pe_int (pe_fn D__law_draw tk (hr.mono (by decide)) rfl (pa_cons (pv 2) (pa_cons pe_int pa_nil))))))) (pg_name (i := 6) sc.nd rfl (Or.inl rfl)) (pss_one (ps_expr (pe_mt D_Rooms_begin tk (hr.mono (by decide)) (pv 3) (pa_cons (pv 6) pa_nil)))))
  (pss_one (ps_for (passes_of rfl) rfl (pi_range1 rfl T.b_range (pa_cons pe_int pa_nil)) (pg_name (i := 7) sc.nd rfl (Or.inl rfl)) (pss_cons (ps_set (i := 8) sc.nd rfl (Or.inl rfl) (pe_fn D__law_deed tk (hr.mono (by decide)) rfl (pa_cons (pv 2) (pa_cons (pv 5) pa_nil))))
  (pss_cons (ps_if (pt_val (pe_fn D__law_done tk (hr.mono (by decide)) rfl (pa_cons (pv 3) (pa_cons (pv 8) pa_nil)))) (pss_one (ps_set (i := 4) sc.nd rfl (Or.inl rfl) (pe_fn D__law_last tk (hr.mono (by decide)) rfl (pa_cons (pv 4) (pa_cons (pv 8) pa_nil))))) pss_nil)
  (pss_one (ps_if (pt_cmpR op_notN (pv 4) pe_non (nomark _)) (pss_cons (ps_set (i := 9) sc.nd rfl (Or.inl rfl) (pe_mt D_Rooms_place tk (hr.mono (by decide)) (pv 3) (pa_cons (pe_ix ix_tup (pv 4) pe_int (fun _ _ => rfl)) (pa_cons (pe_ix ix_tup (pv 4) pe_int (fun _ _ => rfl)) pa_nil))))
  (pss_one (ps_if (PW.pt (pw_or (pt_not (pt_val (pe_callB call_isi (by rfl) T.b_isinstance (by decide +kernel) (pa_cons (pv 9) (pa_cons (pe_bltn rfl T.b_tuple (by decide +kernel) rfl) pa_nil))))) (pw_or1 (PW.pt (pw_and (pt_cmpR (op_neD (hu64 hr)) (pv 9) (pe_tup (pa_cons pe_str pa_nil)) (nomark _)) (pw_and1 (pt_cmpR op_ne (pe_ix ix_tup (pv 9) pe_int (fun _ _ => rfl)) pe_str (nomark _)))))))) (pss_one (ps_ret pe_bl)) pss_nil))) pss_nil)))))))))))
  (pss_one (ps_ret pe_bl)))
end
set_option Elab.async false
set_option linter.all false
set_option maxRecDepth 100000
set_option maxHeartbeats 1000000
/-! ### the head's facts with further ones of one's own -/
abbrev AlX : Type := He.AlD × Bool
def obsX (fa : List He.Fa) (fn : List He.DefD) (ex : PySem.W.Frag → Bool) (K : PySem.W.Frag) : AlX := (He.obsD fa fn K, ex K)
def obsXG (n : Nat) (fa : List He.Fa) (fn : List He.DefD) (ex : PySem.W.Frag → Bool) (g : Addr → Option Obj) : AlX := obsX fa fn ex (He.frG g (He.asD g n))
def hookX (n : Nat) (fa : List He.Fa) (fn : List He.DefD) (ex : PySem.W.Frag → Bool) : PySem.W.Hook where
  α := AlX
  obs := fun s => obsXG n fa fn ex s.heap.get?
  val := fun _ => (He.valD fn, true)
  says := fun _ h => ∃ K : PySem.W.Frag, K.In h ∧ He.SaysD fa fn K ∧ ex K = true
  of := fun _ _ e => ⟨_, He.frG_in, congrArg Prod.fst e, congrArg Prod.snd e⟩
  keeps := fun _ _ _ ⟨K, hK, c⟩ k => ⟨K, PySem.W.Frag.In.keeps hK k, c⟩
theorem obsXG_eq {n : Nat} {fa : List He.Fa} {fn : List He.DefD} {ex : PySem.W.Frag → Bool} {g : Addr → Option Obj} {s : Shared} (h : ∀ a, g a = s.heap.get? a) : obsXG n fa fn ex g = (hookX n fa fn ex).obs s := by
  have e : g = s.heap.get? := funext h
  rw [e] <;> rfl
set_option Elab.async false
set_option linter.all false
set_option maxRecDepth 100000
set_option maxHeartbeats 0
def dd_Store___init__ : He.DefD := ⟨("Store", some "__init__"), "__init__", "Store.__init__", defArgs st_Store___init__, defBody st_Store___init__, defScope st_Store___init__, [], []⟩
def dd_Store_take : He.DefD := ⟨("Store", some "take"), "take", "Store.take", defArgs st_Store_take, defBody st_Store_take, defScope st_Store_take, [], []⟩
def dd_Store_count : He.DefD := ⟨("Store", some "count"), "count", "Store.count", defArgs st_Store_count, defBody st_Store_count, defScope st_Store_count, [], []⟩
def dd_Store_free : He.DefD := ⟨("Store", some "free"), "free", "Store.free", defArgs st_Store_free, defBody st_Store_free, defScope st_Store_free, [], []⟩
def dd_Table___init__ : He.DefD := ⟨("Table", some "__init__"), "__init__", "Table.__init__", defArgs st_Table___init__, defBody st_Table___init__, defScope st_Table___init__, [], []⟩
def dd_Table_get : He.DefD := ⟨("Table", some "get"), "get", "Table.get", defArgs st_Table_get, defBody st_Table_get, defScope st_Table_get, [], []⟩
def dd_Table_lay : He.DefD := ⟨("Table", some "lay"), "lay", "Table.lay", defArgs st_Table_lay, defBody st_Table_lay, defScope st_Table_lay, [], []⟩
def dd_Table_clear : He.DefD := ⟨("Table", some "clear"), "clear", "Table.clear", defArgs st_Table_clear, defBody st_Table_clear, defScope st_Table_clear, [], []⟩
def dd_Table_pages : He.DefD := ⟨("Table", some "pages"), "pages", "Table.pages", defArgs st_Table_pages, defBody st_Table_pages, defScope st_Table_pages, [], []⟩
def dd_pages_asked : He.DefD := ⟨("pages_asked", none), "pages_asked", "pages_asked", defArgs st_pages_asked, defBody st_pages_asked, defScope st_pages_asked, [], []⟩
def dd_stretches_of : He.DefD := ⟨("stretches_of", none), "stretches_of", "stretches_of", defArgs st_stretches_of, defBody st_stretches_of, defScope st_stretches_of, [], []⟩
def dd_Rooms_table_of : He.DefD := ⟨("Rooms", some "table_of"), "table_of", "Rooms.table_of", defArgs st_Rooms_table_of, defBody st_Rooms_table_of, defScope st_Rooms_table_of, [], []⟩
def dd__law_tape : He.DefD := ⟨("_law_tape", none), "_law_tape", "_law_tape", defArgs st__law_tape, defBody st__law_tape, defScope st__law_tape, [], []⟩
def dd__law_draw : He.DefD := ⟨("_law_draw", none), "_law_draw", "_law_draw", defArgs st__law_draw, defBody st__law_draw, defScope st__law_draw, [], []⟩
def dd__law_last : He.DefD := ⟨("_law_last", none), "_law_last", "_law_last", defArgs st__law_last, defBody st__law_last, defScope st__law_last, [], []⟩
def dd_Store_look_taken : He.DefD := ⟨("Store", some "look_taken"), "look_taken", "Store.look_taken", defArgs st_Store_look_taken, defBody st_Store_look_taken, defScope st_Store_look_taken, [], []⟩
def dd_Paging_entry : He.DefD := ⟨("Paging", some "entry"), "entry", "Paging.entry", defArgs st_Paging_entry, defBody st_Paging_entry, defScope st_Paging_entry, [], []⟩
def dd_Paging_lay : He.DefD := ⟨("Paging", some "lay"), "lay", "Paging.lay", defArgs st_Paging_lay, defBody st_Paging_lay, defScope st_Paging_lay, [], []⟩
def dd_Rooms_held : He.DefD := ⟨("Rooms", some "held"), "held", "Rooms.held", defArgs st_Rooms_held, defBody st_Rooms_held, defScope st_Rooms_held, [], []⟩
def dd_Rooms_look_mapped : He.DefD := ⟨("Rooms", some "look_mapped"), "look_mapped", "Rooms.look_mapped", defArgs st_Rooms_look_mapped, defBody st_Rooms_look_mapped, defScope st_Rooms_look_mapped, [], []⟩
def dd_Rooms_place : He.DefD := ⟨("Rooms", some "place"), "place", "Rooms.place", defArgs st_Rooms_place, defBody st_Rooms_place, defScope st_Rooms_place, [], []⟩
def dd__law_deed : He.DefD := ⟨("_law_deed", none), "_law_deed", "_law_deed", defArgs st__law_deed, defBody st__law_deed, defScope st__law_deed, [], []⟩
def dd_Store_more : He.DefD := ⟨("Store", some "more"), "more", "Store.more", defArgs st_Store_more, defBody st_Store_more, defScope st_Store_more, [], []⟩
def dd_Store_less : He.DefD := ⟨("Store", some "less"), "less", "Store.less", defArgs st_Store_less, defBody st_Store_less, defScope st_Store_less, [], []⟩
def dd_Store_cells : He.DefD := ⟨("Store", some "cells"), "cells", "Store.cells", defArgs st_Store_cells, defBody st_Store_cells, defScope st_Store_cells, [], []⟩
def dd_Store_put : He.DefD := ⟨("Store", some "put"), "put", "Store.put", defArgs st_Store_put, defBody st_Store_put, defScope st_Store_put, [], []⟩
def dd_Paging___init__ : He.DefD := ⟨("Paging", some "__init__"), "__init__", "Paging.__init__", defArgs st_Paging___init__, defBody st_Paging___init__, defScope st_Paging___init__, [], []⟩
def dd_Rooms_begin : He.DefD := ⟨("Rooms", some "begin"), "begin", "Rooms.begin", defArgs st_Rooms_begin, defBody st_Rooms_begin, defScope st_Rooms_begin, [], []⟩
def dd_Rooms_ask_room : He.DefD := ⟨("Rooms", some "ask_room"), "ask_room", "Rooms.ask_room", defArgs st_Rooms_ask_room, defBody st_Rooms_ask_room, defScope st_Rooms_ask_room, [], []⟩
def dd_Rooms_stretches : He.DefD := ⟨("Rooms", some "stretches"), "stretches", "Rooms.stretches", defArgs st_Rooms_stretches, defBody st_Rooms_stretches, defScope st_Rooms_stretches, [], []⟩
def dd_Paging_share : He.DefD := ⟨("Paging", some "share"), "share", "Paging.share", defArgs st_Paging_share, defBody st_Paging_share, defScope st_Paging_share, [], []⟩
def dd_Paging_leave : He.DefD := ⟨("Paging", some "leave"), "leave", "Paging.leave", defArgs st_Paging_leave, defBody st_Paging_leave, defScope st_Paging_leave, [], []⟩
def dd_Paging_lifted : He.DefD := ⟨("Paging", some "lifted"), "lifted", "Paging.lifted", defArgs st_Paging_lifted, defBody st_Paging_lifted, defScope st_Paging_lifted, [], []⟩
def dd_Paging_settle : He.DefD := ⟨("Paging", some "settle"), "settle", "Paging.settle", defArgs st_Paging_settle, defBody st_Paging_settle, defScope st_Paging_settle, [], []⟩
def dd_Paging_cells : He.DefD := ⟨("Paging", some "cells"), "cells", "Paging.cells", defArgs st_Paging_cells, defBody st_Paging_cells, defScope st_Paging_cells, [], []⟩
def dd_Paging_put : He.DefD := ⟨("Paging", some "put"), "put", "Paging.put", defArgs st_Paging_put, defBody st_Paging_put, defScope st_Paging_put, [], []⟩
def dd_Rooms_map : He.DefD := ⟨("Rooms", some "map"), "map", "Rooms.map", defArgs st_Rooms_map, defBody st_Rooms_map, defScope st_Rooms_map, [], []⟩
def dd_Paging_put_out : He.DefD := ⟨("Paging", some "put_out"), "put_out", "Paging.put_out", defArgs st_Paging_put_out, defBody st_Paging_put_out, defScope st_Paging_put_out, [], []⟩
def dd_Rooms___init__ : He.DefD := ⟨("Rooms", some "__init__"), "__init__", "Rooms.__init__", defArgs st_Rooms___init__, defBody st_Rooms___init__, defScope st_Rooms___init__, [], []⟩
def dd_Rooms_close : He.DefD := ⟨("Rooms", some "close"), "close", "Rooms.close", defArgs st_Rooms_close, defBody st_Rooms_close, defScope st_Rooms_close, [], []⟩
def dd_Rooms_drop : He.DefD := ⟨("Rooms", some "drop"), "drop", "Rooms.drop", defArgs st_Rooms_drop, defBody st_Rooms_drop, defScope st_Rooms_drop, [], []⟩
def dd_Rooms_copy : He.DefD := ⟨("Rooms", some "copy"), "copy", "Rooms.copy", defArgs st_Rooms_copy, defBody st_Rooms_copy, defScope st_Rooms_copy, [], []⟩
def dd_Paging_frame_taken : He.DefD := ⟨("Paging", some "frame_taken"), "frame_taken", "Paging.frame_taken", defArgs st_Paging_frame_taken, defBody st_Paging_frame_taken, defScope st_Paging_frame_taken, [], []⟩
def dd_Paging_fetch : He.DefD := ⟨("Paging", some "fetch"), "fetch", "Paging.fetch", defArgs st_Paging_fetch, defBody st_Paging_fetch, defScope st_Paging_fetch, [], []⟩
def dd_Paging_part : He.DefD := ⟨("Paging", some "part"), "part", "Paging.part", defArgs st_Paging_part, defBody st_Paging_part, defScope st_Paging_part, [], []⟩
def dd_Rooms_peek : He.DefD := ⟨("Rooms", some "peek"), "peek", "Rooms.peek", defArgs st_Rooms_peek, defBody st_Rooms_peek, defScope st_Rooms_peek, [], []⟩
def dd_Rooms_poke : He.DefD := ⟨("Rooms", some "poke"), "poke", "Rooms.poke", defArgs st_Rooms_poke, defBody st_Rooms_poke, defScope st_Rooms_poke, [], []⟩
def dd__law_done : He.DefD := ⟨("_law_done", none), "_law_done", "_law_done", defArgs st__law_done, defBody st__law_done, defScope st__law_done, [], []⟩
def dd_law : He.DefD := ⟨("law", none), "law", "law", defArgs st_law, defBody st_law, defScope st_law, [], []⟩
def hfn0 : List He.DefD := [dd_Store___init__, dd_Store_take, dd_Store_count, dd_Store_free, dd_Table___init__, dd_Table_get, dd_Table_lay, dd_Table_clear, dd_Table_pages, dd_pages_asked, dd_stretches_of, dd_Rooms_table_of, dd__law_tape, dd__law_draw, dd__law_last, dd_Store_look_taken, dd_Paging_entry, dd_Paging_lay, dd_Rooms_held, dd_Rooms_look_mapped, dd_Rooms_place, dd__law_deed, dd_Store_more, dd_Store_less, dd_Store_cells, dd_Store_put, dd_Paging___init__, dd_Rooms_begin, dd_Rooms_ask_room, dd_Rooms_stretches]
def hfn1 : List He.DefD := [dd_Paging_share, dd_Paging_leave, dd_Paging_lifted, dd_Paging_settle, dd_Paging_cells, dd_Paging_put, dd_Rooms_map, dd_Paging_put_out, dd_Rooms___init__, dd_Rooms_close, dd_Rooms_drop, dd_Rooms_copy, dd_Paging_frame_taken, dd_Paging_fetch, dd_Paging_part, dd_Rooms_peek, dd_Rooms_poke, dd__law_done, dd_law]
def hfn : List He.DefD := hfn0 ++ hfn1
def hfa0 : List He.Fa := [.free "abs", .free "any", .free "int", .free "isinstance", .free "len", .free "list", .free "max", .free "min", .free "range", .free "sorted", .free "sum", .free "tuple", .cls "Paging", .cls "Rooms", .cls "Store", .cls "Table", .glo "KernelError", .exc "KernelError", .glo "NoOwner", .exc "NoOwner", .glo "NoPage", .exc "NoPage", .glo "NoRoom", .exc "NoRoom", .glo "NoTask", .exc "NoTask", .glo "Taken", .exc "Taken", .glo "BLANK", .int "PAGES" 64]
def hfa1 : List He.Fa := [.int "PAGE_SIZE" 8, .int "STEP" 8, .noat "Paging" "frames", .noat "Paging" "hand", .noat "Paging" "owners", .noat "Paging" "slots", .noat "Paging" "stores", .noat "Paging" "tables", .noat "Rooms" "paging", .noat "Store" "contents", .noat "Store" "owners", .noat "Table" "firsts", .exm "NoTask" "KernelError" true, .exm "NoPage" "KernelError" true, .exm "NoRoom" "KernelError" true, .exm "Taken" "KernelError" true, .glo "Store", .mkr "Store", .meth "Store" "take", .meth "Store" "count", .meth "Store" "free", .glo "Table", .mkr "Table", .meth "Table" "get", .meth "Table" "lay", .meth "Table" "clear", .meth "Table" "pages", .glo "pages_asked", .glo "stretches_of", .meth "Rooms" "table_of"]
def hfa2 : List He.Fa := [.glo "_law_tape", .glo "_law_draw", .glo "_law_last", .meth "Store" "look_taken", .meth "Paging" "entry", .meth "Paging" "lay", .meth "Rooms" "held", .meth "Rooms" "look_mapped", .meth "Rooms" "place", .glo "_law_deed", .meth "Store" "more", .meth "Store" "less", .meth "Store" "cells", .meth "Store" "put", .glo "Paging", .mkr "Paging", .meth "Rooms" "begin", .meth "Rooms" "ask_room", .meth "Rooms" "stretches", .meth "Paging" "share", .meth "Paging" "leave", .meth "Paging" "lifted", .meth "Paging" "settle", .meth "Paging" "cells", .meth "Paging" "put", .meth "Rooms" "map", .meth "Paging" "put_out", .glo "Rooms", .mkr "Rooms", .meth "Rooms" "close"]
def hfa3 : List He.Fa := [.meth "Rooms" "drop", .meth "Rooms" "copy", .meth "Paging" "frame_taken", .meth "Paging" "fetch", .meth "Paging" "part", .meth "Rooms" "peek", .meth "Rooms" "poke", .glo "_law_done", .glo "law"]
def hfa : List He.Fa := hfa0 ++ hfa1 ++ hfa2 ++ hfa3
def hloose0 : List Str := ["_wall", "KernelError", "NoOwner", "NoTask", "NoPage", "NoRoom", "Taken", "PAGE_SIZE", "Store", "BLANK", "Paging", "STEP", "Table", "PAGES", "pages_asked", "stretches_of", "Rooms", "_law_tape", "_law_draw", "_law_deed", "_law_done", "_law_last"]
def hloose : List Str := hloose0
set_option hygiene false in
local macro_rules | `(tactic| wtm_at "z_len") => `(tactic| repeat (first | exact congrArg List.length h.1 | (obtain ⟨_, h⟩ := h)))
set_option hygiene false in
local macro_rules | `(tactic| wtm_at "z_zero") => `(tactic| repeat (first | exact Tri.zero h | (obtain ⟨x, h⟩ := h; refine ⟨x, ?_⟩)))
theorem len_Store___init__ {K : PySem.W.Frag} : ∀ vs H Q E, sp_Store___init__ K vs H Q E → vs.length = 2 := by
  intro vs H Q E h
  wtm_at "z_len"
theorem zero_Store___init__ {K : PySem.W.Frag} : ∀ vs H Q E, sp_Store___init__ K vs H Q E → sp_Store___init__ K vs H Q (fun _ _ _ => False) := by
  intro vs H Q E h
  wtm_at "z_zero"
theorem len_Store_take {K : PySem.W.Frag} : ∀ vs H Q E, sp_Store_take K vs H Q E → vs.length = 1 := by
  intro vs H Q E h
  wtm_at "z_len"
theorem zero_Store_take {K : PySem.W.Frag} : ∀ vs H Q E, sp_Store_take K vs H Q E → sp_Store_take K vs H Q (fun _ _ _ => False) := by
  intro vs H Q E h
  wtm_at "z_zero"
theorem len_Store_count {K : PySem.W.Frag} : ∀ vs H Q E, sp_Store_count K vs H Q E → vs.length = 2 := by
  intro vs H Q E h
  wtm_at "z_len"
theorem zero_Store_count {K : PySem.W.Frag} : ∀ vs H Q E, sp_Store_count K vs H Q E → sp_Store_count K vs H Q (fun _ _ _ => False) := by
  intro vs H Q E h
  wtm_at "z_zero"
theorem len_Store_free {K : PySem.W.Frag} : ∀ vs H Q E, sp_Store_free K vs H Q E → vs.length = 1 := by
  intro vs H Q E h
  wtm_at "z_len"
theorem zero_Store_free {K : PySem.W.Frag} : ∀ vs H Q E, sp_Store_free K vs H Q E → sp_Store_free K vs H Q (fun _ _ _ => False) := by
  intro vs H Q E h
  wtm_at "z_zero"
theorem len_Table___init__ {K : PySem.W.Frag} : ∀ vs H Q E, sp_Table___init__ K vs H Q E → vs.length = 1 := by
  intro vs H Q E h
  wtm_at "z_len"
theorem zero_Table___init__ {K : PySem.W.Frag} : ∀ vs H Q E, sp_Table___init__ K vs H Q E → sp_Table___init__ K vs H Q (fun _ _ _ => False) := by
  intro vs H Q E h
  wtm_at "z_zero"
theorem len_Table_get {K : PySem.W.Frag} : ∀ vs H Q E, sp_Table_get K vs H Q E → vs.length = 2 := by
  intro vs H Q E h
  wtm_at "z_len"
theorem zero_Table_get {K : PySem.W.Frag} : ∀ vs H Q E, sp_Table_get K vs H Q E → sp_Table_get K vs H Q (fun _ _ _ => False) := by
  intro vs H Q E h
  wtm_at "z_zero"
theorem len_Table_lay {K : PySem.W.Frag} : ∀ vs H Q E, sp_Table_lay K vs H Q E → vs.length = 3 := by
  intro vs H Q E h
  wtm_at "z_len"
theorem zero_Table_lay {K : PySem.W.Frag} : ∀ vs H Q E, sp_Table_lay K vs H Q E → sp_Table_lay K vs H Q (fun _ _ _ => False) := by
  intro vs H Q E h
  wtm_at "z_zero"
theorem len_Table_clear {K : PySem.W.Frag} : ∀ vs H Q E, sp_Table_clear K vs H Q E → vs.length = 2 := by
  intro vs H Q E h
  wtm_at "z_len"
theorem zero_Table_clear {K : PySem.W.Frag} : ∀ vs H Q E, sp_Table_clear K vs H Q E → sp_Table_clear K vs H Q (fun _ _ _ => False) := by
  intro vs H Q E h
  wtm_at "z_zero"
theorem len_Table_pages {K : PySem.W.Frag} : ∀ vs H Q E, sp_Table_pages K vs H Q E → vs.length = 1 := by
  intro vs H Q E h
  wtm_at "z_len"
theorem zero_Table_pages {K : PySem.W.Frag} : ∀ vs H Q E, sp_Table_pages K vs H Q E → sp_Table_pages K vs H Q (fun _ _ _ => False) := by
  intro vs H Q E h
  wtm_at "z_zero"
theorem len_pages_asked {K : PySem.W.Frag} : ∀ vs H Q E, sp_pages_asked K vs H Q E → vs.length = 2 := by
  intro vs H Q E h
  wtm_at "z_len"
theorem len_stretches_of {K : PySem.W.Frag} : ∀ vs H Q E, sp_stretches_of K vs H Q E → vs.length = 2 := by
  intro vs H Q E h
  wtm_at "z_len"
theorem zero_stretches_of {K : PySem.W.Frag} : ∀ vs H Q E, sp_stretches_of K vs H Q E → sp_stretches_of K vs H Q (fun _ _ _ => False) := by
  intro vs H Q E h
  wtm_at "z_zero"
theorem len_Rooms_table_of {K : PySem.W.Frag} : ∀ vs H Q E, sp_Rooms_table_of K vs H Q E → vs.length = 2 := by
  intro vs H Q E h
  wtm_at "z_len"
theorem len__law_tape {K : PySem.W.Frag} : ∀ vs H Q E, sp__law_tape K vs H Q E → vs.length = 2 := by
  intro vs H Q E h
  wtm_at "z_len"
theorem zero__law_tape {K : PySem.W.Frag} : ∀ vs H Q E, sp__law_tape K vs H Q E → sp__law_tape K vs H Q (fun _ _ _ => False) := by
  intro vs H Q E h
  wtm_at "z_zero"
theorem len__law_draw {K : PySem.W.Frag} : ∀ vs H Q E, sp__law_draw K vs H Q E → vs.length = 2 := by
  intro vs H Q E h
  wtm_at "z_len"
theorem zero__law_draw {K : PySem.W.Frag} : ∀ vs H Q E, sp__law_draw K vs H Q E → sp__law_draw K vs H Q (fun _ _ _ => False) := by
  intro vs H Q E h
  wtm_at "z_zero"
theorem len__law_last {K : PySem.W.Frag} : ∀ vs H Q E, sp__law_last K vs H Q E → vs.length = 2 := by
  intro vs H Q E h
  wtm_at "z_len"
theorem zero__law_last {K : PySem.W.Frag} : ∀ vs H Q E, sp__law_last K vs H Q E → sp__law_last K vs H Q (fun _ _ _ => False) := by
  intro vs H Q E h
  wtm_at "z_zero"
theorem len_Store_look_taken {K : PySem.W.Frag} : ∀ vs H Q E, sp_Store_look_taken K vs H Q E → vs.length = 2 := by
  intro vs H Q E h
  wtm_at "z_len"
theorem zero_Store_look_taken {K : PySem.W.Frag} : ∀ vs H Q E, sp_Store_look_taken K vs H Q E → sp_Store_look_taken K vs H Q (fun _ _ _ => False) := by
  intro vs H Q E h
  wtm_at "z_zero"
theorem len_Paging_entry {K : PySem.W.Frag} : ∀ vs H Q E, sp_Paging_entry K vs H Q E → vs.length = 2 := by
  intro vs H Q E h
  wtm_at "z_len"
theorem zero_Paging_entry {K : PySem.W.Frag} : ∀ vs H Q E, sp_Paging_entry K vs H Q E → sp_Paging_entry K vs H Q (fun _ _ _ => False) := by
  intro vs H Q E h
  wtm_at "z_zero"
theorem len_Paging_lay {K : PySem.W.Frag} : ∀ vs H Q E, sp_Paging_lay K vs H Q E → vs.length = 3 := by
  intro vs H Q E h
  wtm_at "z_len"
theorem zero_Paging_lay {K : PySem.W.Frag} : ∀ vs H Q E, sp_Paging_lay K vs H Q E → sp_Paging_lay K vs H Q (fun _ _ _ => False) := by
  intro vs H Q E h
  wtm_at "z_zero"
theorem len_Rooms_held {K : PySem.W.Frag} : ∀ vs H Q E, sp_Rooms_held K vs H Q E → vs.length = 1 := by
  intro vs H Q E h
  wtm_at "z_len"
theorem zero_Rooms_held {K : PySem.W.Frag} : ∀ vs H Q E, sp_Rooms_held K vs H Q E → sp_Rooms_held K vs H Q (fun _ _ _ => False) := by
  intro vs H Q E h
  wtm_at "z_zero"
theorem len_Rooms_look_mapped {K : PySem.W.Frag} : ∀ vs H Q E, sp_Rooms_look_mapped K vs H Q E → vs.length = 3 := by
  intro vs H Q E h
  wtm_at "z_len"
theorem len_Rooms_place {K : PySem.W.Frag} : ∀ vs H Q E, sp_Rooms_place K vs H Q E → vs.length = 3 := by
  intro vs H Q E h
  wtm_at "z_len"
theorem zero_Rooms_place {K : PySem.W.Frag} : ∀ vs H Q E, sp_Rooms_place K vs H Q E → sp_Rooms_place K vs H Q (fun _ _ _ => False) := by
  intro vs H Q E h
  wtm_at "z_zero"
theorem len__law_deed {K : PySem.W.Frag} : ∀ vs H Q E, sp__law_deed K vs H Q E → vs.length = 2 := by
  intro vs H Q E h
  wtm_at "z_len"
theorem zero__law_deed {K : PySem.W.Frag} : ∀ vs H Q E, sp__law_deed K vs H Q E → sp__law_deed K vs H Q (fun _ _ _ => False) := by
  intro vs H Q E h
  wtm_at "z_zero"
theorem len_Store_more {K : PySem.W.Frag} : ∀ vs H Q E, sp_Store_more K vs H Q E → vs.length = 2 := by
  intro vs H Q E h
  wtm_at "z_len"
theorem zero_Store_more {K : PySem.W.Frag} : ∀ vs H Q E, sp_Store_more K vs H Q E → sp_Store_more K vs H Q (fun _ _ _ => False) := by
  intro vs H Q E h
  wtm_at "z_zero"
theorem len_Store_less {K : PySem.W.Frag} : ∀ vs H Q E, sp_Store_less K vs H Q E → vs.length = 2 := by
  intro vs H Q E h
  wtm_at "z_len"
theorem zero_Store_less {K : PySem.W.Frag} : ∀ vs H Q E, sp_Store_less K vs H Q E → sp_Store_less K vs H Q (fun _ _ _ => False) := by
  intro vs H Q E h
  wtm_at "z_zero"
theorem len_Store_cells {K : PySem.W.Frag} : ∀ vs H Q E, sp_Store_cells K vs H Q E → vs.length = 2 := by
  intro vs H Q E h
  wtm_at "z_len"
theorem zero_Store_cells {K : PySem.W.Frag} : ∀ vs H Q E, sp_Store_cells K vs H Q E → sp_Store_cells K vs H Q (fun _ _ _ => False) := by
  intro vs H Q E h
  wtm_at "z_zero"
theorem len_Store_put {K : PySem.W.Frag} : ∀ vs H Q E, sp_Store_put K vs H Q E → vs.length = 3 := by
  intro vs H Q E h
  wtm_at "z_len"
theorem zero_Store_put {K : PySem.W.Frag} : ∀ vs H Q E, sp_Store_put K vs H Q E → sp_Store_put K vs H Q (fun _ _ _ => False) := by
  intro vs H Q E h
  wtm_at "z_zero"
theorem len_Paging___init__ {K : PySem.W.Frag} : ∀ vs H Q E, sp_Paging___init__ K vs H Q E → vs.length = 3 := by
  intro vs H Q E h
  wtm_at "z_len"
theorem zero_Paging___init__ {K : PySem.W.Frag} : ∀ vs H Q E, sp_Paging___init__ K vs H Q E → sp_Paging___init__ K vs H Q (fun _ _ _ => False) := by
  intro vs H Q E h
  wtm_at "z_zero"
theorem len_Rooms_begin {K : PySem.W.Frag} : ∀ vs H Q E, sp_Rooms_begin K vs H Q E → vs.length = 2 := by
  intro vs H Q E h
  wtm_at "z_len"
theorem len_Rooms_ask_room {K : PySem.W.Frag} : ∀ vs H Q E, sp_Rooms_ask_room K vs H Q E → vs.length = 2 := by
  intro vs H Q E h
  wtm_at "z_len"
theorem len_Rooms_stretches {K : PySem.W.Frag} : ∀ vs H Q E, sp_Rooms_stretches K vs H Q E → vs.length = 4 := by
  intro vs H Q E h
  wtm_at "z_len"
theorem len_Paging_share {K : PySem.W.Frag} : ∀ vs H Q E, sp_Paging_share K vs H Q E → vs.length = 3 := by
  intro vs H Q E h
  wtm_at "z_len"
theorem zero_Paging_share {K : PySem.W.Frag} : ∀ vs H Q E, sp_Paging_share K vs H Q E → sp_Paging_share K vs H Q (fun _ _ _ => False) := by
  intro vs H Q E h
  wtm_at "z_zero"
theorem len_Paging_leave {K : PySem.W.Frag} : ∀ vs H Q E, sp_Paging_leave K vs H Q E → vs.length = 2 := by
  intro vs H Q E h
  wtm_at "z_len"
theorem zero_Paging_leave {K : PySem.W.Frag} : ∀ vs H Q E, sp_Paging_leave K vs H Q E → sp_Paging_leave K vs H Q (fun _ _ _ => False) := by
  intro vs H Q E h
  wtm_at "z_zero"
theorem len_Paging_lifted {K : PySem.W.Frag} : ∀ vs H Q E, sp_Paging_lifted K vs H Q E → vs.length = 2 := by
  intro vs H Q E h
  wtm_at "z_len"
theorem zero_Paging_lifted {K : PySem.W.Frag} : ∀ vs H Q E, sp_Paging_lifted K vs H Q E → sp_Paging_lifted K vs H Q (fun _ _ _ => False) := by
  intro vs H Q E h
  wtm_at "z_zero"
theorem len_Paging_settle {K : PySem.W.Frag} : ∀ vs H Q E, sp_Paging_settle K vs H Q E → vs.length = 4 := by
  intro vs H Q E h
  wtm_at "z_len"
theorem zero_Paging_settle {K : PySem.W.Frag} : ∀ vs H Q E, sp_Paging_settle K vs H Q E → sp_Paging_settle K vs H Q (fun _ _ _ => False) := by
  intro vs H Q E h
  wtm_at "z_zero"
theorem len_Paging_cells {K : PySem.W.Frag} : ∀ vs H Q E, sp_Paging_cells K vs H Q E → vs.length = 2 := by
  intro vs H Q E h
  wtm_at "z_len"
theorem zero_Paging_cells {K : PySem.W.Frag} : ∀ vs H Q E, sp_Paging_cells K vs H Q E → sp_Paging_cells K vs H Q (fun _ _ _ => False) := by
  intro vs H Q E h
  wtm_at "z_zero"
theorem len_Paging_put {K : PySem.W.Frag} : ∀ vs H Q E, sp_Paging_put K vs H Q E → vs.length = 3 := by
  intro vs H Q E h
  wtm_at "z_len"
theorem zero_Paging_put {K : PySem.W.Frag} : ∀ vs H Q E, sp_Paging_put K vs H Q E → sp_Paging_put K vs H Q (fun _ _ _ => False) := by
  intro vs H Q E h
  wtm_at "z_zero"
theorem len_Rooms_map {K : PySem.W.Frag} : ∀ vs H Q E, sp_Rooms_map K vs H Q E → vs.length = 4 := by
  intro vs H Q E h
  wtm_at "z_len"
theorem len_Paging_put_out {K : PySem.W.Frag} : ∀ vs H Q E, sp_Paging_put_out K vs H Q E → vs.length = 1 := by
  intro vs H Q E h
  wtm_at "z_len"
theorem zero_Paging_put_out {K : PySem.W.Frag} : ∀ vs H Q E, sp_Paging_put_out K vs H Q E → sp_Paging_put_out K vs H Q (fun _ _ _ => False) := by
  intro vs H Q E h
  wtm_at "z_zero"
theorem len_Rooms___init__ {K : PySem.W.Frag} : ∀ vs H Q E, sp_Rooms___init__ K vs H Q E → vs.length = 3 := by
  intro vs H Q E h
  wtm_at "z_len"
theorem zero_Rooms___init__ {K : PySem.W.Frag} : ∀ vs H Q E, sp_Rooms___init__ K vs H Q E → sp_Rooms___init__ K vs H Q (fun _ _ _ => False) := by
  intro vs H Q E h
  wtm_at "z_zero"
theorem len_Rooms_close {K : PySem.W.Frag} : ∀ vs H Q E, sp_Rooms_close K vs H Q E → vs.length = 2 := by
  intro vs H Q E h
  wtm_at "z_len"
theorem len_Rooms_drop {K : PySem.W.Frag} : ∀ vs H Q E, sp_Rooms_drop K vs H Q E → vs.length = 4 := by
  intro vs H Q E h
  wtm_at "z_len"
theorem len_Rooms_copy {K : PySem.W.Frag} : ∀ vs H Q E, sp_Rooms_copy K vs H Q E → vs.length = 3 := by
  intro vs H Q E h
  wtm_at "z_len"
theorem len_Paging_frame_taken {K : PySem.W.Frag} : ∀ vs H Q E, sp_Paging_frame_taken K vs H Q E → vs.length = 1 := by
  intro vs H Q E h
  wtm_at "z_len"
theorem zero_Paging_frame_taken {K : PySem.W.Frag} : ∀ vs H Q E, sp_Paging_frame_taken K vs H Q E → sp_Paging_frame_taken K vs H Q (fun _ _ _ => False) := by
  intro vs H Q E h
  wtm_at "z_zero"
theorem len_Paging_fetch {K : PySem.W.Frag} : ∀ vs H Q E, sp_Paging_fetch K vs H Q E → vs.length = 2 := by
  intro vs H Q E h
  wtm_at "z_len"
theorem zero_Paging_fetch {K : PySem.W.Frag} : ∀ vs H Q E, sp_Paging_fetch K vs H Q E → sp_Paging_fetch K vs H Q (fun _ _ _ => False) := by
  intro vs H Q E h
  wtm_at "z_zero"
theorem len_Paging_part {K : PySem.W.Frag} : ∀ vs H Q E, sp_Paging_part K vs H Q E → vs.length = 2 := by
  intro vs H Q E h
  wtm_at "z_len"
theorem zero_Paging_part {K : PySem.W.Frag} : ∀ vs H Q E, sp_Paging_part K vs H Q E → sp_Paging_part K vs H Q (fun _ _ _ => False) := by
  intro vs H Q E h
  wtm_at "z_zero"
theorem len_Rooms_peek {K : PySem.W.Frag} : ∀ vs H Q E, sp_Rooms_peek K vs H Q E → vs.length = 4 := by
  intro vs H Q E h
  wtm_at "z_len"
theorem len_Rooms_poke {K : PySem.W.Frag} : ∀ vs H Q E, sp_Rooms_poke K vs H Q E → vs.length = 4 := by
  intro vs H Q E h
  wtm_at "z_len"
theorem len__law_done {K : PySem.W.Frag} : ∀ vs H Q E, sp__law_done K vs H Q E → vs.length = 2 := by
  intro vs H Q E h
  wtm_at "z_len"
theorem zero__law_done {K : PySem.W.Frag} : ∀ vs H Q E, sp__law_done K vs H Q E → sp__law_done K vs H Q (fun _ _ _ => False) := by
  intro vs H Q E h
  wtm_at "z_zero"
theorem len_law {K : PySem.W.Frag} : ∀ vs H Q E, sp_law K vs H Q E → vs.length = 1 := by
  intro vs H Q E h
  wtm_at "z_len"
theorem zero_law {K : PySem.W.Frag} : ∀ vs H Q E, sp_law K vs H Q E → sp_law K vs H Q (fun _ _ _ => False) := by
  intro vs H Q E h
  wtm_at "z_zero"
theorem all_ok {P : Program} {w : World} {K : PySem.W.Frag} {h : Heap} {mg : Str → Option Value} {f : Addr} (X : K.In h) (G : h.Ns mainGlobals mg) (hlw : mg ("law" : Str) = some (.ref f)) (c : He.SaysD hfa hfn K) (hB : BlankAt K) :
    ∃ fd : FuncData, (∀ (s : Shared) (v : Value), BindsTo s fd ⟨[v], []⟩ [("script", v)]) ∧ ∀ base : Heap, K.In base → base.Ns mainGlobals mg → FnOk P w K mg base (L2.CX P w) 11 f fd ["script"] (sp_law K) := by
  have T : Txt K mg := ⟨He.free_ok X G (c.fact 0 (f := .free "abs") rfl), He.free_ok X G (c.fact 1 (f := .free "any") rfl), He.free_ok X G (c.fact 2 (f := .free "int") rfl), He.free_ok X G (c.fact 3 (f := .free "isinstance") rfl), He.free_ok X G (c.fact 4 (f := .free "len") rfl), He.free_ok X G (c.fact 5 (f := .free "list") rfl), He.free_ok X G (c.fact 6 (f := .free "max") rfl), He.free_ok X G (c.fact 7 (f := .free "min") rfl), He.free_ok X G (c.fact 8 (f := .free "range") rfl), He.free_ok X G (c.fact 9 (f := .free "sorted") rfl), He.free_ok X G (c.fact 10 (f := .free "sum") rfl), He.free_ok X G (c.fact 11 (f := .free "tuple") rfl), He.cls_ok (c.fact 12 (f := .cls "Paging") rfl), He.cls_ok (c.fact 13 (f := .cls "Rooms") rfl), He.cls_ok (c.fact 14 (f := .cls "Store") rfl), He.cls_ok (c.fact 15 (f := .cls "Table") rfl), (exc_of X G (c.fact 16 (f := .glo "KernelError") rfl) (c.fact 17 (f := .exc "KernelError") rfl)), (exc_of X G (c.fact 18 (f := .glo "NoOwner") rfl) (c.fact 19 (f := .exc "NoOwner") rfl)), (exc_of X G (c.fact 20 (f := .glo "NoPage") rfl) (c.fact 21 (f := .exc "NoPage") rfl)), (exc_of X G (c.fact 22 (f := .glo "NoRoom") rfl) (c.fact 23 (f := .exc "NoRoom") rfl)), (exc_of X G (c.fact 24 (f := .glo "NoTask") rfl) (c.fact 25 (f := .exc "NoTask") rfl)), (exc_of X G (c.fact 26 (f := .glo "Taken") rfl) (c.fact 27 (f := .exc "Taken") rfl)), He.glo_ok X G (c.fact 28 (f := .glo "BLANK") rfl), He.int_ok X G (c.fact 29 (f := .int "PAGES" 64) rfl), He.int_ok X G (c.fact 30 (f := .int "PAGE_SIZE" 8) rfl), He.int_ok X G (c.fact 31 (f := .int "STEP" 8) rfl), He.noat_ok (c.fact 32 (f := .noat "Paging" "frames") rfl), He.noat_ok (c.fact 33 (f := .noat "Paging" "hand") rfl), He.noat_ok (c.fact 34 (f := .noat "Paging" "owners") rfl), He.noat_ok (c.fact 35 (f := .noat "Paging" "slots") rfl), He.noat_ok (c.fact 36 (f := .noat "Paging" "stores") rfl), He.noat_ok (c.fact 37 (f := .noat "Paging" "tables") rfl), He.noat_ok (c.fact 38 (f := .noat "Rooms" "paging") rfl), He.noat_ok (c.fact 39 (f := .noat "Store" "contents") rfl), He.noat_ok (c.fact 40 (f := .noat "Store" "owners") rfl), He.noat_ok (c.fact 41 (f := .noat "Table" "firsts") rfl), He.exm_ok (c.fact 42 (f := .exm "NoTask" "KernelError" true) rfl), He.exm_ok (c.fact 43 (f := .exm "NoPage" "KernelError" true) rfl), He.exm_ok (c.fact 44 (f := .exm "NoRoom" "KernelError" true) rfl), He.exm_ok (c.fact 45 (f := .exm "Taken" "KernelError" true) rfl)⟩
  obtain ⟨fd0, F0⟩ := c.def_ 48 (d := dd_law) rfl
  have e := hlw.symm.trans (He.glo_ok X G (c.fact 98 (f := .glo "law") rfl))
  cases e
  have b := FunD.bindsA (ps := ["script"]) F0 fun _ _ _ _ _ _ us hl => match us, hl with | [_], _ => rfl
  refine ⟨fd0, fun s v => b s [v] rfl, fun base _ _ => ?_⟩
  obtain ⟨fd_Store___init__, F_Store___init__⟩ := c.def_ 0 (d := dd_Store___init__) rfl
  obtain ⟨fd_Store_take, F_Store_take⟩ := c.def_ 1 (d := dd_Store_take) rfl
  obtain ⟨fd_Store_count, F_Store_count⟩ := c.def_ 2 (d := dd_Store_count) rfl
  obtain ⟨fd_Store_free, F_Store_free⟩ := c.def_ 3 (d := dd_Store_free) rfl
  obtain ⟨fd_Table___init__, F_Table___init__⟩ := c.def_ 4 (d := dd_Table___init__) rfl
  obtain ⟨fd_Table_get, F_Table_get⟩ := c.def_ 5 (d := dd_Table_get) rfl
  obtain ⟨fd_Table_lay, F_Table_lay⟩ := c.def_ 6 (d := dd_Table_lay) rfl
  obtain ⟨fd_Table_clear, F_Table_clear⟩ := c.def_ 7 (d := dd_Table_clear) rfl
  obtain ⟨fd_Table_pages, F_Table_pages⟩ := c.def_ 8 (d := dd_Table_pages) rfl
  obtain ⟨fd_pages_asked, F_pages_asked⟩ := c.def_ 9 (d := dd_pages_asked) rfl
  obtain ⟨fd_stretches_of, F_stretches_of⟩ := c.def_ 10 (d := dd_stretches_of) rfl
  obtain ⟨fd_Rooms_table_of, F_Rooms_table_of⟩ := c.def_ 11 (d := dd_Rooms_table_of) rfl
  obtain ⟨fd__law_tape, F__law_tape⟩ := c.def_ 12 (d := dd__law_tape) rfl
  obtain ⟨fd__law_draw, F__law_draw⟩ := c.def_ 13 (d := dd__law_draw) rfl
  obtain ⟨fd__law_last, F__law_last⟩ := c.def_ 14 (d := dd__law_last) rfl
  obtain ⟨fd_Store_look_taken, F_Store_look_taken⟩ := c.def_ 15 (d := dd_Store_look_taken) rfl
  obtain ⟨fd_Paging_entry, F_Paging_entry⟩ := c.def_ 16 (d := dd_Paging_entry) rfl
  obtain ⟨fd_Paging_lay, F_Paging_lay⟩ := c.def_ 17 (d := dd_Paging_lay) rfl
  obtain ⟨fd_Rooms_held, F_Rooms_held⟩ := c.def_ 18 (d := dd_Rooms_held) rfl
  obtain ⟨fd_Rooms_look_mapped, F_Rooms_look_mapped⟩ := c.def_ 19 (d := dd_Rooms_look_mapped) rfl
  obtain ⟨fd_Rooms_place, F_Rooms_place⟩ := c.def_ 20 (d := dd_Rooms_place) rfl
  obtain ⟨fd__law_deed, F__law_deed⟩ := c.def_ 21 (d := dd__law_deed) rfl
  obtain ⟨fd_Store_more, F_Store_more⟩ := c.def_ 22 (d := dd_Store_more) rfl
  obtain ⟨fd_Store_less, F_Store_less⟩ := c.def_ 23 (d := dd_Store_less) rfl
  obtain ⟨fd_Store_cells, F_Store_cells⟩ := c.def_ 24 (d := dd_Store_cells) rfl
  obtain ⟨fd_Store_put, F_Store_put⟩ := c.def_ 25 (d := dd_Store_put) rfl
  obtain ⟨fd_Paging___init__, F_Paging___init__⟩ := c.def_ 26 (d := dd_Paging___init__) rfl
  obtain ⟨fd_Rooms_begin, F_Rooms_begin⟩ := c.def_ 27 (d := dd_Rooms_begin) rfl
  obtain ⟨fd_Rooms_ask_room, F_Rooms_ask_room⟩ := c.def_ 28 (d := dd_Rooms_ask_room) rfl
  obtain ⟨fd_Rooms_stretches, F_Rooms_stretches⟩ := c.def_ 29 (d := dd_Rooms_stretches) rfl
  obtain ⟨fd_Paging_share, F_Paging_share⟩ := c.def_ 30 (d := dd_Paging_share) rfl
  obtain ⟨fd_Paging_leave, F_Paging_leave⟩ := c.def_ 31 (d := dd_Paging_leave) rfl
  obtain ⟨fd_Paging_lifted, F_Paging_lifted⟩ := c.def_ 32 (d := dd_Paging_lifted) rfl
  obtain ⟨fd_Paging_settle, F_Paging_settle⟩ := c.def_ 33 (d := dd_Paging_settle) rfl
  obtain ⟨fd_Paging_cells, F_Paging_cells⟩ := c.def_ 34 (d := dd_Paging_cells) rfl
  obtain ⟨fd_Paging_put, F_Paging_put⟩ := c.def_ 35 (d := dd_Paging_put) rfl
  obtain ⟨fd_Rooms_map, F_Rooms_map⟩ := c.def_ 36 (d := dd_Rooms_map) rfl
  obtain ⟨fd_Paging_put_out, F_Paging_put_out⟩ := c.def_ 37 (d := dd_Paging_put_out) rfl
  obtain ⟨fd_Rooms___init__, F_Rooms___init__⟩ := c.def_ 38 (d := dd_Rooms___init__) rfl
  obtain ⟨fd_Rooms_close, F_Rooms_close⟩ := c.def_ 39 (d := dd_Rooms_close) rfl
  obtain ⟨fd_Rooms_drop, F_Rooms_drop⟩ := c.def_ 40 (d := dd_Rooms_drop) rfl
  obtain ⟨fd_Rooms_copy, F_Rooms_copy⟩ := c.def_ 41 (d := dd_Rooms_copy) rfl
  obtain ⟨fd_Paging_frame_taken, F_Paging_frame_taken⟩ := c.def_ 42 (d := dd_Paging_frame_taken) rfl
  obtain ⟨fd_Paging_fetch, F_Paging_fetch⟩ := c.def_ 43 (d := dd_Paging_fetch) rfl
  obtain ⟨fd_Paging_part, F_Paging_part⟩ := c.def_ 44 (d := dd_Paging_part) rfl
  obtain ⟨fd_Rooms_peek, F_Rooms_peek⟩ := c.def_ 45 (d := dd_Rooms_peek) rfl
  obtain ⟨fd_Rooms_poke, F_Rooms_poke⟩ := c.def_ 46 (d := dd_Rooms_poke) rfl
  obtain ⟨fd__law_done, F__law_done⟩ := c.def_ 47 (d := dd__law_done) rfl
  obtain ⟨fd_law, F_law⟩ := c.def_ 48 (d := dd_law) rfl
  have O_Store___init__ := ok_Store___init__ (P := P) (w := w) (base := base) F_Store___init__ T  len_Store___init__ (fun _ _ _ _ => pure_Store___init__)
  have B_Store___init__ := FunD.bindsN (ps := ["self", "many"]) F_Store___init__ fun _ _ _ _ _ _ us hl => match us, hl with | [_, _], _ => rfl
  have A_Store___init__ : MkAt P w K mg base (L2.CX P w) 1 "Store" (c_Store K) (sp_Store___init__ K) := ⟨_, _, _, He.glo_ok X G (c.fact 46 (f := .glo "Store") rfl), He.mkr_ok (c.fact 47 (f := .mkr "Store") rfl), B_Store___init__, O_Store___init__⟩
  have D_Store___init__ := A_Store___init__.to0 (sp' := sp_Store___init__ K) zero_Store___init__
  have O_Store_take := ok_Store_take (P := P) (w := w) (base := base) F_Store_take T  len_Store_take (fun _ _ _ _ => pure_Store_take)
  have B_Store_take := FunD.bindsN (ps := ["self"]) F_Store_take fun _ _ _ _ _ _ us hl => match us, hl with | [_], _ => rfl
  have A_Store_take : MtAt P w K mg base (L2.CX P w) 1 (c_Store K) "take" (sp_Store_take K) := ⟨_, _, _, He.cls_ok (c.fact 14 (f := .cls "Store") rfl), He.meth_ok (c.fact 48 (f := .meth "Store" "take") rfl), B_Store_take, O_Store_take⟩
  have D_Store_take := A_Store_take.to0 (sp' := sp_Store_take K) zero_Store_take
  have O_Store_count := ok_Store_count (P := P) (w := w) (base := base) F_Store_count T  len_Store_count (fun _ _ _ _ => pure_Store_count)
  have B_Store_count := FunD.bindsN (ps := ["self", "page"]) F_Store_count fun _ _ _ _ _ _ us hl => match us, hl with | [_, _], _ => rfl
  have A_Store_count : MtAt P w K mg base (L2.CX P w) 1 (c_Store K) "count" (sp_Store_count K) := ⟨_, _, _, He.cls_ok (c.fact 14 (f := .cls "Store") rfl), He.meth_ok (c.fact 49 (f := .meth "Store" "count") rfl), B_Store_count, O_Store_count⟩
  have D_Store_count := A_Store_count.to0 (sp' := sp_Store_count K) zero_Store_count
  have O_Store_free := ok_Store_free (P := P) (w := w) (base := base) F_Store_free T  len_Store_free (fun _ _ _ _ => pure_Store_free)
  have B_Store_free := FunD.bindsN (ps := ["self"]) F_Store_free fun _ _ _ _ _ _ us hl => match us, hl with | [_], _ => rfl
  have A_Store_free : MtAt P w K mg base (L2.CX P w) 1 (c_Store K) "free" (sp_Store_free K) := ⟨_, _, _, He.cls_ok (c.fact 14 (f := .cls "Store") rfl), He.meth_ok (c.fact 50 (f := .meth "Store" "free") rfl), B_Store_free, O_Store_free⟩
  have D_Store_free := A_Store_free.to0 (sp' := sp_Store_free K) zero_Store_free
  have O_Table___init__ := ok_Table___init__ (P := P) (w := w) (base := base) F_Table___init__ T  len_Table___init__ (fun _ _ _ _ => pure_Table___init__)
  have B_Table___init__ := FunD.bindsN (ps := ["self"]) F_Table___init__ fun _ _ _ _ _ _ us hl => match us, hl with | [_], _ => rfl
  have A_Table___init__ : MkAt P w K mg base (L2.CX P w) 1 "Table" (c_Table K) (sp_Table___init__ K) := ⟨_, _, _, He.glo_ok X G (c.fact 51 (f := .glo "Table") rfl), He.mkr_ok (c.fact 52 (f := .mkr "Table") rfl), B_Table___init__, O_Table___init__⟩
  have D_Table___init__ := A_Table___init__.to0 (sp' := sp_Table___init__ K) zero_Table___init__
  have O_Table_get := ok_Table_get (P := P) (w := w) (base := base) F_Table_get T  len_Table_get (fun _ _ _ _ => pure_Table_get)
  have B_Table_get := FunD.bindsN (ps := ["self", "page"]) F_Table_get fun _ _ _ _ _ _ us hl => match us, hl with | [_, _], _ => rfl
  have A_Table_get : MtAt P w K mg base (L2.CX P w) 1 (c_Table K) "get" (sp_Table_get K) := ⟨_, _, _, He.cls_ok (c.fact 15 (f := .cls "Table") rfl), He.meth_ok (c.fact 53 (f := .meth "Table" "get") rfl), B_Table_get, O_Table_get⟩
  have D_Table_get := A_Table_get.to0 (sp' := sp_Table_get K) zero_Table_get
  have O_Table_lay := ok_Table_lay (P := P) (w := w) (base := base) F_Table_lay T  len_Table_lay (fun _ _ _ _ => pure_Table_lay)
  have B_Table_lay := FunD.bindsN (ps := ["self", "page", "entry"]) F_Table_lay fun _ _ _ _ _ _ us hl => match us, hl with | [_, _, _], _ => rfl
  have A_Table_lay : MtAt P w K mg base (L2.CX P w) 1 (c_Table K) "lay" (sp_Table_lay K) := ⟨_, _, _, He.cls_ok (c.fact 15 (f := .cls "Table") rfl), He.meth_ok (c.fact 54 (f := .meth "Table" "lay") rfl), B_Table_lay, O_Table_lay⟩
  have D_Table_lay := A_Table_lay.to0 (sp' := sp_Table_lay K) zero_Table_lay
  have O_Table_clear := ok_Table_clear (P := P) (w := w) (base := base) F_Table_clear T  len_Table_clear (fun _ _ _ _ => pure_Table_clear)
  have B_Table_clear := FunD.bindsN (ps := ["self", "page"]) F_Table_clear fun _ _ _ _ _ _ us hl => match us, hl with | [_, _], _ => rfl
  have A_Table_clear : MtAt P w K mg base (L2.CX P w) 1 (c_Table K) "clear" (sp_Table_clear K) := ⟨_, _, _, He.cls_ok (c.fact 15 (f := .cls "Table") rfl), He.meth_ok (c.fact 55 (f := .meth "Table" "clear") rfl), B_Table_clear, O_Table_clear⟩
  have D_Table_clear := A_Table_clear.to0 (sp' := sp_Table_clear K) zero_Table_clear
  have O_Table_pages := ok_Table_pages (P := P) (w := w) (base := base) F_Table_pages T  len_Table_pages (fun _ _ _ _ => pure_Table_pages)
  have B_Table_pages := FunD.bindsN (ps := ["self"]) F_Table_pages fun _ _ _ _ _ _ us hl => match us, hl with | [_], _ => rfl
  have A_Table_pages : MtAt P w K mg base (L2.CX P w) 1 (c_Table K) "pages" (sp_Table_pages K) := ⟨_, _, _, He.cls_ok (c.fact 15 (f := .cls "Table") rfl), He.meth_ok (c.fact 56 (f := .meth "Table" "pages") rfl), B_Table_pages, O_Table_pages⟩
  have D_Table_pages := A_Table_pages.to0 (sp' := sp_Table_pages K) zero_Table_pages
  have O_pages_asked := ok_pages_asked (P := P) (w := w) (base := base) F_pages_asked T  len_pages_asked (fun _ _ _ _ => pure_pages_asked)
  have B_pages_asked := FunD.bindsN (ps := ["page", "many"]) F_pages_asked fun _ _ _ _ _ _ us hl => match us, hl with | [_, _], _ => rfl
  have A_pages_asked : FnAt P w K mg base (L2.CX P w) 1 "pages_asked" (sp_pages_asked K) := ⟨_, _, _, He.glo_ok X G (c.fact 57 (f := .glo "pages_asked") rfl), F_pages_asked.kp, B_pages_asked, O_pages_asked⟩
  have D_pages_asked := A_pages_asked
  have O_stretches_of := ok_stretches_of (P := P) (w := w) (base := base) F_stretches_of T  len_stretches_of (fun _ _ _ _ => pure_stretches_of)
  have B_stretches_of := FunD.bindsN (ps := ["address", "many"]) F_stretches_of fun _ _ _ _ _ _ us hl => match us, hl with | [_, _], _ => rfl
  have A_stretches_of : FnAt P w K mg base (L2.CX P w) 1 "stretches_of" (sp_stretches_of K) := ⟨_, _, _, He.glo_ok X G (c.fact 58 (f := .glo "stretches_of") rfl), F_stretches_of.kp, B_stretches_of, O_stretches_of⟩
  have D_stretches_of := A_stretches_of.to0 (sp' := sp_stretches_of K) zero_stretches_of
  have O_Rooms_table_of := ok_Rooms_table_of (P := P) (w := w) (base := base) F_Rooms_table_of T  len_Rooms_table_of (fun _ _ _ _ => pure_Rooms_table_of)
  have B_Rooms_table_of := FunD.bindsN (ps := ["self", "task"]) F_Rooms_table_of fun _ _ _ _ _ _ us hl => match us, hl with | [_, _], _ => rfl
  have A_Rooms_table_of : MtAt P w K mg base (L2.CX P w) 1 (c_Rooms K) "table_of" (sp_Rooms_table_of K) := ⟨_, _, _, He.cls_ok (c.fact 13 (f := .cls "Rooms") rfl), He.meth_ok (c.fact 59 (f := .meth "Rooms" "table_of") rfl), B_Rooms_table_of, O_Rooms_table_of⟩
  have D_Rooms_table_of := A_Rooms_table_of
  have O__law_tape := ok__law_tape (P := P) (w := w) (base := base) F__law_tape T  len__law_tape (fun _ _ _ _ => pure__law_tape)
  have B__law_tape := FunD.bindsN (ps := ["script", "k"]) F__law_tape fun _ _ _ _ _ _ us hl => match us, hl with | [_, _], _ => rfl
  have A__law_tape : FnAt P w K mg base (L2.CX P w) 1 "_law_tape" (sp__law_tape K) := ⟨_, _, _, He.glo_ok X G (c.fact 60 (f := .glo "_law_tape") rfl), F__law_tape.kp, B__law_tape, O__law_tape⟩
  have D__law_tape := A__law_tape.to0 (sp' := sp__law_tape K) zero__law_tape
  have O__law_draw := ok__law_draw (P := P) (w := w) (base := base) F__law_draw T  len__law_draw (fun _ _ _ _ => pure__law_draw)
  have B__law_draw := FunD.bindsN (ps := ["tape", "many"]) F__law_draw fun _ _ _ _ _ _ us hl => match us, hl with | [_, _], _ => rfl
  have A__law_draw : FnAt P w K mg base (L2.CX P w) 1 "_law_draw" (sp__law_draw K) := ⟨_, _, _, He.glo_ok X G (c.fact 61 (f := .glo "_law_draw") rfl), F__law_draw.kp, B__law_draw, O__law_draw⟩
  have D__law_draw := A__law_draw.to0 (sp' := sp__law_draw K) zero__law_draw
  have O__law_last := ok__law_last (P := P) (w := w) (base := base) F__law_last T  len__law_last (fun _ _ _ _ => pure__law_last)
  have B__law_last := FunD.bindsN (ps := ["last", "deed"]) F__law_last fun _ _ _ _ _ _ us hl => match us, hl with | [_, _], _ => rfl
  have A__law_last : FnAt P w K mg base (L2.CX P w) 1 "_law_last" (sp__law_last K) := ⟨_, _, _, He.glo_ok X G (c.fact 62 (f := .glo "_law_last") rfl), F__law_last.kp, B__law_last, O__law_last⟩
  have D__law_last := A__law_last.to0 (sp' := sp__law_last K) zero__law_last
  have O_Store_look_taken := ok_Store_look_taken (P := P) (w := w) (base := base) F_Store_look_taken T D_Store_count len_Store_look_taken (fun _ _ _ _ => pure_Store_look_taken)
  have B_Store_look_taken := FunD.bindsN (ps := ["self", "page"]) F_Store_look_taken fun _ _ _ _ _ _ us hl => match us, hl with | [_, _], _ => rfl
  have A_Store_look_taken : MtAt P w K mg base (L2.CX P w) 2 (c_Store K) "look_taken" (sp_Store_look_taken K) := ⟨_, _, _, He.cls_ok (c.fact 14 (f := .cls "Store") rfl), He.meth_ok (c.fact 63 (f := .meth "Store" "look_taken") rfl), B_Store_look_taken, O_Store_look_taken⟩
  have D_Store_look_taken := A_Store_look_taken.to0 (sp' := sp_Store_look_taken K) zero_Store_look_taken
  have O_Paging_entry := ok_Paging_entry (P := P) (w := w) (base := base) F_Paging_entry T D_Table_get len_Paging_entry (fun _ _ _ _ => pure_Paging_entry)
  have B_Paging_entry := FunD.bindsN (ps := ["self", "owner"]) F_Paging_entry fun _ _ _ _ _ _ us hl => match us, hl with | [_, _], _ => rfl
  have A_Paging_entry : MtAt P w K mg base (L2.CX P w) 2 (c_Paging K) "entry" (sp_Paging_entry K) := ⟨_, _, _, He.cls_ok (c.fact 12 (f := .cls "Paging") rfl), He.meth_ok (c.fact 64 (f := .meth "Paging" "entry") rfl), B_Paging_entry, O_Paging_entry⟩
  have D_Paging_entry := A_Paging_entry.to0 (sp' := sp_Paging_entry K) zero_Paging_entry
  have O_Paging_lay := ok_Paging_lay (P := P) (w := w) (base := base) F_Paging_lay T D_Table_lay len_Paging_lay (fun _ _ _ _ => pure_Paging_lay hB)
  have B_Paging_lay := FunD.bindsN (ps := ["self", "owner", "entry"]) F_Paging_lay fun _ _ _ _ _ _ us hl => match us, hl with | [_, _, _], _ => rfl
  have A_Paging_lay : MtAt P w K mg base (L2.CX P w) 2 (c_Paging K) "lay" (sp_Paging_lay K) := ⟨_, _, _, He.cls_ok (c.fact 12 (f := .cls "Paging") rfl), He.meth_ok (c.fact 65 (f := .meth "Paging" "lay") rfl), B_Paging_lay, O_Paging_lay⟩
  have D_Paging_lay := A_Paging_lay.to0 (sp' := sp_Paging_lay K) zero_Paging_lay
  have O_Rooms_held := ok_Rooms_held (P := P) (w := w) (base := base) F_Rooms_held T D_Table_pages len_Rooms_held (fun _ _ _ _ => pure_Rooms_held)
  have B_Rooms_held := FunD.bindsN (ps := ["self"]) F_Rooms_held fun _ _ _ _ _ _ us hl => match us, hl with | [_], _ => rfl
  have A_Rooms_held : MtAt P w K mg base (L2.CX P w) 2 (c_Rooms K) "held" (sp_Rooms_held K) := ⟨_, _, _, He.cls_ok (c.fact 13 (f := .cls "Rooms") rfl), He.meth_ok (c.fact 66 (f := .meth "Rooms" "held") rfl), B_Rooms_held, O_Rooms_held⟩
  have D_Rooms_held := A_Rooms_held.to0 (sp' := sp_Rooms_held K) zero_Rooms_held
  have O_Rooms_look_mapped := ok_Rooms_look_mapped (P := P) (w := w) (base := base) F_Rooms_look_mapped T D_Table_get len_Rooms_look_mapped (fun _ _ _ _ => pure_Rooms_look_mapped)
  have B_Rooms_look_mapped := FunD.bindsN (ps := ["self", "table", "pages"]) F_Rooms_look_mapped fun _ _ _ _ _ _ us hl => match us, hl with | [_, _, _], _ => rfl
  have A_Rooms_look_mapped : MtAt P w K mg base (L2.CX P w) 2 (c_Rooms K) "look_mapped" (sp_Rooms_look_mapped K) := ⟨_, _, _, He.cls_ok (c.fact 13 (f := .cls "Rooms") rfl), He.meth_ok (c.fact 67 (f := .meth "Rooms" "look_mapped") rfl), B_Rooms_look_mapped, O_Rooms_look_mapped⟩
  have D_Rooms_look_mapped := A_Rooms_look_mapped
  have O_Rooms_place := ok_Rooms_place (P := P) (w := w) (base := base) F_Rooms_place T D_Table_get D_Rooms_table_of len_Rooms_place (fun _ _ _ _ => pure_Rooms_place)
  have B_Rooms_place := FunD.bindsN (ps := ["self", "task", "page"]) F_Rooms_place fun _ _ _ _ _ _ us hl => match us, hl with | [_, _, _], _ => rfl
  have A_Rooms_place : MtAt P w K mg base (L2.CX P w) 2 (c_Rooms K) "place" (sp_Rooms_place K) := ⟨_, _, _, He.cls_ok (c.fact 13 (f := .cls "Rooms") rfl), He.meth_ok (c.fact 68 (f := .meth "Rooms" "place") rfl), B_Rooms_place, O_Rooms_place⟩
  have D_Rooms_place := A_Rooms_place.to0 (sp' := sp_Rooms_place K) zero_Rooms_place
  have O__law_deed := ok__law_deed (P := P) (w := w) (base := base) F__law_deed T D__law_draw len__law_deed (fun _ _ _ _ => pure__law_deed)
  have B__law_deed := FunD.bindsN (ps := ["tape", "tasks"]) F__law_deed fun _ _ _ _ _ _ us hl => match us, hl with | [_, _], _ => rfl
  have A__law_deed : FnAt P w K mg base (L2.CX P w) 2 "_law_deed" (sp__law_deed K) := ⟨_, _, _, He.glo_ok X G (c.fact 69 (f := .glo "_law_deed") rfl), F__law_deed.kp, B__law_deed, O__law_deed⟩
  have D__law_deed := A__law_deed.to0 (sp' := sp__law_deed K) zero__law_deed
  have O_Store_more := ok_Store_more (P := P) (w := w) (base := base) F_Store_more T D_Store_look_taken len_Store_more (fun _ _ _ _ => pure_Store_more)
  have B_Store_more := FunD.bindsN (ps := ["self", "page"]) F_Store_more fun _ _ _ _ _ _ us hl => match us, hl with | [_, _], _ => rfl
  have A_Store_more : MtAt P w K mg base (L2.CX P w) 3 (c_Store K) "more" (sp_Store_more K) := ⟨_, _, _, He.cls_ok (c.fact 14 (f := .cls "Store") rfl), He.meth_ok (c.fact 70 (f := .meth "Store" "more") rfl), B_Store_more, O_Store_more⟩
  have D_Store_more := A_Store_more.to0 (sp' := sp_Store_more K) zero_Store_more
  have O_Store_less := ok_Store_less (P := P) (w := w) (base := base) F_Store_less T D_Store_look_taken len_Store_less (fun _ _ _ _ => pure_Store_less)
  have B_Store_less := FunD.bindsN (ps := ["self", "page"]) F_Store_less fun _ _ _ _ _ _ us hl => match us, hl with | [_, _], _ => rfl
  have A_Store_less : MtAt P w K mg base (L2.CX P w) 3 (c_Store K) "less" (sp_Store_less K) := ⟨_, _, _, He.cls_ok (c.fact 14 (f := .cls "Store") rfl), He.meth_ok (c.fact 71 (f := .meth "Store" "less") rfl), B_Store_less, O_Store_less⟩
  have D_Store_less := A_Store_less.to0 (sp' := sp_Store_less K) zero_Store_less
  have O_Store_cells := ok_Store_cells (P := P) (w := w) (base := base) F_Store_cells T D_Store_look_taken len_Store_cells (fun _ _ _ _ => pure_Store_cells)
  have B_Store_cells := FunD.bindsN (ps := ["self", "page"]) F_Store_cells fun _ _ _ _ _ _ us hl => match us, hl with | [_, _], _ => rfl
  have A_Store_cells : MtAt P w K mg base (L2.CX P w) 3 (c_Store K) "cells" (sp_Store_cells K) := ⟨_, _, _, He.cls_ok (c.fact 14 (f := .cls "Store") rfl), He.meth_ok (c.fact 72 (f := .meth "Store" "cells") rfl), B_Store_cells, O_Store_cells⟩
  have D_Store_cells := A_Store_cells.to0 (sp' := sp_Store_cells K) zero_Store_cells
  have O_Store_put := ok_Store_put (P := P) (w := w) (base := base) F_Store_put T D_Store_look_taken len_Store_put (fun _ _ _ _ => pure_Store_put)
  have B_Store_put := FunD.bindsN (ps := ["self", "page", "cells"]) F_Store_put fun _ _ _ _ _ _ us hl => match us, hl with | [_, _, _], _ => rfl
  have A_Store_put : MtAt P w K mg base (L2.CX P w) 3 (c_Store K) "put" (sp_Store_put K) := ⟨_, _, _, He.cls_ok (c.fact 14 (f := .cls "Store") rfl), He.meth_ok (c.fact 73 (f := .meth "Store" "put") rfl), B_Store_put, O_Store_put⟩
  have D_Store_put := A_Store_put.to0 (sp' := sp_Store_put K) zero_Store_put
  have O_Paging___init__ := ok_Paging___init__ (P := P) (w := w) (base := base) F_Paging___init__ T D_Store___init__ len_Paging___init__ (fun _ _ _ _ => pure_Paging___init__)
  have B_Paging___init__ := FunD.bindsN (ps := ["self", "frames", "slots"]) F_Paging___init__ fun _ _ _ _ _ _ us hl => match us, hl with | [_, _, _], _ => rfl
  have A_Paging___init__ : MkAt P w K mg base (L2.CX P w) 3 "Paging" (c_Paging K) (sp_Paging___init__ K) := ⟨_, _, _, He.glo_ok X G (c.fact 74 (f := .glo "Paging") rfl), He.mkr_ok (c.fact 75 (f := .mkr "Paging") rfl), B_Paging___init__, O_Paging___init__⟩
  have D_Paging___init__ := A_Paging___init__.to0 (sp' := sp_Paging___init__ K) zero_Paging___init__
  have O_Rooms_begin := ok_Rooms_begin (P := P) (w := w) (base := base) F_Rooms_begin T D_Table___init__ len_Rooms_begin (fun _ _ _ _ => pure_Rooms_begin)
  have B_Rooms_begin := FunD.bindsN (ps := ["self", "task"]) F_Rooms_begin fun _ _ _ _ _ _ us hl => match us, hl with | [_, _], _ => rfl
  have A_Rooms_begin : MtAt P w K mg base (L2.CX P w) 3 (c_Rooms K) "begin" (sp_Rooms_begin K) := ⟨_, _, _, He.cls_ok (c.fact 13 (f := .cls "Rooms") rfl), He.meth_ok (c.fact 76 (f := .meth "Rooms" "begin") rfl), B_Rooms_begin, O_Rooms_begin⟩
  have D_Rooms_begin := A_Rooms_begin
  have O_Rooms_ask_room := ok_Rooms_ask_room (P := P) (w := w) (base := base) F_Rooms_ask_room T D_Rooms_held len_Rooms_ask_room (fun _ _ _ _ => pure_Rooms_ask_room)
  have B_Rooms_ask_room := FunD.bindsN (ps := ["self", "many"]) F_Rooms_ask_room fun _ _ _ _ _ _ us hl => match us, hl with | [_, _], _ => rfl
  have A_Rooms_ask_room : MtAt P w K mg base (L2.CX P w) 3 (c_Rooms K) "ask_room" (sp_Rooms_ask_room K) := ⟨_, _, _, He.cls_ok (c.fact 13 (f := .cls "Rooms") rfl), He.meth_ok (c.fact 77 (f := .meth "Rooms" "ask_room") rfl), B_Rooms_ask_room, O_Rooms_ask_room⟩
  have D_Rooms_ask_room := A_Rooms_ask_room
  have O_Rooms_stretches := ok_Rooms_stretches (P := P) (w := w) (base := base) F_Rooms_stretches T D_Rooms_table_of D_stretches_of D_Rooms_look_mapped len_Rooms_stretches (fun _ _ _ _ => pure_Rooms_stretches)
  have B_Rooms_stretches := FunD.bindsN (ps := ["self", "task", "address", "many"]) F_Rooms_stretches fun _ _ _ _ _ _ us hl => match us, hl with | [_, _, _, _], _ => rfl
  have A_Rooms_stretches : MtAt P w K mg base (L2.CX P w) 3 (c_Rooms K) "stretches" (sp_Rooms_stretches K) := ⟨_, _, _, He.cls_ok (c.fact 13 (f := .cls "Rooms") rfl), He.meth_ok (c.fact 78 (f := .meth "Rooms" "stretches") rfl), B_Rooms_stretches, O_Rooms_stretches⟩
  have D_Rooms_stretches := A_Rooms_stretches
  have O_Paging_share := ok_Paging_share (P := P) (w := w) (base := base) F_Paging_share T D_Store_more D_Paging_lay len_Paging_share (fun _ _ _ _ => pure_Paging_share hB)
  have B_Paging_share := FunD.bindsN (ps := ["self", "owner", "entry"]) F_Paging_share fun _ _ _ _ _ _ us hl => match us, hl with | [_, _, _], _ => rfl
  have A_Paging_share : MtAt P w K mg base (L2.CX P w) 4 (c_Paging K) "share" (sp_Paging_share K) := ⟨_, _, _, He.cls_ok (c.fact 12 (f := .cls "Paging") rfl), He.meth_ok (c.fact 79 (f := .meth "Paging" "share") rfl), B_Paging_share, O_Paging_share⟩
  have D_Paging_share := A_Paging_share.to0 (sp' := sp_Paging_share K) zero_Paging_share
  have O_Paging_leave := ok_Paging_leave (P := P) (w := w) (base := base) F_Paging_leave T D_Paging_entry D_Store_less len_Paging_leave (fun _ _ _ _ => pure_Paging_leave hB)
  have B_Paging_leave := FunD.bindsN (ps := ["self", "owner"]) F_Paging_leave fun _ _ _ _ _ _ us hl => match us, hl with | [_, _], _ => rfl
  have A_Paging_leave : MtAt P w K mg base (L2.CX P w) 4 (c_Paging K) "leave" (sp_Paging_leave K) := ⟨_, _, _, He.cls_ok (c.fact 12 (f := .cls "Paging") rfl), He.meth_ok (c.fact 80 (f := .meth "Paging" "leave") rfl), B_Paging_leave, O_Paging_leave⟩
  have D_Paging_leave := A_Paging_leave.to0 (sp' := sp_Paging_leave K) zero_Paging_leave
  have O_Paging_lifted := ok_Paging_lifted (P := P) (w := w) (base := base) F_Paging_lifted T D_Store_cells D_Store_less len_Paging_lifted (fun _ _ _ _ => pure_Paging_lifted)
  have B_Paging_lifted := FunD.bindsN (ps := ["self", "entry"]) F_Paging_lifted fun _ _ _ _ _ _ us hl => match us, hl with | [_, _], _ => rfl
  have A_Paging_lifted : MtAt P w K mg base (L2.CX P w) 4 (c_Paging K) "lifted" (sp_Paging_lifted K) := ⟨_, _, _, He.cls_ok (c.fact 12 (f := .cls "Paging") rfl), He.meth_ok (c.fact 81 (f := .meth "Paging" "lifted") rfl), B_Paging_lifted, O_Paging_lifted⟩
  have D_Paging_lifted := A_Paging_lifted.to0 (sp' := sp_Paging_lifted K) zero_Paging_lifted
  have O_Paging_settle := ok_Paging_settle (P := P) (w := w) (base := base) F_Paging_settle T D_Store_put D_Store_more D_Paging_lay len_Paging_settle (fun _ _ _ _ => pure_Paging_settle)
  have B_Paging_settle := FunD.bindsN (ps := ["self", "entry", "cells", "owners"]) F_Paging_settle fun _ _ _ _ _ _ us hl => match us, hl with | [_, _, _, _], _ => rfl
  have A_Paging_settle : MtAt P w K mg base (L2.CX P w) 4 (c_Paging K) "settle" (sp_Paging_settle K) := ⟨_, _, _, He.cls_ok (c.fact 12 (f := .cls "Paging") rfl), He.meth_ok (c.fact 82 (f := .meth "Paging" "settle") rfl), B_Paging_settle, O_Paging_settle⟩
  have D_Paging_settle := A_Paging_settle.to0 (sp' := sp_Paging_settle K) zero_Paging_settle
  have O_Paging_cells := ok_Paging_cells (P := P) (w := w) (base := base) F_Paging_cells T D_Paging_entry D_Store_cells len_Paging_cells (fun _ _ _ _ => pure_Paging_cells hB)
  have B_Paging_cells := FunD.bindsN (ps := ["self", "owner"]) F_Paging_cells fun _ _ _ _ _ _ us hl => match us, hl with | [_, _], _ => rfl
  have A_Paging_cells : MtAt P w K mg base (L2.CX P w) 4 (c_Paging K) "cells" (sp_Paging_cells K) := ⟨_, _, _, He.cls_ok (c.fact 12 (f := .cls "Paging") rfl), He.meth_ok (c.fact 83 (f := .meth "Paging" "cells") rfl), B_Paging_cells, O_Paging_cells⟩
  have D_Paging_cells := A_Paging_cells.to0 (sp' := sp_Paging_cells K) zero_Paging_cells
  have O_Paging_put := ok_Paging_put (P := P) (w := w) (base := base) F_Paging_put T D_Paging_entry D_Store_put len_Paging_put (fun _ _ _ _ => pure_Paging_put)
  have B_Paging_put := FunD.bindsN (ps := ["self", "owner", "cells"]) F_Paging_put fun _ _ _ _ _ _ us hl => match us, hl with | [_, _, _], _ => rfl
  have A_Paging_put : MtAt P w K mg base (L2.CX P w) 4 (c_Paging K) "put" (sp_Paging_put K) := ⟨_, _, _, He.cls_ok (c.fact 12 (f := .cls "Paging") rfl), He.meth_ok (c.fact 84 (f := .meth "Paging" "put") rfl), B_Paging_put, O_Paging_put⟩
  have D_Paging_put := A_Paging_put.to0 (sp' := sp_Paging_put K) zero_Paging_put
  have O_Rooms_map := ok_Rooms_map (P := P) (w := w) (base := base) F_Rooms_map T D_Rooms_table_of D_pages_asked D_Table_get D_Rooms_ask_room D_Paging_lay len_Rooms_map (fun _ _ _ _ => pure_Rooms_map hB)
  have B_Rooms_map := FunD.bindsN (ps := ["self", "task", "page", "many"]) F_Rooms_map fun _ _ _ _ _ _ us hl => match us, hl with | [_, _, _, _], _ => rfl
  have A_Rooms_map : MtAt P w K mg base (L2.CX P w) 4 (c_Rooms K) "map" (sp_Rooms_map K) := ⟨_, _, _, He.cls_ok (c.fact 13 (f := .cls "Rooms") rfl), He.meth_ok (c.fact 85 (f := .meth "Rooms" "map") rfl), B_Rooms_map, O_Rooms_map⟩
  have D_Rooms_map := A_Rooms_map
  have O_Paging_put_out := ok_Paging_put_out (P := P) (w := w) (base := base) F_Paging_put_out T D_Paging_lifted D_Paging_settle D_Store_take len_Paging_put_out (fun _ _ _ _ => pure_Paging_put_out)
  have B_Paging_put_out := FunD.bindsN (ps := ["self"]) F_Paging_put_out fun _ _ _ _ _ _ us hl => match us, hl with | [_], _ => rfl
  have A_Paging_put_out : MtAt P w K mg base (L2.CX P w) 5 (c_Paging K) "put_out" (sp_Paging_put_out K) := ⟨_, _, _, He.cls_ok (c.fact 12 (f := .cls "Paging") rfl), He.meth_ok (c.fact 86 (f := .meth "Paging" "put_out") rfl), B_Paging_put_out, O_Paging_put_out⟩
  have D_Paging_put_out := A_Paging_put_out.to0 (sp' := sp_Paging_put_out K) zero_Paging_put_out
  have O_Rooms___init__ := ok_Rooms___init__ (P := P) (w := w) (base := base) F_Rooms___init__ T D_Paging___init__ len_Rooms___init__ (fun _ _ _ _ => pure_Rooms___init__)
  have B_Rooms___init__ := FunD.bindsN (ps := ["self", "frames", "slots"]) F_Rooms___init__ fun _ _ _ _ _ _ us hl => match us, hl with | [_, _, _], _ => rfl
  have A_Rooms___init__ : MkAt P w K mg base (L2.CX P w) 5 "Rooms" (c_Rooms K) (sp_Rooms___init__ K) := ⟨_, _, _, He.glo_ok X G (c.fact 87 (f := .glo "Rooms") rfl), He.mkr_ok (c.fact 88 (f := .mkr "Rooms") rfl), B_Rooms___init__, O_Rooms___init__⟩
  have D_Rooms___init__ := A_Rooms___init__.to0 (sp' := sp_Rooms___init__ K) zero_Rooms___init__
  have O_Rooms_close := ok_Rooms_close (P := P) (w := w) (base := base) F_Rooms_close T D_Table_pages D_Rooms_table_of D_Paging_leave len_Rooms_close (fun _ _ _ _ => pure_Rooms_close)
  have B_Rooms_close := FunD.bindsN (ps := ["self", "task"]) F_Rooms_close fun _ _ _ _ _ _ us hl => match us, hl with | [_, _], _ => rfl
  have A_Rooms_close : MtAt P w K mg base (L2.CX P w) 5 (c_Rooms K) "close" (sp_Rooms_close K) := ⟨_, _, _, He.cls_ok (c.fact 13 (f := .cls "Rooms") rfl), He.meth_ok (c.fact 89 (f := .meth "Rooms" "close") rfl), B_Rooms_close, O_Rooms_close⟩
  have D_Rooms_close := A_Rooms_close
  have O_Rooms_drop := ok_Rooms_drop (P := P) (w := w) (base := base) F_Rooms_drop T D_Rooms_table_of D_pages_asked D_Rooms_look_mapped D_Paging_leave D_Table_clear len_Rooms_drop (fun _ _ _ _ => pure_Rooms_drop)
  have B_Rooms_drop := FunD.bindsN (ps := ["self", "task", "page", "many"]) F_Rooms_drop fun _ _ _ _ _ _ us hl => match us, hl with | [_, _, _, _], _ => rfl
  have A_Rooms_drop : MtAt P w K mg base (L2.CX P w) 5 (c_Rooms K) "drop" (sp_Rooms_drop K) := ⟨_, _, _, He.cls_ok (c.fact 13 (f := .cls "Rooms") rfl), He.meth_ok (c.fact 90 (f := .meth "Rooms" "drop") rfl), B_Rooms_drop, O_Rooms_drop⟩
  have D_Rooms_drop := A_Rooms_drop
  have O_Rooms_copy := ok_Rooms_copy (P := P) (w := w) (base := base) F_Rooms_copy T D_Rooms_table_of D_Rooms_ask_room D_Table_pages D_Table___init__ D_Paging_share D_Table_get len_Rooms_copy (fun _ _ _ _ => pure_Rooms_copy)
  have B_Rooms_copy := FunD.bindsN (ps := ["self", "task", "other"]) F_Rooms_copy fun _ _ _ _ _ _ us hl => match us, hl with | [_, _, _], _ => rfl
  have A_Rooms_copy : MtAt P w K mg base (L2.CX P w) 5 (c_Rooms K) "copy" (sp_Rooms_copy K) := ⟨_, _, _, He.cls_ok (c.fact 13 (f := .cls "Rooms") rfl), He.meth_ok (c.fact 91 (f := .meth "Rooms" "copy") rfl), B_Rooms_copy, O_Rooms_copy⟩
  have D_Rooms_copy := A_Rooms_copy
  have O_Paging_frame_taken := ok_Paging_frame_taken (P := P) (w := w) (base := base) F_Paging_frame_taken T D_Store_free D_Paging_put_out D_Store_take len_Paging_frame_taken (fun _ _ _ _ => pure_Paging_frame_taken)
  have B_Paging_frame_taken := FunD.bindsN (ps := ["self"]) F_Paging_frame_taken fun _ _ _ _ _ _ us hl => match us, hl with | [_], _ => rfl
  have A_Paging_frame_taken : MtAt P w K mg base (L2.CX P w) 6 (c_Paging K) "frame_taken" (sp_Paging_frame_taken K) := ⟨_, _, _, He.cls_ok (c.fact 12 (f := .cls "Paging") rfl), He.meth_ok (c.fact 92 (f := .meth "Paging" "frame_taken") rfl), B_Paging_frame_taken, O_Paging_frame_taken⟩
  have D_Paging_frame_taken := A_Paging_frame_taken.to0 (sp' := sp_Paging_frame_taken K) zero_Paging_frame_taken
  have O_Paging_fetch := ok_Paging_fetch (P := P) (w := w) (base := base) F_Paging_fetch T D_Paging_entry D_Paging_lifted D_Paging_settle D_Paging_frame_taken len_Paging_fetch (fun _ _ _ _ => pure_Paging_fetch)
  have B_Paging_fetch := FunD.bindsN (ps := ["self", "owner"]) F_Paging_fetch fun _ _ _ _ _ _ us hl => match us, hl with | [_, _], _ => rfl
  have A_Paging_fetch : MtAt P w K mg base (L2.CX P w) 7 (c_Paging K) "fetch" (sp_Paging_fetch K) := ⟨_, _, _, He.cls_ok (c.fact 12 (f := .cls "Paging") rfl), He.meth_ok (c.fact 93 (f := .meth "Paging" "fetch") rfl), B_Paging_fetch, O_Paging_fetch⟩
  have D_Paging_fetch := A_Paging_fetch.to0 (sp' := sp_Paging_fetch K) zero_Paging_fetch
  have O_Paging_part := ok_Paging_part (P := P) (w := w) (base := base) F_Paging_part T D_Paging_entry D_Store_count D_Paging_fetch D_Paging_cells D_Paging_leave D_Paging_settle D_Paging_frame_taken len_Paging_part (fun _ _ _ _ => pure_Paging_part hB)
  have B_Paging_part := FunD.bindsN (ps := ["self", "owner"]) F_Paging_part fun _ _ _ _ _ _ us hl => match us, hl with | [_, _], _ => rfl
  have A_Paging_part : MtAt P w K mg base (L2.CX P w) 8 (c_Paging K) "part" (sp_Paging_part K) := ⟨_, _, _, He.cls_ok (c.fact 12 (f := .cls "Paging") rfl), He.meth_ok (c.fact 94 (f := .meth "Paging" "part") rfl), B_Paging_part, O_Paging_part⟩
  have D_Paging_part := A_Paging_part.to0 (sp' := sp_Paging_part K) zero_Paging_part
  have O_Rooms_peek := ok_Rooms_peek (P := P) (w := w) (base := base) F_Rooms_peek T D_Rooms_stretches D_Paging_fetch D_Paging_cells len_Rooms_peek (fun _ _ _ _ => pure_Rooms_peek)
  have B_Rooms_peek := FunD.bindsN (ps := ["self", "task", "address", "many"]) F_Rooms_peek fun _ _ _ _ _ _ us hl => match us, hl with | [_, _, _, _], _ => rfl
  have A_Rooms_peek : MtAt P w K mg base (L2.CX P w) 8 (c_Rooms K) "peek" (sp_Rooms_peek K) := ⟨_, _, _, He.cls_ok (c.fact 13 (f := .cls "Rooms") rfl), He.meth_ok (c.fact 95 (f := .meth "Rooms" "peek") rfl), B_Rooms_peek, O_Rooms_peek⟩
  have D_Rooms_peek := A_Rooms_peek
  have O_Rooms_poke := ok_Rooms_poke (P := P) (w := w) (base := base) F_Rooms_poke T D_Rooms_stretches D_Paging_part D_Paging_cells D_Paging_put len_Rooms_poke (fun _ _ _ _ => pure_Rooms_poke)
  have B_Rooms_poke := FunD.bindsN (ps := ["self", "task", "address", "cells"]) F_Rooms_poke fun _ _ _ _ _ _ us hl => match us, hl with | [_, _, _, _], _ => rfl
  have A_Rooms_poke : MtAt P w K mg base (L2.CX P w) 9 (c_Rooms K) "poke" (sp_Rooms_poke K) := ⟨_, _, _, He.cls_ok (c.fact 13 (f := .cls "Rooms") rfl), He.meth_ok (c.fact 96 (f := .meth "Rooms" "poke") rfl), B_Rooms_poke, O_Rooms_poke⟩
  have D_Rooms_poke := A_Rooms_poke
  have O__law_done := ok__law_done (P := P) (w := w) (base := base) F__law_done T D_Rooms_begin D_Rooms_close D_Rooms_map D_Rooms_drop D_Rooms_peek D_Rooms_poke D_Rooms_copy len__law_done (fun _ _ _ _ => pure__law_done T.x_NoTask T.x_NoPage T.x_NoRoom T.x_Taken)
  have B__law_done := FunD.bindsN (ps := ["rooms", "deed"]) F__law_done fun _ _ _ _ _ _ us hl => match us, hl with | [_, _], _ => rfl
  have A__law_done : FnAt P w K mg base (L2.CX P w) 10 "_law_done" (sp__law_done K) := ⟨_, _, _, He.glo_ok X G (c.fact 97 (f := .glo "_law_done") rfl), F__law_done.kp, B__law_done, O__law_done⟩
  have D__law_done := A__law_done.to0 (sp' := sp__law_done K) zero__law_done
  have O_law := ok_law (P := P) (w := w) (base := base) F_law T D__law_tape D_Rooms___init__ D__law_draw D_Rooms_begin D__law_deed D__law_done D__law_last D_Rooms_place len_law (fun _ _ _ _ => pure_law hB)
  have B_law := FunD.bindsN (ps := ["script"]) F_law fun _ _ _ _ _ _ us hl => match us, hl with | [_], _ => rfl
  have e2 : fd_law = fd0 := by
    obtain ⟨_, _, _, _, _, _, _, _, _, _, _, l1, _⟩ := F_law.ex
    obtain ⟨_, _, _, _, _, _, _, _, _, _, _, l2, _⟩ := F0.ex
    rw [l1] at l2
    simp at l2
    exact l2.2.2.1
  subst e2
  exact O_law
set_option Elab.async false
set_option linter.all false
set_option maxRecDepth 100000
set_option maxHeartbeats 0
abbrev R : PySem.W.OpenRow := PySem.W.OpenLaw.row PySem.Challenge.rw_ownroom_k08_last_page_stays_in_a_frame
def exB (K : PySem.W.Frag) : Bool := He.tupB K "BLANK" [.str "blank"]
theorem exB_ok {K : PySem.W.Frag} (h : exB K = true) : BlankAt K := He.tupB_ok h _
abbrev hk : PySem.W.Hook := hookX 5 hfa hfn exB
def ob (s : PySem.W.SharedT) : AlX := obsXG 5 hfa hfn exB (HandSHeadRun.getT s)
theorem ob_eq (s : PySem.W.SharedT) : ob s = hk.obs s.abs := obsXG_eq (HandSHeadRun.getT_eq s)
theorem run (w : World) : HandSHeadRun.RunEq R (PySem.W.view R.prog [28]) hk ob 4000 hloose w := by
  intro os
  kernel_rfl
end S
set_option Elab.async false
set_option linter.all false
open PySem PySem.W PySem.Calls PyProof.Rows
set_option maxRecDepth 100000 in
set_option maxHeartbeats 0 in
theorem PySem.Challenge.cw_ownroom_k08_last_page_stays_in_a_frame_holds : PySem.Challenge.rw_ownroom_k08_last_page_stays_in_a_frame.Holds := by
  w_on; o_law
  refine HandSHeadRun.head_any (r := S.R) (q := view S.R.prog [28]) (H := S.hk) (ob := S.ob) (M := 4000) (loose := S.hloose) (d := HandSHeadRun.topDef S.R.prog 28) (kwd := []) S.ob_eq
    (by kernel_rfl) (fun s => by kernel_rfl) S.run (by kernel_rfl) (by kernel_rfl) (by kernel_rfl) (by rfl) (by first | assumption | decide +kernel) (by decide +kernel) ⟨rfl, rfl, rfl, rfl, rfl, by decide +kernel⟩ ?hw ?hc
  case hw => w_witness2
  case hc =>
    refine L2.walk_ofE (l := PySem.Challenge.rw_ownroom_k08_last_page_stays_in_a_frame) (n := 63) (k := 11) (x := "script") (CX := L2.CX0) rfl (by decide) (by kernel_rfl) ⟨rfl, by decide, by decide⟩ ?F (fun _ _ _ _ z => z)
    intro w mg fa h Y G hmg0
    obtain ⟨K, KX, c, cb⟩ := Y
    have hmg : mg ("law" : PySem.Str) = some (.ref fa) := by
      have e : (HandSHeadRun.topDef S.R.prog 28).name = ("law" : PySem.Str) := by kernel_rfl
      rw [← e]
      exact hmg0
    obtain ⟨fd, hb, hF⟩ := S.all_ok (P := (PySem.Challenge.rw_ownroom_k08_last_page_stays_in_a_frame).prog) (w := w) KX G hmg c (S.exB_ok cb)
    exact ⟨K, fd, S.sp_law K, KX, hb, fun H a ns hl hO hS => ⟨a, ns, rfl, hl, (S.At.law hO hS).call (.cons .here .nil) (fun _ _ _ e _ => e) fun _ _ _ _ z => z.elim⟩, fun base b1 b2 => S.FnOk.toZ (hF base b1 b2) S.zero_law⟩
