import PyProof.Rows.All
import Wide.All
import OpenK.AllK
import Wide.FinOn
import PySem.Challenge.RW_xw0340_01
open PySem PySem.W PyProof.Rows PySem.Calls
set_option Elab.async false
set_option maxRecDepth 100000
set_option linter.all false
set_option warn.classDefReducibility false
namespace Mine
section
local macro_rules | `(tactic| o_head $_:term) => `(tactic| assumption)
set_option maxHeartbeats 8000000 in
theorem hd (h : PySem.Challenge.rw_xw0340_01.row.Holds) : PySem.Challenge.rw_xw0340_01.row.Holds := by k_head
end
section
noncomputable def ep {α : Type} (ne : Nonempty α) (p : α → Prop) : α := @Classical.epsilon α ne p
theorem ep_all {α : Type} {P : α → Prop} (ne : Nonempty α) (h : P (ep ne fun a => ¬ P a)) : ∀ a, P a := fun a => Classical.byContradiction fun n => (Classical.epsilon_spec (p := fun a => ¬ P a) ⟨a, n⟩) h
theorem neP {α β : Type} (a : Nonempty α) (b : Nonempty β) : Nonempty (α × β) := a.elim fun x => b.elim fun y => ⟨(x, y)⟩
theorem neParams : Nonempty Params := ⟨{ strHash := fun _ => 0, shareClass := fun _ => 0, mergeTok := id, idOf := fun _ => 0, idOfShared := fun _ _ => 0, followText := fun _ => false, idOfImm := fun _ => 0 }⟩
theorem neWorld : Nonempty World := neParams.elim fun p => ⟨⟨fun _ _ => 0, p⟩⟩
theorem neAround : Nonempty Around := ⟨{}⟩
theorem neShared : Nonempty Shared := ⟨{}⟩
theorem ex4 {α β γ δ : Type} {p : α → β → γ → δ → Prop} {G : Prop} (h : ∃ a b c d, p a b c d) (k : ∀ a b c d, p a b c d → G) : G := let ⟨_, _, _, _, e⟩ := h; k _ _ _ _ e
theorem gentoks {α : Type} {M : Model} {A : Around} {t : Sem α} {Q : α → Shared → Prop} {E : Value → Shared → Prop} {h : Heap} {g : Array GenState} {d : Drawn} {o : OsState} {x : Nat} (k : ∀ tk, wpAny M A t Q E ⟨h, g, d, tk, o⟩) : wpAny M A t Q E ⟨h, g, d, x + 1, o⟩ := k _
noncomputable def ep1_0 {α0 : Type} (ne : Nonempty (α0)) (P : α0 → Prop) : α0 := (ep ne fun c => ¬ P c)
theorem eps1 {α0 : Type} (ne : Nonempty (α0)) {P : α0 → Prop} (h : let x0 := ep1_0 ne P; P x0) : ∀ x0, P x0 := fun x0 => ep_all (P := fun c : α0 => P c) ne h x0
noncomputable def ep2_0 {α0 α1 : Type} (ne : Nonempty (α0 × α1)) (P : α0 → α1 → Prop) : α0 := (ep ne fun c => ¬ P c.1 c.2).1
noncomputable def ep2_1 {α0 α1 : Type} (ne : Nonempty (α0 × α1)) (P : α0 → α1 → Prop) : α1 := (ep ne fun c => ¬ P c.1 c.2).2
theorem eps2 {α0 α1 : Type} (ne : Nonempty (α0 × α1)) {P : α0 → α1 → Prop} (h : let x0 := ep2_0 ne P; let x1 := ep2_1 ne P; P x0 x1) : ∀ x0 x1, P x0 x1 := fun x0 x1 => ep_all (P := fun c : α0 × α1 => P c.1 c.2) ne h (x0, x1)
noncomputable def ep3_0 {α0 α1 α2 : Type} (ne : Nonempty (α0 × α1 × α2)) (P : α0 → α1 → α2 → Prop) : α0 := (ep ne fun c => ¬ P c.1 c.2.1 c.2.2).1
noncomputable def ep3_1 {α0 α1 α2 : Type} (ne : Nonempty (α0 × α1 × α2)) (P : α0 → α1 → α2 → Prop) : α1 := (ep ne fun c => ¬ P c.1 c.2.1 c.2.2).2.1
noncomputable def ep3_2 {α0 α1 α2 : Type} (ne : Nonempty (α0 × α1 × α2)) (P : α0 → α1 → α2 → Prop) : α2 := (ep ne fun c => ¬ P c.1 c.2.1 c.2.2).2.2
theorem eps3 {α0 α1 α2 : Type} (ne : Nonempty (α0 × α1 × α2)) {P : α0 → α1 → α2 → Prop} (h : let x0 := ep3_0 ne P; let x1 := ep3_1 ne P; let x2 := ep3_2 ne P; P x0 x1 x2) : ∀ x0 x1 x2, P x0 x1 x2 := fun x0 x1 x2 => ep_all (P := fun c : α0 × α1 × α2 => P c.1 c.2.1 c.2.2) ne h (x0, x1, x2)
noncomputable def ep4_0 {α0 α1 α2 α3 : Type} (ne : Nonempty (α0 × α1 × α2 × α3)) (P : α0 → α1 → α2 → α3 → Prop) : α0 := (ep ne fun c => ¬ P c.1 c.2.1 c.2.2.1 c.2.2.2).1
noncomputable def ep4_1 {α0 α1 α2 α3 : Type} (ne : Nonempty (α0 × α1 × α2 × α3)) (P : α0 → α1 → α2 → α3 → Prop) : α1 := (ep ne fun c => ¬ P c.1 c.2.1 c.2.2.1 c.2.2.2).2.1
noncomputable def ep4_2 {α0 α1 α2 α3 : Type} (ne : Nonempty (α0 × α1 × α2 × α3)) (P : α0 → α1 → α2 → α3 → Prop) : α2 := (ep ne fun c => ¬ P c.1 c.2.1 c.2.2.1 c.2.2.2).2.2.1
noncomputable def ep4_3 {α0 α1 α2 α3 : Type} (ne : Nonempty (α0 × α1 × α2 × α3)) (P : α0 → α1 → α2 → α3 → Prop) : α3 := (ep ne fun c => ¬ P c.1 c.2.1 c.2.2.1 c.2.2.2).2.2.2
theorem eps4 {α0 α1 α2 α3 : Type} (ne : Nonempty (α0 × α1 × α2 × α3)) {P : α0 → α1 → α2 → α3 → Prop} (h : let x0 := ep4_0 ne P; let x1 := ep4_1 ne P; let x2 := ep4_2 ne P; let x3 := ep4_3 ne P; P x0 x1 x2 x3) : ∀ x0 x1 x2 x3, P x0 x1 x2 x3 := fun x0 x1 x2 x3 => ep_all (P := fun c : α0 × α1 × α2 × α3 => P c.1 c.2.1 c.2.2.1 c.2.2.2) ne h (x0, x1, x2, x3)
noncomputable def ep5_0 {α0 α1 α2 α3 α4 : Type} (ne : Nonempty (α0 × α1 × α2 × α3 × α4)) (P : α0 → α1 → α2 → α3 → α4 → Prop) : α0 := (ep ne fun c => ¬ P c.1 c.2.1 c.2.2.1 c.2.2.2.1 c.2.2.2.2).1
noncomputable def ep5_1 {α0 α1 α2 α3 α4 : Type} (ne : Nonempty (α0 × α1 × α2 × α3 × α4)) (P : α0 → α1 → α2 → α3 → α4 → Prop) : α1 := (ep ne fun c => ¬ P c.1 c.2.1 c.2.2.1 c.2.2.2.1 c.2.2.2.2).2.1
noncomputable def ep5_2 {α0 α1 α2 α3 α4 : Type} (ne : Nonempty (α0 × α1 × α2 × α3 × α4)) (P : α0 → α1 → α2 → α3 → α4 → Prop) : α2 := (ep ne fun c => ¬ P c.1 c.2.1 c.2.2.1 c.2.2.2.1 c.2.2.2.2).2.2.1
noncomputable def ep5_3 {α0 α1 α2 α3 α4 : Type} (ne : Nonempty (α0 × α1 × α2 × α3 × α4)) (P : α0 → α1 → α2 → α3 → α4 → Prop) : α3 := (ep ne fun c => ¬ P c.1 c.2.1 c.2.2.1 c.2.2.2.1 c.2.2.2.2).2.2.2.1
noncomputable def ep5_4 {α0 α1 α2 α3 α4 : Type} (ne : Nonempty (α0 × α1 × α2 × α3 × α4)) (P : α0 → α1 → α2 → α3 → α4 → Prop) : α4 := (ep ne fun c => ¬ P c.1 c.2.1 c.2.2.1 c.2.2.2.1 c.2.2.2.2).2.2.2.2
theorem eps5 {α0 α1 α2 α3 α4 : Type} (ne : Nonempty (α0 × α1 × α2 × α3 × α4)) {P : α0 → α1 → α2 → α3 → α4 → Prop} (h : let x0 := ep5_0 ne P; let x1 := ep5_1 ne P; let x2 := ep5_2 ne P; let x3 := ep5_3 ne P; let x4 := ep5_4 ne P; P x0 x1 x2 x3 x4) : ∀ x0 x1 x2 x3 x4, P x0 x1 x2 x3 x4 := fun x0 x1 x2 x3 x4 => ep_all (P := fun c : α0 × α1 × α2 × α3 × α4 => P c.1 c.2.1 c.2.2.1 c.2.2.2.1 c.2.2.2.2) ne h (x0, x1, x2, x3, x4)
noncomputable def ep6_0 {α0 α1 α2 α3 α4 α5 : Type} (ne : Nonempty (α0 × α1 × α2 × α3 × α4 × α5)) (P : α0 → α1 → α2 → α3 → α4 → α5 → Prop) : α0 := (ep ne fun c => ¬ P c.1 c.2.1 c.2.2.1 c.2.2.2.1 c.2.2.2.2.1 c.2.2.2.2.2).1
noncomputable def ep6_1 {α0 α1 α2 α3 α4 α5 : Type} (ne : Nonempty (α0 × α1 × α2 × α3 × α4 × α5)) (P : α0 → α1 → α2 → α3 → α4 → α5 → Prop) : α1 := (ep ne fun c => ¬ P c.1 c.2.1 c.2.2.1 c.2.2.2.1 c.2.2.2.2.1 c.2.2.2.2.2).2.1
noncomputable def ep6_2 {α0 α1 α2 α3 α4 α5 : Type} (ne : Nonempty (α0 × α1 × α2 × α3 × α4 × α5)) (P : α0 → α1 → α2 → α3 → α4 → α5 → Prop) : α2 := (ep ne fun c => ¬ P c.1 c.2.1 c.2.2.1 c.2.2.2.1 c.2.2.2.2.1 c.2.2.2.2.2).2.2.1
noncomputable def ep6_3 {α0 α1 α2 α3 α4 α5 : Type} (ne : Nonempty (α0 × α1 × α2 × α3 × α4 × α5)) (P : α0 → α1 → α2 → α3 → α4 → α5 → Prop) : α3 := (ep ne fun c => ¬ P c.1 c.2.1 c.2.2.1 c.2.2.2.1 c.2.2.2.2.1 c.2.2.2.2.2).2.2.2.1
noncomputable def ep6_4 {α0 α1 α2 α3 α4 α5 : Type} (ne : Nonempty (α0 × α1 × α2 × α3 × α4 × α5)) (P : α0 → α1 → α2 → α3 → α4 → α5 → Prop) : α4 := (ep ne fun c => ¬ P c.1 c.2.1 c.2.2.1 c.2.2.2.1 c.2.2.2.2.1 c.2.2.2.2.2).2.2.2.2.1
noncomputable def ep6_5 {α0 α1 α2 α3 α4 α5 : Type} (ne : Nonempty (α0 × α1 × α2 × α3 × α4 × α5)) (P : α0 → α1 → α2 → α3 → α4 → α5 → Prop) : α5 := (ep ne fun c => ¬ P c.1 c.2.1 c.2.2.1 c.2.2.2.1 c.2.2.2.2.1 c.2.2.2.2.2).2.2.2.2.2
theorem eps6 {α0 α1 α2 α3 α4 α5 : Type} (ne : Nonempty (α0 × α1 × α2 × α3 × α4 × α5)) {P : α0 → α1 → α2 → α3 → α4 → α5 → Prop} (h : let x0 := ep6_0 ne P; let x1 := ep6_1 ne P; let x2 := ep6_2 ne P; let x3 := ep6_3 ne P; let x4 := ep6_4 ne P; let x5 := ep6_5 ne P; P x0 x1 x2 x3 x4 x5) : ∀ x0 x1 x2 x3 x4 x5, P x0 x1 x2 x3 x4 x5 := fun x0 x1 x2 x3 x4 x5 => ep_all (P := fun c : α0 × α1 × α2 × α3 × α4 × α5 => P c.1 c.2.1 c.2.2.1 c.2.2.2.1 c.2.2.2.2.1 c.2.2.2.2.2) ne h (x0, x1, x2, x3, x4, x5)
noncomputable def ep7_0 {α0 α1 α2 α3 α4 α5 α6 : Type} (ne : Nonempty (α0 × α1 × α2 × α3 × α4 × α5 × α6)) (P : α0 → α1 → α2 → α3 → α4 → α5 → α6 → Prop) : α0 := (ep ne fun c => ¬ P c.1 c.2.1 c.2.2.1 c.2.2.2.1 c.2.2.2.2.1 c.2.2.2.2.2.1 c.2.2.2.2.2.2).1
noncomputable def ep7_1 {α0 α1 α2 α3 α4 α5 α6 : Type} (ne : Nonempty (α0 × α1 × α2 × α3 × α4 × α5 × α6)) (P : α0 → α1 → α2 → α3 → α4 → α5 → α6 → Prop) : α1 := (ep ne fun c => ¬ P c.1 c.2.1 c.2.2.1 c.2.2.2.1 c.2.2.2.2.1 c.2.2.2.2.2.1 c.2.2.2.2.2.2).2.1
noncomputable def ep7_2 {α0 α1 α2 α3 α4 α5 α6 : Type} (ne : Nonempty (α0 × α1 × α2 × α3 × α4 × α5 × α6)) (P : α0 → α1 → α2 → α3 → α4 → α5 → α6 → Prop) : α2 := (ep ne fun c => ¬ P c.1 c.2.1 c.2.2.1 c.2.2.2.1 c.2.2.2.2.1 c.2.2.2.2.2.1 c.2.2.2.2.2.2).2.2.1
noncomputable def ep7_3 {α0 α1 α2 α3 α4 α5 α6 : Type} (ne : Nonempty (α0 × α1 × α2 × α3 × α4 × α5 × α6)) (P : α0 → α1 → α2 → α3 → α4 → α5 → α6 → Prop) : α3 := (ep ne fun c => ¬ P c.1 c.2.1 c.2.2.1 c.2.2.2.1 c.2.2.2.2.1 c.2.2.2.2.2.1 c.2.2.2.2.2.2).2.2.2.1
noncomputable def ep7_4 {α0 α1 α2 α3 α4 α5 α6 : Type} (ne : Nonempty (α0 × α1 × α2 × α3 × α4 × α5 × α6)) (P : α0 → α1 → α2 → α3 → α4 → α5 → α6 → Prop) : α4 := (ep ne fun c => ¬ P c.1 c.2.1 c.2.2.1 c.2.2.2.1 c.2.2.2.2.1 c.2.2.2.2.2.1 c.2.2.2.2.2.2).2.2.2.2.1
noncomputable def ep7_5 {α0 α1 α2 α3 α4 α5 α6 : Type} (ne : Nonempty (α0 × α1 × α2 × α3 × α4 × α5 × α6)) (P : α0 → α1 → α2 → α3 → α4 → α5 → α6 → Prop) : α5 := (ep ne fun c => ¬ P c.1 c.2.1 c.2.2.1 c.2.2.2.1 c.2.2.2.2.1 c.2.2.2.2.2.1 c.2.2.2.2.2.2).2.2.2.2.2.1
noncomputable def ep7_6 {α0 α1 α2 α3 α4 α5 α6 : Type} (ne : Nonempty (α0 × α1 × α2 × α3 × α4 × α5 × α6)) (P : α0 → α1 → α2 → α3 → α4 → α5 → α6 → Prop) : α6 := (ep ne fun c => ¬ P c.1 c.2.1 c.2.2.1 c.2.2.2.1 c.2.2.2.2.1 c.2.2.2.2.2.1 c.2.2.2.2.2.2).2.2.2.2.2.2
theorem eps7 {α0 α1 α2 α3 α4 α5 α6 : Type} (ne : Nonempty (α0 × α1 × α2 × α3 × α4 × α5 × α6)) {P : α0 → α1 → α2 → α3 → α4 → α5 → α6 → Prop} (h : let x0 := ep7_0 ne P; let x1 := ep7_1 ne P; let x2 := ep7_2 ne P; let x3 := ep7_3 ne P; let x4 := ep7_4 ne P; let x5 := ep7_5 ne P; let x6 := ep7_6 ne P; P x0 x1 x2 x3 x4 x5 x6) : ∀ x0 x1 x2 x3 x4 x5 x6, P x0 x1 x2 x3 x4 x5 x6 := fun x0 x1 x2 x3 x4 x5 x6 => ep_all (P := fun c : α0 × α1 × α2 × α3 × α4 × α5 × α6 => P c.1 c.2.1 c.2.2.1 c.2.2.2.1 c.2.2.2.2.1 c.2.2.2.2.2.1 c.2.2.2.2.2.2) ne h (x0, x1, x2, x3, x4, x5, x6)
noncomputable def ep8_0 {α0 α1 α2 α3 α4 α5 α6 α7 : Type} (ne : Nonempty (α0 × α1 × α2 × α3 × α4 × α5 × α6 × α7)) (P : α0 → α1 → α2 → α3 → α4 → α5 → α6 → α7 → Prop) : α0 := (ep ne fun c => ¬ P c.1 c.2.1 c.2.2.1 c.2.2.2.1 c.2.2.2.2.1 c.2.2.2.2.2.1 c.2.2.2.2.2.2.1 c.2.2.2.2.2.2.2).1
noncomputable def ep8_1 {α0 α1 α2 α3 α4 α5 α6 α7 : Type} (ne : Nonempty (α0 × α1 × α2 × α3 × α4 × α5 × α6 × α7)) (P : α0 → α1 → α2 → α3 → α4 → α5 → α6 → α7 → Prop) : α1 := (ep ne fun c => ¬ P c.1 c.2.1 c.2.2.1 c.2.2.2.1 c.2.2.2.2.1 c.2.2.2.2.2.1 c.2.2.2.2.2.2.1 c.2.2.2.2.2.2.2).2.1
noncomputable def ep8_2 {α0 α1 α2 α3 α4 α5 α6 α7 : Type} (ne : Nonempty (α0 × α1 × α2 × α3 × α4 × α5 × α6 × α7)) (P : α0 → α1 → α2 → α3 → α4 → α5 → α6 → α7 → Prop) : α2 := (ep ne fun c => ¬ P c.1 c.2.1 c.2.2.1 c.2.2.2.1 c.2.2.2.2.1 c.2.2.2.2.2.1 c.2.2.2.2.2.2.1 c.2.2.2.2.2.2.2).2.2.1
noncomputable def ep8_3 {α0 α1 α2 α3 α4 α5 α6 α7 : Type} (ne : Nonempty (α0 × α1 × α2 × α3 × α4 × α5 × α6 × α7)) (P : α0 → α1 → α2 → α3 → α4 → α5 → α6 → α7 → Prop) : α3 := (ep ne fun c => ¬ P c.1 c.2.1 c.2.2.1 c.2.2.2.1 c.2.2.2.2.1 c.2.2.2.2.2.1 c.2.2.2.2.2.2.1 c.2.2.2.2.2.2.2).2.2.2.1
noncomputable def ep8_4 {α0 α1 α2 α3 α4 α5 α6 α7 : Type} (ne : Nonempty (α0 × α1 × α2 × α3 × α4 × α5 × α6 × α7)) (P : α0 → α1 → α2 → α3 → α4 → α5 → α6 → α7 → Prop) : α4 := (ep ne fun c => ¬ P c.1 c.2.1 c.2.2.1 c.2.2.2.1 c.2.2.2.2.1 c.2.2.2.2.2.1 c.2.2.2.2.2.2.1 c.2.2.2.2.2.2.2).2.2.2.2.1
noncomputable def ep8_5 {α0 α1 α2 α3 α4 α5 α6 α7 : Type} (ne : Nonempty (α0 × α1 × α2 × α3 × α4 × α5 × α6 × α7)) (P : α0 → α1 → α2 → α3 → α4 → α5 → α6 → α7 → Prop) : α5 := (ep ne fun c => ¬ P c.1 c.2.1 c.2.2.1 c.2.2.2.1 c.2.2.2.2.1 c.2.2.2.2.2.1 c.2.2.2.2.2.2.1 c.2.2.2.2.2.2.2).2.2.2.2.2.1
noncomputable def ep8_6 {α0 α1 α2 α3 α4 α5 α6 α7 : Type} (ne : Nonempty (α0 × α1 × α2 × α3 × α4 × α5 × α6 × α7)) (P : α0 → α1 → α2 → α3 → α4 → α5 → α6 → α7 → Prop) : α6 := (ep ne fun c => ¬ P c.1 c.2.1 c.2.2.1 c.2.2.2.1 c.2.2.2.2.1 c.2.2.2.2.2.1 c.2.2.2.2.2.2.1 c.2.2.2.2.2.2.2).2.2.2.2.2.2.1
noncomputable def ep8_7 {α0 α1 α2 α3 α4 α5 α6 α7 : Type} (ne : Nonempty (α0 × α1 × α2 × α3 × α4 × α5 × α6 × α7)) (P : α0 → α1 → α2 → α3 → α4 → α5 → α6 → α7 → Prop) : α7 := (ep ne fun c => ¬ P c.1 c.2.1 c.2.2.1 c.2.2.2.1 c.2.2.2.2.1 c.2.2.2.2.2.1 c.2.2.2.2.2.2.1 c.2.2.2.2.2.2.2).2.2.2.2.2.2.2
theorem eps8 {α0 α1 α2 α3 α4 α5 α6 α7 : Type} (ne : Nonempty (α0 × α1 × α2 × α3 × α4 × α5 × α6 × α7)) {P : α0 → α1 → α2 → α3 → α4 → α5 → α6 → α7 → Prop} (h : let x0 := ep8_0 ne P; let x1 := ep8_1 ne P; let x2 := ep8_2 ne P; let x3 := ep8_3 ne P; let x4 := ep8_4 ne P; let x5 := ep8_5 ne P; let x6 := ep8_6 ne P; let x7 := ep8_7 ne P; P x0 x1 x2 x3 x4 x5 x6 x7) : ∀ x0 x1 x2 x3 x4 x5 x6 x7, P x0 x1 x2 x3 x4 x5 x6 x7 := fun x0 x1 x2 x3 x4 x5 x6 x7 => ep_all (P := fun c : α0 × α1 × α2 × α3 × α4 × α5 × α6 × α7 => P c.1 c.2.1 c.2.2.1 c.2.2.2.1 c.2.2.2.2.1 c.2.2.2.2.2.1 c.2.2.2.2.2.2.1 c.2.2.2.2.2.2.2) ne h (x0, x1, x2, x3, x4, x5, x6, x7)
noncomputable def ep9_0 {α0 α1 α2 α3 α4 α5 α6 α7 α8 : Type} (ne : Nonempty (α0 × α1 × α2 × α3 × α4 × α5 × α6 × α7 × α8)) (P : α0 → α1 → α2 → α3 → α4 → α5 → α6 → α7 → α8 → Prop) : α0 := (ep ne fun c => ¬ P c.1 c.2.1 c.2.2.1 c.2.2.2.1 c.2.2.2.2.1 c.2.2.2.2.2.1 c.2.2.2.2.2.2.1 c.2.2.2.2.2.2.2.1 c.2.2.2.2.2.2.2.2).1
noncomputable def ep9_1 {α0 α1 α2 α3 α4 α5 α6 α7 α8 : Type} (ne : Nonempty (α0 × α1 × α2 × α3 × α4 × α5 × α6 × α7 × α8)) (P : α0 → α1 → α2 → α3 → α4 → α5 → α6 → α7 → α8 → Prop) : α1 := (ep ne fun c => ¬ P c.1 c.2.1 c.2.2.1 c.2.2.2.1 c.2.2.2.2.1 c.2.2.2.2.2.1 c.2.2.2.2.2.2.1 c.2.2.2.2.2.2.2.1 c.2.2.2.2.2.2.2.2).2.1
noncomputable def ep9_2 {α0 α1 α2 α3 α4 α5 α6 α7 α8 : Type} (ne : Nonempty (α0 × α1 × α2 × α3 × α4 × α5 × α6 × α7 × α8)) (P : α0 → α1 → α2 → α3 → α4 → α5 → α6 → α7 → α8 → Prop) : α2 := (ep ne fun c => ¬ P c.1 c.2.1 c.2.2.1 c.2.2.2.1 c.2.2.2.2.1 c.2.2.2.2.2.1 c.2.2.2.2.2.2.1 c.2.2.2.2.2.2.2.1 c.2.2.2.2.2.2.2.2).2.2.1
noncomputable def ep9_3 {α0 α1 α2 α3 α4 α5 α6 α7 α8 : Type} (ne : Nonempty (α0 × α1 × α2 × α3 × α4 × α5 × α6 × α7 × α8)) (P : α0 → α1 → α2 → α3 → α4 → α5 → α6 → α7 → α8 → Prop) : α3 := (ep ne fun c => ¬ P c.1 c.2.1 c.2.2.1 c.2.2.2.1 c.2.2.2.2.1 c.2.2.2.2.2.1 c.2.2.2.2.2.2.1 c.2.2.2.2.2.2.2.1 c.2.2.2.2.2.2.2.2).2.2.2.1
noncomputable def ep9_4 {α0 α1 α2 α3 α4 α5 α6 α7 α8 : Type} (ne : Nonempty (α0 × α1 × α2 × α3 × α4 × α5 × α6 × α7 × α8)) (P : α0 → α1 → α2 → α3 → α4 → α5 → α6 → α7 → α8 → Prop) : α4 := (ep ne fun c => ¬ P c.1 c.2.1 c.2.2.1 c.2.2.2.1 c.2.2.2.2.1 c.2.2.2.2.2.1 c.2.2.2.2.2.2.1 c.2.2.2.2.2.2.2.1 c.2.2.2.2.2.2.2.2).2.2.2.2.1
noncomputable def ep9_5 {α0 α1 α2 α3 α4 α5 α6 α7 α8 : Type} (ne : Nonempty (α0 × α1 × α2 × α3 × α4 × α5 × α6 × α7 × α8)) (P : α0 → α1 → α2 → α3 → α4 → α5 → α6 → α7 → α8 → Prop) : α5 := (ep ne fun c => ¬ P c.1 c.2.1 c.2.2.1 c.2.2.2.1 c.2.2.2.2.1 c.2.2.2.2.2.1 c.2.2.2.2.2.2.1 c.2.2.2.2.2.2.2.1 c.2.2.2.2.2.2.2.2).2.2.2.2.2.1
noncomputable def ep9_6 {α0 α1 α2 α3 α4 α5 α6 α7 α8 : Type} (ne : Nonempty (α0 × α1 × α2 × α3 × α4 × α5 × α6 × α7 × α8)) (P : α0 → α1 → α2 → α3 → α4 → α5 → α6 → α7 → α8 → Prop) : α6 := (ep ne fun c => ¬ P c.1 c.2.1 c.2.2.1 c.2.2.2.1 c.2.2.2.2.1 c.2.2.2.2.2.1 c.2.2.2.2.2.2.1 c.2.2.2.2.2.2.2.1 c.2.2.2.2.2.2.2.2).2.2.2.2.2.2.1
noncomputable def ep9_7 {α0 α1 α2 α3 α4 α5 α6 α7 α8 : Type} (ne : Nonempty (α0 × α1 × α2 × α3 × α4 × α5 × α6 × α7 × α8)) (P : α0 → α1 → α2 → α3 → α4 → α5 → α6 → α7 → α8 → Prop) : α7 := (ep ne fun c => ¬ P c.1 c.2.1 c.2.2.1 c.2.2.2.1 c.2.2.2.2.1 c.2.2.2.2.2.1 c.2.2.2.2.2.2.1 c.2.2.2.2.2.2.2.1 c.2.2.2.2.2.2.2.2).2.2.2.2.2.2.2.1
noncomputable def ep9_8 {α0 α1 α2 α3 α4 α5 α6 α7 α8 : Type} (ne : Nonempty (α0 × α1 × α2 × α3 × α4 × α5 × α6 × α7 × α8)) (P : α0 → α1 → α2 → α3 → α4 → α5 → α6 → α7 → α8 → Prop) : α8 := (ep ne fun c => ¬ P c.1 c.2.1 c.2.2.1 c.2.2.2.1 c.2.2.2.2.1 c.2.2.2.2.2.1 c.2.2.2.2.2.2.1 c.2.2.2.2.2.2.2.1 c.2.2.2.2.2.2.2.2).2.2.2.2.2.2.2.2
theorem eps9 {α0 α1 α2 α3 α4 α5 α6 α7 α8 : Type} (ne : Nonempty (α0 × α1 × α2 × α3 × α4 × α5 × α6 × α7 × α8)) {P : α0 → α1 → α2 → α3 → α4 → α5 → α6 → α7 → α8 → Prop} (h : let x0 := ep9_0 ne P; let x1 := ep9_1 ne P; let x2 := ep9_2 ne P; let x3 := ep9_3 ne P; let x4 := ep9_4 ne P; let x5 := ep9_5 ne P; let x6 := ep9_6 ne P; let x7 := ep9_7 ne P; let x8 := ep9_8 ne P; P x0 x1 x2 x3 x4 x5 x6 x7 x8) : ∀ x0 x1 x2 x3 x4 x5 x6 x7 x8, P x0 x1 x2 x3 x4 x5 x6 x7 x8 := fun x0 x1 x2 x3 x4 x5 x6 x7 x8 => ep_all (P := fun c : α0 × α1 × α2 × α3 × α4 × α5 × α6 × α7 × α8 => P c.1 c.2.1 c.2.2.1 c.2.2.2.1 c.2.2.2.2.1 c.2.2.2.2.2.1 c.2.2.2.2.2.2.1 c.2.2.2.2.2.2.2.1 c.2.2.2.2.2.2.2.2) ne h (x0, x1, x2, x3, x4, x5, x6, x7, x8)
noncomputable def ep10_0 {α0 α1 α2 α3 α4 α5 α6 α7 α8 α9 : Type} (ne : Nonempty (α0 × α1 × α2 × α3 × α4 × α5 × α6 × α7 × α8 × α9)) (P : α0 → α1 → α2 → α3 → α4 → α5 → α6 → α7 → α8 → α9 → Prop) : α0 := (ep ne fun c => ¬ P c.1 c.2.1 c.2.2.1 c.2.2.2.1 c.2.2.2.2.1 c.2.2.2.2.2.1 c.2.2.2.2.2.2.1 c.2.2.2.2.2.2.2.1 c.2.2.2.2.2.2.2.2.1 c.2.2.2.2.2.2.2.2.2).1
noncomputable def ep10_1 {α0 α1 α2 α3 α4 α5 α6 α7 α8 α9 : Type} (ne : Nonempty (α0 × α1 × α2 × α3 × α4 × α5 × α6 × α7 × α8 × α9)) (P : α0 → α1 → α2 → α3 → α4 → α5 → α6 → α7 → α8 → α9 → Prop) : α1 := (ep ne fun c => ¬ P c.1 c.2.1 c.2.2.1 c.2.2.2.1 c.2.2.2.2.1 c.2.2.2.2.2.1 c.2.2.2.2.2.2.1 c.2.2.2.2.2.2.2.1 c.2.2.2.2.2.2.2.2.1 c.2.2.2.2.2.2.2.2.2).2.1
noncomputable def ep10_2 {α0 α1 α2 α3 α4 α5 α6 α7 α8 α9 : Type} (ne : Nonempty (α0 × α1 × α2 × α3 × α4 × α5 × α6 × α7 × α8 × α9)) (P : α0 → α1 → α2 → α3 → α4 → α5 → α6 → α7 → α8 → α9 → Prop) : α2 := (ep ne fun c => ¬ P c.1 c.2.1 c.2.2.1 c.2.2.2.1 c.2.2.2.2.1 c.2.2.2.2.2.1 c.2.2.2.2.2.2.1 c.2.2.2.2.2.2.2.1 c.2.2.2.2.2.2.2.2.1 c.2.2.2.2.2.2.2.2.2).2.2.1
noncomputable def ep10_3 {α0 α1 α2 α3 α4 α5 α6 α7 α8 α9 : Type} (ne : Nonempty (α0 × α1 × α2 × α3 × α4 × α5 × α6 × α7 × α8 × α9)) (P : α0 → α1 → α2 → α3 → α4 → α5 → α6 → α7 → α8 → α9 → Prop) : α3 := (ep ne fun c => ¬ P c.1 c.2.1 c.2.2.1 c.2.2.2.1 c.2.2.2.2.1 c.2.2.2.2.2.1 c.2.2.2.2.2.2.1 c.2.2.2.2.2.2.2.1 c.2.2.2.2.2.2.2.2.1 c.2.2.2.2.2.2.2.2.2).2.2.2.1
noncomputable def ep10_4 {α0 α1 α2 α3 α4 α5 α6 α7 α8 α9 : Type} (ne : Nonempty (α0 × α1 × α2 × α3 × α4 × α5 × α6 × α7 × α8 × α9)) (P : α0 → α1 → α2 → α3 → α4 → α5 → α6 → α7 → α8 → α9 → Prop) : α4 := (ep ne fun c => ¬ P c.1 c.2.1 c.2.2.1 c.2.2.2.1 c.2.2.2.2.1 c.2.2.2.2.2.1 c.2.2.2.2.2.2.1 c.2.2.2.2.2.2.2.1 c.2.2.2.2.2.2.2.2.1 c.2.2.2.2.2.2.2.2.2).2.2.2.2.1
noncomputable def ep10_5 {α0 α1 α2 α3 α4 α5 α6 α7 α8 α9 : Type} (ne : Nonempty (α0 × α1 × α2 × α3 × α4 × α5 × α6 × α7 × α8 × α9)) (P : α0 → α1 → α2 → α3 → α4 → α5 → α6 → α7 → α8 → α9 → Prop) : α5 := (ep ne fun c => ¬ P c.1 c.2.1 c.2.2.1 c.2.2.2.1 c.2.2.2.2.1 c.2.2.2.2.2.1 c.2.2.2.2.2.2.1 c.2.2.2.2.2.2.2.1 c.2.2.2.2.2.2.2.2.1 c.2.2.2.2.2.2.2.2.2).2.2.2.2.2.1
noncomputable def ep10_6 {α0 α1 α2 α3 α4 α5 α6 α7 α8 α9 : Type} (ne : Nonempty (α0 × α1 × α2 × α3 × α4 × α5 × α6 × α7 × α8 × α9)) (P : α0 → α1 → α2 → α3 → α4 → α5 → α6 → α7 → α8 → α9 → Prop) : α6 := (ep ne fun c => ¬ P c.1 c.2.1 c.2.2.1 c.2.2.2.1 c.2.2.2.2.1 c.2.2.2.2.2.1 c.2.2.2.2.2.2.1 c.2.2.2.2.2.2.2.1 c.2.2.2.2.2.2.2.2.1 c.2.2.2.2.2.2.2.2.2).2.2.2.2.2.2.1
noncomputable def ep10_7 {α0 α1 α2 α3 α4 α5 α6 α7 α8 α9 : Type} (ne : Nonempty (α0 × α1 × α2 × α3 × α4 × α5 × α6 × α7 × α8 × α9)) (P : α0 → α1 → α2 → α3 → α4 → α5 → α6 → α7 → α8 → α9 → Prop) : α7 := (ep ne fun c => ¬ P c.1 c.2.1 c.2.2.1 c.2.2.2.1 c.2.2.2.2.1 c.2.2.2.2.2.1 c.2.2.2.2.2.2.1 c.2.2.2.2.2.2.2.1 c.2.2.2.2.2.2.2.2.1 c.2.2.2.2.2.2.2.2.2).2.2.2.2.2.2.2.1
noncomputable def ep10_8 {α0 α1 α2 α3 α4 α5 α6 α7 α8 α9 : Type} (ne : Nonempty (α0 × α1 × α2 × α3 × α4 × α5 × α6 × α7 × α8 × α9)) (P : α0 → α1 → α2 → α3 → α4 → α5 → α6 → α7 → α8 → α9 → Prop) : α8 := (ep ne fun c => ¬ P c.1 c.2.1 c.2.2.1 c.2.2.2.1 c.2.2.2.2.1 c.2.2.2.2.2.1 c.2.2.2.2.2.2.1 c.2.2.2.2.2.2.2.1 c.2.2.2.2.2.2.2.2.1 c.2.2.2.2.2.2.2.2.2).2.2.2.2.2.2.2.2.1
noncomputable def ep10_9 {α0 α1 α2 α3 α4 α5 α6 α7 α8 α9 : Type} (ne : Nonempty (α0 × α1 × α2 × α3 × α4 × α5 × α6 × α7 × α8 × α9)) (P : α0 → α1 → α2 → α3 → α4 → α5 → α6 → α7 → α8 → α9 → Prop) : α9 := (ep ne fun c => ¬ P c.1 c.2.1 c.2.2.1 c.2.2.2.1 c.2.2.2.2.1 c.2.2.2.2.2.1 c.2.2.2.2.2.2.1 c.2.2.2.2.2.2.2.1 c.2.2.2.2.2.2.2.2.1 c.2.2.2.2.2.2.2.2.2).2.2.2.2.2.2.2.2.2
theorem eps10 {α0 α1 α2 α3 α4 α5 α6 α7 α8 α9 : Type} (ne : Nonempty (α0 × α1 × α2 × α3 × α4 × α5 × α6 × α7 × α8 × α9)) {P : α0 → α1 → α2 → α3 → α4 → α5 → α6 → α7 → α8 → α9 → Prop} (h : let x0 := ep10_0 ne P; let x1 := ep10_1 ne P; let x2 := ep10_2 ne P; let x3 := ep10_3 ne P; let x4 := ep10_4 ne P; let x5 := ep10_5 ne P; let x6 := ep10_6 ne P; let x7 := ep10_7 ne P; let x8 := ep10_8 ne P; let x9 := ep10_9 ne P; P x0 x1 x2 x3 x4 x5 x6 x7 x8 x9) : ∀ x0 x1 x2 x3 x4 x5 x6 x7 x8 x9, P x0 x1 x2 x3 x4 x5 x6 x7 x8 x9 := fun x0 x1 x2 x3 x4 x5 x6 x7 x8 x9 => ep_all (P := fun c : α0 × α1 × α2 × α3 × α4 × α5 × α6 × α7 × α8 × α9 => P c.1 c.2.1 c.2.2.1 c.2.2.2.1 c.2.2.2.2.1 c.2.2.2.2.2.1 c.2.2.2.2.2.2.1 c.2.2.2.2.2.2.2.1 c.2.2.2.2.2.2.2.2.1 c.2.2.2.2.2.2.2.2.2) ne h (x0, x1, x2, x3, x4, x5, x6, x7, x8, x9)
/-- one entry taken out of a ledger -/
inductive Sel (l : Addr) (o : Obj) : List (Addr × Obj) → List (Addr × Obj) → Prop
  | head {r : List (Addr × Obj)} : Sel l o ((l, o) :: r) r
  | tail {p : Addr × Obj} {r r' : List (Addr × Obj)} : Sel l o r r' → Sel l o (p :: r) (p :: r')
theorem Sel.mem {l : Addr} {o : Obj} {a b : List (Addr × Obj)} (h : Sel l o a b) : (l, o) ∈ a := by
  induction h with
  | head => exact .head _
  | tail _ ih => exact .tail _ ih
theorem Sel.sub {l : Addr} {o : Obj} {a b : List (Addr × Obj)} (h : Sel l o a b) : ∀ p ∈ b, p ∈ a := by
  induction h with
  | head => exact fun _ h => .tail _ h
  | tail _ ih =>
    intro p hp
    rcases List.mem_cons.mp hp with rfl | hp
    · exact .head _
    · exact .tail _ (ih p hp)

section
variable {prog : Program} {w : World} {A A₀ : Around} {s : Shared} {K : Frag} {L : Addr} {h₀ base : Heap} {m mg mb : Str → Option Value} {news rw ro rest : List (Addr × Obj)} {p : Program} {loose : List Str} {mean : ExcName → Option Value}

theorem code_part {env : Env} {outer : List Env} {R : Result → Shared → Prop} {name qual : Str} {params : Arguments} {body : List Stmt} {scope : Scope} {dV kV doc pm cdv ct oc : Value} {an od : Option Addr} {osl : Array (Option Value)} {f : Addr} {args : Args} {binds : List (Str × Value)}
    (B : Below A₀ base outer h₀) (F : Fr h₀ L s.heap m) (X₀ : K.In h₀) (N : News h₀ L s.heap news) (T : Top p loose mean mg mb h₀) (hA : A.frames = some (env :: outer)) (hf : env.frame = some L) (hke : env.scope.kind = .function)
    (ho : K.lookup f = some ⟨oc, od, .func (fnOf name qual params body scope dV kV doc pm an cdv ct), osl⟩) (hcd : codeIn K cdv qual = true) (hroom : A.depth < recursionLimit)
    (hbind : BindsTo s (fnOf name qual params body scope dV kV doc pm an cdv ct) args binds) (hloc : ∀ y ∈ binds, scope.names.lookup y.1 = some .local)
    (hrw : ∀ q ∈ rw, q ∈ news) (hre : ∀ q ∈ rest, q ∈ news) (hro : ∀ q ∈ ro, q ∈ rest) (ap : ∀ q ∈ rw, ∀ q' ∈ rest, q'.1 ≠ q.1)
    (h : ∀ g L' h₁, Fr h₀ L g m → Fr g L' h₁ (fun y => binds.reverse.lookup y) → News g L' h₁ (rw ++ ro) → Below A base (env :: outer) g → K.In g → Top p loose mean mg mb g → (∀ q ∈ rw ++ ro, q.1 < L') →
      (∀ b o, s.heap.get? b = some o → b ∉ (rw ++ ro).map (·.1) → g.get? b = some o) →
      wpAny (model prog w) (A.deeper (envOf qual scope L' f cdv)) (execs body (envOf qual scope L' f cdv))
        (fun fl s' => LeaveK h₀ L m g (fun r s'' => (News h₀ L s''.heap ro → News h₀ L s''.heap rest) → R r s'') (match fl with | .ret v => v | _ => .none) s')
        (fun e s' => wpAny (model prog w) (A.deeper (envOf qual scope L' f cdv)) (leaving (envOf qual scope L' f cdv) e) (fun _ s'' => R (.error e) s'') (fun e' s'' => R (.error e') s'') s')
        { s with heap := h₁, toks := s.toks + binds.length })
    (hco : scope.isCoroutine = false) (hgen : scope.isGenerator = false) (hk : scope.kind = .function)
    (hcell : ∀ x ∈ scope.names, x.2 ≠ .cell) : codeAny (model prog w) A (.call (.ref f) args) R s := by
  have hmid : ∀ q ∈ rw ++ ro, q ∈ news := fun q hq => (List.mem_append.mp hq).elim (hrw q) fun h => hre q (hro q h)
  have N₁ : News h₀ L s.heap (rw ++ ro) := fun q hq => N q (hmid q hq)
  obtain ⟨FG, BG, st, lv⟩ := groundX (R := fun r s'' => (News h₀ L s''.heap ro → News h₀ L s''.heap rest) → R r s'') B F N₁ hA hf hke
  refine codeAny_call_def (fd := fnOf name qual params body scope dV kV doc pm an cdv ct) (body := body) (binds := binds) hroom ((X₀.keeps F.keep) _ _ ho) rfl (T.nolimit.keeps F.keep) (codeRec_of (X₀.keeps F.keep) hcd) rfl hbind hcell hloc (fun h₁ hns hk₁ => ?_) hco hgen hk
  have gk : ∀ b o, s.heap.get? b = some o → b ∉ (rw ++ ro).map (·.1) → (hideAll s.heap ((rw ++ ro).map (·.1))).get? b = some o := fun b o e hb => hideAll_get _ e hb
  refine wpAny_mono (h _ s.heap.objs.size h₁ FG ⟨hns, fun b o e => hk₁ b o (of_hideAll _ e), Nat.le_of_eq (hideAll_size _ _)⟩
    (fun q hq => ⟨hk₁ _ _ (N₁ q hq).1, Nat.ne_of_lt (Heap.lt_size (N₁ q hq).1), hideAll_none _ (List.mem_map_of_mem hq)⟩) BG (X₀.keeps st) (T.keeps st) (fun q hq => Heap.lt_size (N₁ q hq).1) gk) (fun fl s' hl => ?_) fun _ _ y => y
  have hl' := lv _ _ hl
  obtain ⟨L', m', news', F', N', k⟩ := hl
  refine hl' fun nro q hq => ?_
  have hN := N q (hre q hq)
  refine ⟨?_, hN.2⟩
  by_cases hm : q.1 ∈ (rw ++ ro).map (·.1)
  · obtain ⟨q', hq', e⟩ := List.mem_map.mp hm
    rcases List.mem_append.mp hq' with h1 | h1
    · exact absurd e.symm (ap q' h1 q hq)
    · have h2 := (nro q' h1).1
      have h3 := (N₁ q' hq').1
      rw [e, hN.1] at h3
      rw [← e, h2]; exact h3.symm
  · exact F'.keep _ _ (gk _ _ hN.1 hm)
end
section
variable {prog : Program} {w : World} {A A₀ : Around} {s : Shared} {K : Frag} {L : Addr} {h₀ base : Heap} {m mg mb : Str → Option Value} {news rw ro rest : List (Addr × Obj)} {p : Program} {loose : List Str} {mean : ExcName → Option Value}
theorem code_partC {env : Env} {outer : List Env} {R : Result → Shared → Prop} {name qual : Str} {params : Arguments} {body : List Stmt} {scope : Scope} {dV kV doc pm cdv ct oc : Value} {an od : Option Addr} {osl : Array (Option Value)} {f : Addr} {args : Args} {binds : List (Str × Value)}
    (B : Below A₀ base outer h₀) (F : Fr h₀ L s.heap m) (X₀ : K.In h₀) (N : News h₀ L s.heap news) (T : Top p loose mean mg mb h₀) (hA : A.frames = some (env :: outer)) (hf : env.frame = some L) (hke : env.scope.kind = .function)
    (ho : K.lookup f = some ⟨oc, od, .func (fnOf name qual params body scope dV kV doc pm an cdv ct), osl⟩) (hcd : codeIn K cdv qual = true) (hroom : A.depth < recursionLimit)
    (hbind : BindsTo s (fnOf name qual params body scope dV kV doc pm an cdv ct) args binds) (hkind : (binds.all fun y => scope.names.lookup y.1 == some .local || scope.names.lookup y.1 == some .cell) = true)
    (hnd : ((cellsFrom 0 scope.names []).map (·.1)).Nodup)
    (hrw : ∀ q ∈ rw, q ∈ news) (hre : ∀ q ∈ rest, q ∈ news) (hro : ∀ q ∈ ro, q ∈ rest) (ap : ∀ q ∈ rw, ∀ q' ∈ rest, q'.1 ≠ q.1)
    (h : ∀ g L' h₁ tk cells, Fr h₀ L g m → Fr g L' h₁ (bindL (envOfC qual scope L' f cdv).kindOf binds fun _ => none) → News g L' h₁ (cells ++ (rw ++ ro)) →
      CellsAre (bindC (envOfC qual scope L' f cdv).kindOf binds fun _ => none) (cellsFrom (L' + 1) scope.names []) cells → Below A base (env :: outer) g → K.In g → Top p loose mean mg mb g → (∀ q ∈ rw ++ ro, q.1 < L') →
      (∀ b o, s.heap.get? b = some o → b ∉ (rw ++ ro).map (·.1) → g.get? b = some o) →
      wpAny (model prog w) (A.deeper (envOfC qual scope L' f cdv)) (execs body (envOfC qual scope L' f cdv))
        (fun fl s' => LeaveK h₀ L m g (fun r s'' => (News h₀ L s''.heap ro → News h₀ L s''.heap rest) → R r s'') (match fl with | .ret v => v | _ => .none) s')
        (fun e s' => wpAny (model prog w) (A.deeper (envOfC qual scope L' f cdv)) (leaving (envOfC qual scope L' f cdv) e) (fun _ s'' => R (.error e) s'') (fun e' s'' => R (.error e') s'') s')
        { s with heap := h₁, toks := tk })
    (hco : scope.isCoroutine = false) (hgen : scope.isGenerator = false) (hk : scope.kind = .function) : codeAny (model prog w) A (.call (.ref f) args) R s := by
  have hmid : ∀ q ∈ rw ++ ro, q ∈ news := fun q hq => (List.mem_append.mp hq).elim (hrw q) fun h => hre q (hro q h)
  have N₁ : News h₀ L s.heap (rw ++ ro) := fun q hq => N q (hmid q hq)
  obtain ⟨FG, BG, st, lv⟩ := groundX (R := fun r s'' => (News h₀ L s''.heap ro → News h₀ L s''.heap rest) → R r s'') B F N₁ hA hf hke
  have gk : ∀ b o, s.heap.get? b = some o → b ∉ (rw ++ ro).map (·.1) → (hideAll s.heap ((rw ++ ro).map (·.1))).get? b = some o := fun b o e hb => hideAll_get _ e hb
  refine codeAny_call_function hroom ((X₀.keeps F.keep) _ _ ho) rfl hco hgen rfl (codeRec_of (X₀.keeps F.keep) hcd) (hbind _ _ _ _ ?_)
  refine wpAny_newFunctionEnv_cells hk (kindsX hkind _) fun env' he s' x => ?_
  subst he
  refine ⟨(T.nolimit.keeps F.keep).keeps x.toInCall.keep, codeAny_func ?_⟩
  obtain ⟨h₁, tk, rfl, _⟩ := x.done
  have hk₁ := x.toInCall.keep
  obtain ⟨cells, NC, Y⟩ := Cl.news (h₀ := s.heap) (Nat.le_refl _) fun n c hm => ⟨x.cell n c (lookup_of_mem_nodup (cellsFrom_names scope.names 0 (s.heap.objs.size + 1) [] [] rfl ▸ hnd) hm), x.above n c hm⟩
  refine wpAny_mono (h _ s.heap.objs.size h₁ tk cells FG ⟨x.toInCall.ns, fun b o e => hk₁ b o (of_hideAll _ e), Nat.le_of_eq (hideAll_size _ _)⟩ (fun q hq => ?_) Y BG (X₀.keeps st) (T.keeps st) (fun q hq => Heap.lt_size (N₁ q hq).1) gk) (fun fl s' hl => ?_) fun _ _ y => y
  · rcases List.mem_append.mp hq with hq | hq
    · refine ⟨(NC q hq).1, (NC q hq).2.1, ?_⟩
      cases z : (hideAll s.heap ((rw ++ ro).map (·.1))).get? q.1 with
      | none => rfl
      | some o => have := of_hideAll _ z; rw [(NC q hq).2.2] at this; cases this
    · exact ⟨hk₁ _ _ (N₁ q hq).1, Nat.ne_of_lt (Heap.lt_size (N₁ q hq).1), hideAll_none _ (List.mem_map_of_mem hq)⟩
  have hl' := lv _ _ hl
  obtain ⟨L', m', news', F', N', k⟩ := hl
  refine hl' fun nro q hq => ?_
  have hN := N q (hre q hq)
  refine ⟨?_, hN.2⟩
  by_cases hm : q.1 ∈ (rw ++ ro).map (·.1)
  · obtain ⟨q', hq', e⟩ := List.mem_map.mp hm
    rcases List.mem_append.mp hq' with h1 | h1
    · exact absurd e.symm (ap q' h1 q hq)
    · have h2 := (nro q' h1).1
      have h3 := (N₁ q' hq').1
      rw [e, hN.1] at h3
      rw [← e, h2]; exact h3.symm
  · exact F'.keep _ _ (gk _ _ hN.1 hm)
end

noncomputable def nthV : List Value → Nat → Option Value
  | [], _ => none
  | v :: _, 0 => some v
  | _ :: r, k + 1 => nthV r k
theorem nthV_eq : ∀ (l : List Value) (k : Nat), nthV l k = l[k]?
  | [], _ => rfl
  | _ :: _, 0 => rfl
  | _ :: r, k + 1 => nthV_eq r k
theorem item_L {prog : Program} {w : World} {A : Around} {E : Value → Shared → Prop} {s : Shared} {value slice : PySem.Expr} {L : Addr} {h₀ : Heap} {news : List (Addr × Obj)} {l : Addr} {vs : List Value} {n : Nat} {k : Int} {u : Tok} {v : Value} {Q : Value → Shared → Prop}
    (N : News h₀ L s.heap news) (hm : (l, listOf vs.toArray n) ∈ news) (h0 : 0 ≤ k) (hhi : k < 2 ^ 63) (hx : nthV vs k.toNat = some v) (h : Q v s)
    (hs : subscripted slice false (.ref l) (.int k u) = operate [.ref l, .int k u] (getItem (.ref l) (.int k u))) :
    wpAny (model prog w) A (subscriptTail value slice (.ref l) (.int k u)) Q E s := by
  have hl : s.heap.IsList l vs.toArray := ⟨_, (N _ hm).1, rfl, n, rfl⟩
  exact tail_any hl.typeIs slot_list_getitem.lookup (wpAny_getItem_list hl h0 hhi (by rw [nthV_eq] at hx; simpa using hx) h) hs
theorem np {x y : Int} (h0 : 0 < y) (h : y ≤ 4294967296) : Builtin.divisionGoesByPylong x y = false := by
  refine PyProof.noPylong_of_log2 ?_
  by_cases hz : y.natAbs = 0
  · omega
  · exact Nat.lt_trans ((Nat.log2_lt hz).mpr (show y.natAbs < 2 ^ 33 by omega)) (by decide)
theorem join1 {h₀ h : Heap} {L l : Addr} {o : Obj} {rest tl : List (Addr × Obj)} (kN : News h₀ L h ((l, o) :: tl)) (hR : News h₀ L h [] → News h₀ L h rest) : News h₀ L h ((l, o) :: rest) := by
  intro q hq
  rcases List.mem_cons.mp hq with rfl | hq
  · exact kN _ (.head _)
  · exact hR News.nil q hq
theorem newsc {h₀ h : Heap} {L : Addr} {p : Addr × Obj} {rest all : List (Addr × Obj)} (N : News h₀ L h all) (hm : p ∈ all) (hr : News h₀ L h rest) : News h₀ L h (p :: rest) := by
  intro q hq
  rcases List.mem_cons.mp hq with rfl | hq
  · exact N _ hm
  · exact hr q hq
theorem newsl {h₀ h : Heap} {L : Addr} {l all : List (Addr × Obj)} (N : News h₀ L h all) (hm : SubL l all) : News h₀ L h l := fun q hq => N q (hm.mem q hq)
theorem fresh_of {h₀ hs g h' : Heap} {L L' r : Addr} {o : Obj} {news all : List (Addr × Obj)} {mids : List Addr} (N : News h₀ L hs news) (hst : ∀ b o, hs.get? b = some o → b ∉ mids → g.get? b = some o) (N' : News g L' h' all) (hr : (r, o) ∈ all) (hm : r ∉ mids) : ∀ q ∈ news, q.1 ≠ r := by
  intro q hq e
  have h1 := hst _ _ (N q hq).1 (e ▸ hm)
  have h2 := (N' _ hr).2.2
  rw [e] at h1
  rw [show (r, o).1 = r from rfl, h1] at h2
  cases h2
theorem gr_nonneg (c : Int) : 0 ≤ (if -1 - c > c then -1 - c else c) := by split <;> omega
theorem ite01 {c : Prop} [Decidable c] : (0 : Int) ≤ (if c then 1 else 0) := by split <;> decide
section
variable {prog : Program} {w : World} {A : Around} {E : Value → Shared → Prop} {s : Shared} {env : Env} {h₀ : Heap} {x : Str} {body : List Stmt} {Q : Flow → Shared → Prop}
/-- the frame's map behind some turns: the stored names are anything -/
noncomputable abbrev stoM (stored : List Str) (u m₀ : Str → Option Value) : Str → Option Value := fun z => if stored.contains z then u z else m₀ z
end
section
variable {prog : Program} {w : World} {A : Around} {E : Value → Shared → Prop} {s : Shared} {env : Env} {h₀ : Heap} {target : Expr} {body : List Stmt} {Q : Flow → Shared → Prop}
/-- the end of a turn under an invariant over the frame's map and a ledger of its own choice -/
noncomputable def TurnEnd (h₀ : Heap) (L : Addr) (J : (Str → Option Value) → List (Addr × Obj) → Prop) (own : List (Addr × Obj)) (s₁ s₂ : Shared) : Prop :=
  ∃ h' tk m' news' nx, s₂ = { s₁ with heap := h', toks := tk } ∧ Fr h₀ L h' m' ∧ News h₀ L h' news' ∧ (∀ p ∈ nx, p ∈ news') ∧ (∀ p ∈ own, p ∈ news') ∧ OwnOff own (nx.map (·.1)) ∧ J m' nx
noncomputable def TurnPost (h₀ : Heap) (L : Addr) (J : (Str → Option Value) → List (Addr × Obj) → Prop) (own : List (Addr × Obj)) (s₁ : Shared) (Q : Flow → Shared → Prop) (f : Flow) (s₂ : Shared) : Prop :=
  match f with
  | .ret v => Q (.ret v) s₂
  | .brk => Q .next s₂
  | _ => TurnEnd h₀ L J own s₁ s₂
theorem TurnEnd.intro {L : Addr} {J : (Str → Option Value) → List (Addr × Obj) → Prop} {m' : Str → Option Value} {own news' nx : List (Addr × Obj)} {s₁ : Shared} {h' : Heap} {tk : Nat} (F : Fr h₀ L h' m') (N : News h₀ L h' news')
    (hj : J m' nx) (ha : OwnOff own (nx.map (·.1))) (hn : ∀ p ∈ nx, p ∈ news') (ho : ∀ p ∈ own, p ∈ news') : TurnEnd h₀ L J own s₁ { s₁ with heap := h', toks := tk } := ⟨h', tk, m', news', nx, rfl, F, N, hn, ho, ha, hj⟩
set_option maxHeartbeats 3200000 in
/-- a for over a list of the ledger, whatever its target, by an invariant J; the list itself stands in every ledger of J -/
theorem turns_list {l : Addr} {vs : List Value} {nn : Nat} {m₀ : Str → Option Value} {news : List (Addr × Obj)} (J : Nat → (Str → Option Value) → List (Addr × Obj) → Prop)
    (hh : A.handled = none) (hl : (l, listOf vs.toArray nn) ∈ news) (hkeep : ∀ i m nx, J i m nx → (l, listOf vs.toArray nn) ∈ nx) (F : Fr h₀ env.locals s.heap m₀) (N : News h₀ env.locals s.heap news) (hj : J 0 m₀ news)
    (turn : ∀ i v m₁ nx h tk own, vs[i]? = some v → J i m₁ nx → OwnOff own (nx.map (·.1)) → Fr h₀ env.locals h m₁ → News h₀ env.locals h (nx ++ own) →
      wpAny (model prog w) A (assign target env v) (fun _ s₃ => wpAny (model prog w) A (execs body env) (TurnPost h₀ env.locals (J (i + 1)) own { s with heap := h, toks := tk } Q) E s₃) E { s with heap := h, toks := tk })
    (done : ∀ m₁ nx h tk, J vs.length m₁ nx → Fr h₀ env.locals h m₁ → News h₀ env.locals h nx → Q .next { s with heap := h, toks := tk }) :
    wpAny (model prog w) A (pyIter (.ref l)) (fun it s₂ => TurnsAt prog w A h₀ env target body Q E it s₂) E s := by
  have hol : s.heap.get? l = some (listOf vs.toArray nn) := (N _ hl).1
  have hls : s.heap.IsList l vs.toArray := ⟨_, hol, rfl, nn, rfl⟩
  have hlt : l < s.heap.objs.size := Heap.lt_size hol
  have hne : l ≠ s.heap.objs.size := Nat.ne_of_lt hlt
  refine wpAny_pyIter_list hls ?_
  have W := KTurns.ofWalks (target := target) (Walks.list (prog := prog) (w := w) hh s.heap.objs.size l hne vs.toArray) fun i v s Q E st q => letGo_listiter st.1 q
  have hlen : vs.toArray.size = vs.length := by simp
  rw [hlen] at W
  refine ⟨_, _, _, vs.length, _, _, _, m₀, news, J, rfl, W, ?_, ?_, ?_, ⟨⟨_, Heap.get?_push_size _ rfl, rfl, rfl⟩, hls.at fun o e => Heap.get?_push_of_some _ e⟩, F.push _, (fun p hp => ⟨Heap.get?_push_of_some _ (N p hp).1, (N p hp).2⟩), hj, ?_, ?_⟩
  · intro hm
    rcases List.mem_cons.mp hm with e | hm
    · exact absurd F.ns.lt (e ▸ Nat.lt_irrefl _)
    · exact (N _ hl).2.1 ((List.mem_singleton.mp hm).symm)
  · intro b hb
    rw [List.mem_singleton.mp hb]
    exact next_is_new F
  · intro p hp hI
    exact absurd (Heap.lt_size (N p hp).1) ((List.mem_singleton.mp hI) ▸ Nat.lt_irrefl _)
  · rintro i v m₁ nx hh' tk' own hin hP hJ hoff hown hget hfp hst F₁ N₁
    have hP' : vs[i]? = some v := by simpa using hP
    have hl₁ := hkeep _ _ _ hJ
    have hI0 : h₀.get? s.heap.objs.size = none := next_is_new F
    obtain ⟨⟨oI, hoI, _⟩, _⟩ := id hst
    have hIown : (s.heap.objs.size, oI) ∈ own.filter fun p => decide (p.1 = s.heap.objs.size) := List.mem_filter.mpr ⟨hfp _ (List.mem_cons.mpr (.inl rfl)) hI0 _ hoI, by simp⟩
    have hsep : OwnOff (own.filter fun p => decide (p.1 = s.heap.objs.size)) (nx.map (·.1)) := by
      intro p hp b hb e
      obtain ⟨q, hq, rfl⟩ := List.mem_map.mp hb
      have h1 : p.1 = s.heap.objs.size := by simpa using (List.mem_filter.mp hp).2
      exact hoff q hq (List.mem_singleton.mpr (e ▸ h1))
    have N₂ : News h₀ env.locals hh' (nx ++ own.filter fun p => decide (p.1 = s.heap.objs.size)) := fun p hp => N₁ p ((List.mem_append.mp hp).elim (fun h => List.mem_append.mpr (.inr h)) fun h => List.mem_append.mpr (.inl ((List.mem_filter.mp h).1)))
    have hlo : hh'.get? l = some (listOf vs.toArray nn) := (N₁ _ (List.mem_append.mpr (.inr hl₁))).1
    refine wpAny_mono (turn i v m₁ nx hh' tk' _ hP' hJ hsep F₁ N₂) (fun _ s₃ q => wpAny_mono q (fun f s₂ p => ?_) fun _ _ e => e) fun _ _ e => e
    have fin : TurnEnd h₀ env.locals (J (i + 1)) (own.filter fun p => decide (p.1 = s.heap.objs.size)) { s with heap := hh', toks := tk' } s₂ →
        LoopStepU h₀ env.locals [s.heap.objs.size] own (J (i + 1)) { s with heap := hh', toks := tk' } .next s₂ := by
      rintro ⟨h', tk, m', news', nx', e, F', N', hn, ho, ha, hm⟩
      refine ⟨rfl, h', tk, m', nx', e, F', fun p hp => ?_, fun p hp hq => ?_, hm⟩
      · rcases List.mem_append.mp hp with h | h
        · by_cases hI : p.1 = s.heap.objs.size
          · exact N' p (ho p (List.mem_filter.mpr ⟨h, by simpa using hI⟩))
          · have h1 : p.1 = l := by
              rcases List.mem_cons.mp (hown p h) with h2 | h2
              · exact absurd h2 hI
              · exact List.mem_singleton.mp h2
            have h2 : hh'.get? p.1 = some p.2 := hget p h
            rw [h1, hlo] at h2
            have h3 : p = (l, listOf vs.toArray nn) := Prod.ext h1 (Option.some.inj h2).symm
            rw [h3]
            exact N' _ (hn _ (hkeep _ _ _ hm))
        · exact N' p (hn p h)
      · exact ha _ hIown p.1 (List.mem_map.mpr ⟨p, hp, rfl⟩) (List.mem_singleton.mp hq).symm
    cases f with
    | ret v => exact .ret p
    | brk => exact .brk p
    | next => exact .next (fin p)
    | cont => exact .cont (fin p)
  · rintro h' tk m' news' F' N' _ hJ
    exact done m' news' h' tk hJ F' N'
end
theorem slot_bytes_join : Slot "bytes" "join" "bytes.join" :=
  .of (owner := "bytes") (n := "join") (by rw [typeLookup_type, builtinLookup_eq_fast]; kernel_rfl) (by decide +kernel) (by decide +kernel) (by decide +kernel)
    (by first | exact .inl (by decide +kernel) | exact .inr (by decide +kernel)) (by rw [isSubtype_type]; kernel_rfl)
theorem type_bytes_join : typeOf (.builtin "bytes.join") = pure (.type "method_descriptor") := by show builtinType _ = _; rw [builtinType_eq_fast]; kernel_rfl
theorem entry_bytes_join : entryFor table "bytes.join" = some Builtin.«bytes.join» := entryFor_of_tree (by kernel_rfl)
theorem args_bytes_join_2 (a b : Value) : argsOk "bytes.join" ⟨[a, b], []⟩ := by
  unfold argsOk; rw [signature?_of (id := "bytes.join") (n := ['n', 'i', 'o', 'j']) (o := ['s', 'e', 't', 'y', 'b']) (by kernel_rfl) FB.owner_bytes]; kernel_rfl
open Builtin Builtin.Bytes in
theorem takeQ {b : Array UInt8} {t : Tok} {id : String} : takeBufferQuiet? id (.bytes b t) 0 = pure (some (b, none)) := by
  unfold takeBufferQuiet? takeBuffer?
  rw [KBy.special_eq KBy.look_buffer, KBy.own_buffer]
  simp only [pure_bind]
  rw [show (0 == fullReadOnly) = false by decide +kernel, KBy.buffer_eq]
  rfl
noncomputable abbrev bvals (l : List (Array UInt8 × Tok)) : List Value := l.map fun x => Value.bytes x.1 x.2
theorem take_map_succ {α β : Type} (f : α → β) (l : List α) (i : Nat) (h : i < l.length) : (l.take (i + 1)).map f = (l.take i).map f ++ [f l[i]] := by
  rw [List.take_add_one, List.map_append]; simp [h]
open Builtin Builtin.Bytes in
theorem joinLetGo_b {prog : Program} {w : World} {A : Around} {E : Value → Shared → Prop} {s : Shared} {Q : Unit → Shared → Prop} {keep : List Value} (h : Q () s) : ∀ (l : List (Array UInt8 × Tok)),
    wpAny (model prog w) A (joinLetGo (l.map fun x => (Value.bytes x.1 x.2, none)) keep) Q E s
  | [] => wpAny_pure h
  | x :: r => by
    show wpAny _ _ (letGo _ _ >>= fun _ => joinLetGo _ _) _ _ _
    refine wpAny_bind ?_
    unfold letGo
    refine wpAny_bind (wpAny_holding (wpAny_point ?_))
    exact wpAny_pure (joinLetGo_b h r)
open Builtin Builtin.Bytes in
set_option maxHeartbeats 2000000 in
theorem meets_bytes_join {a : Addr} {l : List (Array UInt8 × Tok)} {t : Tok} (hz0 : l.length ≠ 0) (hz : (l.map (·.1)).foldl (fun n b => n + b.size) 0 ≤ 16777216) (hz2 : (joined #[] (l.map (·.1))).size ≤ 16777216) :
    Meets (Builtin.«bytes.join» ⟨[.bytes #[] t, .ref a], []⟩) (fun _ R s => s.heap.IsList a (bvals l).toArray ∧ ∀ t' k, R (.ok (.ret (.bytes (joined #[] (l.map (·.1))) t'))) { s with toks := k }) := by
  refine .of_wp fun prog w A R s hS => ?_
  obtain ⟨hl, h⟩ := hS
  unfold Builtin.«bytes.join» joinM
  refine wpAny_bind (wpAny_of_eq (a := (Value.bytes #[] t, Value.ref a)) rfl ?_)
  have hT := hl.typeIs
  obtain ⟨o, ho, hc, n, hd⟩ := hl
  refine wpAny_bind ?_
  unfold joinItems
  refine wpAny_bind (wpAny_typeOf hT ?_)
  rw [if_pos (by decide)]
  refine wpAny_pure ?_
  refine wpAny_bind (wpAny_seqItems ho hd ?_)
  dsimp only
  rw [if_pos (by decide)]
  have hl2 : (bvals l).toArray.size = l.length := by simp
  have hit : ∀ i : Nat, (bvals l).toArray.getD i Value.none = (bvals l).getD i Value.none := fun i => by
    by_cases hi : i < l.length
    · simp [Array.getD, List.getD, hi]
    · simp [Array.getD, List.getD, hi]
  generalize hB : (bvals l).toArray = B at hd hl2 hit ⊢
  clear hB
  rcases B with ⟨_ | ⟨x, _ | ⟨y, r⟩⟩⟩
  · simp at hl2; omega
  · match l, hl2 with
    | [x0], _ =>
      have hx := hit 0
      simp [List.getD, Array.getD] at hx
      subst hx
      refine wpAny_bind (wpAny_typeOf (typeIs_bytes _ _ _) ?_)
      rw [if_pos (by decide)]
      refine wpAny_bind (wpAny_rule ?_)
      refine wpAny_pure ⟨_, rfl, ?_⟩
      have e : joined #[] ([x0].map (·.1)) = x0.1 := by simp [joined]
      rw [e] at h
      exact h _ _
  refine wpAny_bind ?_
  generalize (Array.mk (x :: y :: r)) = B at hd hl2 hit ⊢
  rw [Std.Legacy.Range.forIn_eq_forIn_range']
  refine wpAny_forIn_list _ (fun rest r s' => s' = s ∧ ∃ i, i ≤ l.length ∧ rest = List.range' i (l.length - i) ∧ r.1.toList = (l.take i).map (·.1) ∧ r.2 = (l.take i).map fun x => (Value.bytes x.1 x.2, none)) _ ?_ ?_ _ _ ⟨rfl, 0, Nat.zero_le _, ?_, ?_, ?_⟩
  · rintro i rest r s' ⟨rfl, j, hj, hr, h3, h4⟩
    have hji : j < l.length := by
      rcases Nat.lt_or_ge j l.length with h | h
      · exact h
      · rw [show l.length - j = 0 by omega] at hr; simp at hr
    rw [show l.length - j = (l.length - (j + 1)) + 1 by omega, List.range'_succ, List.cons.injEq] at hr
    obtain ⟨rfl, rfl⟩ := hr
    refine wpAny_bind (wpAny_seqItems ho hd ?_)
    dsimp only
    have hno : ¬ (Kind.bytes == Kind.bytearray || r.2.any fun x => x.1.onHeap) = true := by
      rw [h4]
      simp only [List.any_map, Bool.or_eq_true, List.any_eq_true, not_or, not_exists, not_and]
      exact ⟨by decide, fun x _ => by simp [Value.onHeap]⟩
    rw [if_neg hno]
    have hx : B.getD i Value.none = Value.bytes l[i].1 l[i].2 := by
      rw [hit]; simp [List.getD, hji]
    rw [hx]
    refine wpAny_bind (wpAny_holding ?_)
    rw [takeQ]
    refine wpAny_pure ?_
    dsimp only
    refine wpAny_bind (wpAny_seqItems ho hd ?_)
    dsimp only
    rw [if_neg (by simp)]
    refine wpAny_pure ⟨rfl, i + 1, hji, rfl, ?_, ?_⟩
    · rw [Array.toList_push, h3, take_map_succ _ _ _ hji]
    · rw [h4, take_map_succ _ _ _ hji]
  · rintro r s' ⟨rfl, j, hj, hr, h3, h4⟩
    have hjn : j = l.length := by
      have e := congrArg List.length hr
      rw [List.length_nil, List.length_range'] at e
      omega
    subst hjn
    rw [List.take_length] at h3 h4
    obtain ⟨r1, r2⟩ := r
    dsimp only at h3 h4 ⊢
    obtain ⟨r1⟩ := r1
    dsimp only at h3
    subst h3 h4
    refine wpAny_bind (wpAny_of_eq (a := (#[] : Array UInt8)) rfl ?_)
    rw [if_neg (by
      have e : Array.foldl (fun (x1 : Nat) (x2 : Array UInt8) => x1 + x2.size) ((#[] : Array UInt8).size * ((Array.mk (l.map (·.1))).size - 1)) (Array.mk (l.map (·.1))) = (l.map (·.1)).foldl (fun n b => n + b.size) 0 := by
        rw [← Array.foldl_toList]; simp
      rw [e, KBy.tooLong_not hz]; exact Bool.false_ne_true)]
    refine wpAny_bind (wpAny_mkBytes ?_ (by rw [sizeLine_eq]; exact hz2))
    refine wpAny_bind (wpAny_holding (wpAny_point ?_))
    refine wpAny_bind (joinLetGo_b ?_ l)
    exact wpAny_pure ⟨_, rfl, h _ _⟩
  · simp [hl2]
  · simp
  · simp
open Builtin Builtin.Bytes in
section
variable {prog : Program} {w : World} {A : Around} {E : Value → Shared → Prop} {s : Shared} {Q : Value → Shared → Prop} {h₀ : Heap} {L a : Addr} {news : List (Addr × Obj)} {n : Nat} {t t0 t1 t2 : Tok} {b0 b1 b2 : Array UInt8}
theorem join_By {l : List (Array UInt8 × Tok)} (N : News h₀ L s.heap news) (hl : (a, listOf (bvals l).toArray n) ∈ news) (hz0 : l.length ≠ 0) (hz : (l.map (·.1)).foldl (fun n b => n + b.size) 0 ≤ 16777216) (hz2 : (joined #[] (l.map (·.1))).size ≤ 16777216)
    (h : ∀ t' k, Q (.bytes (joined #[] (l.map (·.1))) t') { s with toks := k }) : wpAny (model prog w) A (call (.builtin "bytes.join") [.bytes #[] t, .ref a]) Q E s :=
  call_meets slot_bytes_join (typeIs_bytes _ _ _) entry_bytes_join (args_bytes_join_2 _ _) (meets_bytes_join hz0 hz hz2) ⟨N.isList hl, h⟩
theorem join_1 (N : News h₀ L s.heap news) (hl : (a, listOf #[Value.bytes b0 t0] n) ∈ news) (hz : b0.size ≤ 16777216) (h : ∀ t' k, Q (.bytes b0 t') { s with toks := k }) :
    wpAny (model prog w) A (call (.builtin "bytes.join") [.bytes #[] t, .ref a]) Q E s := by
  have e : joined #[] [b0] = b0 := by simp [joined]
  exact join_By (l := [(b0, t0)]) N hl (by simp) (by simpa using hz) (by simp only [List.map_cons, List.map_nil, e]; exact hz) (by simp only [List.map_cons, List.map_nil, e]; exact h)
theorem join_2 (N : News h₀ L s.heap news) (hl : (a, listOf #[Value.bytes b0 t0, Value.bytes b1 t1] n) ∈ news) (hz : b0.size + b1.size ≤ 16777216) (h : ∀ t' k, Q (.bytes (b0 ++ b1) t') { s with toks := k }) :
    wpAny (model prog w) A (call (.builtin "bytes.join") [.bytes #[] t, .ref a]) Q E s := by
  have e : joined #[] [b0, b1] = b0 ++ b1 := by simp [joined]
  exact join_By (l := [(b0, t0), (b1, t1)]) N hl (by simp) (by simpa using hz) (by simp only [List.map_cons, List.map_nil, e, Array.size_append]; exact hz) (by simp only [List.map_cons, List.map_nil, e]; exact h)
theorem join_3 (N : News h₀ L s.heap news) (hl : (a, listOf #[Value.bytes b0 t0, Value.bytes b1 t1, Value.bytes b2 t2] n) ∈ news) (hz : b0.size + b1.size + b2.size ≤ 16777216) (h : ∀ t' k, Q (.bytes (b0 ++ b1 ++ b2) t') { s with toks := k }) :
    wpAny (model prog w) A (call (.builtin "bytes.join") [.bytes #[] t, .ref a]) Q E s := by
  have e : joined #[] [b0, b1, b2] = b0 ++ b1 ++ b2 := by simp [joined]
  exact join_By (l := [(b0, t0), (b1, t1), (b2, t2)]) N hl (by simp) (by simpa using hz) (by simp only [List.map_cons, List.map_nil, e, Array.size_append]; exact hz) (by simp only [List.map_cons, List.map_nil, e]; exact h)
theorem method_join {b : Array UInt8} {pl : Sem Bool} {Q : Value × List Value → Shared → Prop} (h : Q (.builtin "bytes.join", [.bytes b t]) s) : wpAny (model prog w) A (getMethod (.bytes b t) "join" pl) Q E s :=
  getMethod_builtin (typeIs_bytes _ _ _) FB.plainAttrs_bytes slot_bytes_join type_bytes_join (by intro x e; cases e) h
end
/-- the tree of questions answered by ints, all asked pairs unlike -/
noncomputable def runT {α : Type} (ks : List Int) : KasT α → Option α
  | .ret a => some a
  | .ask i j k => if ks.getD i 0 ≠ ks.getD j 0 ∧ i < ks.length ∧ j < ks.length then runT ks (k (decide (ks.getD i 0 < ks.getD j 0))) else none
theorem runT_wp {α : Type} {ks : List Int} {cmp : Nat → Nat → (Bool → Shared → Prop) → Shared → Prop} {Q : α → Shared → Prop} {a : α} {s : Shared}
    (hc : ∀ i j C, ks.getD i 0 ≠ ks.getD j 0 → i < ks.length → j < ks.length → C (decide (ks.getD i 0 < ks.getD j 0)) s → cmp i j C s) : ∀ (t : KasT α), runT ks t = some a → Q a s → t.kasWp cmp Q s
  | .ret b, h, q => by
    simp only [runT, Option.some.injEq] at h
    subst h; exact q
  | .ask i j k, h, q => by
    simp only [runT] at h
    split at h
    · rename_i hh
      exact hc i j _ hh.1 hh.2.1 hh.2.2 (runT_wp hc (k _) h q)
    · cases h
/-- tuples of the ledger whose first parts are ints -/
inductive TupInts (news : List (Addr × Obj)) : List Value → List Int → Prop
  | nil : TupInts news [] []
  | cons {a : Addr} {o : Obj} {xs : Array Value} {n : Nat} {k : Int} {t : Tok} {r : List Value} {vs : List Value} {ks : List Int} : (a, o) ∈ news → o.cls = .type "tuple" → o.data = .seq xs n → xs.toList = .int k t :: r → TupInts news vs ks → TupInts news (.ref a :: vs) (k :: ks)
theorem TupInts.length {news : List (Addr × Obj)} {vs : List Value} {ks : List Int} (h : TupInts news vs ks) : vs.length = ks.length := by
  induction h with
  | nil => rfl
  | cons _ _ _ _ _ ih => simp [ih]
theorem TupInts.get {news : List (Addr × Obj)} {vs : List Value} {ks : List Int} (h : TupInts news vs ks) : ∀ i, i < ks.length → ∃ a o xs n t r, vs.getD i Value.none = .ref a ∧ (a, o) ∈ news ∧ o.cls = .type "tuple" ∧ o.data = .seq xs n ∧ xs.toList = .int (ks.getD i 0) t :: r := by
  induction h with
  | nil => intro i hi; exact absurd hi (by simp)
  | cons h1 h2 h3 h4 _ ih =>
    intro i hi
    cases i with
    | zero => exact ⟨_, _, _, _, _, _, rfl, h1, h2, h3, h4⟩
    | succ i => exact ih i (by simpa using hi)
theorem TupInts.tups {news : List (Addr × Obj)} {h₀ h : Heap} {L : Addr} {vs : List Value} {ks : List Int} (t : TupInts news vs ks) (N : News h₀ L h news) : ∃ fs, KatTups h vs fs ∧ fs.length = ks.length ∧ ∀ v ∈ fs, ∃ k u, v = Value.int k u := by
  induction t with
  | nil => exact ⟨[], trivial, rfl, by simp⟩
  | @cons a o xs n k t r vs ks h1 h2 h3 h4 _ ih =>
    obtain ⟨fs, x, y, z⟩ := ih
    refine ⟨.int k t :: fs, KatTups.cons (N _ h1).1 h2 h3 ?_ x, by simp [y], ?_⟩
    · rw [← Array.getElem?_toList, h4]; rfl
    · intro v hv
      rcases List.mem_cons.mp hv with rfl | hv
      · exact ⟨_, _, rfl⟩
      · exact z v hv
theorem sorted_tup {prog : Program} {w : World} {A : Around} {E : Value → Shared → Prop} {s : Shared} {h₀ : Heap} {L l : Addr} {m : Str → Option Value} {news : List (Addr × Obj)} {vs out : List Value} {ks : List Int} {n : Nat} {p : Array Nat} {Q : Value → Shared → Prop}
    (F : Fr h₀ L s.heap m) (N : News h₀ L s.heap news) (hl : (l, listOf vs.toArray n) ∈ news) (ht : TupInts news vs ks) (h2 : 2 ≤ vs.length) (h64 : vs.length < 64) (hp : runT ks (kas_sort vs.length) = some p) (ho : (p.toList.map fun i => vs.getD i Value.none) = out)
    (h : ∀ D c h', Fr h₀ L h' m → News h₀ L h' ((D, listOf out.toArray c) :: news) → (∀ q ∈ news, q.1 < D) → Q (.ref D) { s with heap := h' }) :
    wpAny (model prog w) A (call (.builtin "sorted") [.ref l]) Q E s := by
  refine kat_sorted F N (N.isList hl) h2 h64 fun D e1 h' F' N' l1 => ?_
  have ht' : TupInts ((D, seqObj "list" #[] e1) :: news) vs ks := by
    clear hp ho h h2 h64 hl
    induction ht with
    | nil => exact .nil
    | cons h1 h2 h3 h4 _ ih => exact .cons (.tail _ h1) h2 h3 h4 ih
  obtain ⟨fs, hk, hfl, hfi⟩ := ht'.tups N'
  have hl2 := ht.length
  refine kat_kind (T := .type "int") hk (by omega) (fun v hv => ?_) rfl ?_
  · obtain ⟨k, u, rfl⟩ := hfi v hv
    exact Looks.of_pure rfl
  refine runT_wp (ks := ks) (fun i j C hne hi hj hC => ?_) _ hp ?_
  · unfold kas_ask
    obtain ⟨a, o, xs, n1, t1, r1, e1', m1, c1, d1, x1⟩ := ht'.get i hi
    obtain ⟨b, o2, ys, n2, t2, r2, e2', m2, c2, d2, x2⟩ := ht'.get j hj
    rw [e1', e2']
    refine kat_lt (N' _ m1).1 d1 (N' _ m2).1 d2 ?_
    rw [x1, x2, List.zip_cons_cons]
    refine kat_cons (wpAny_eqBool_int ?_)
    have hb : (ks.getD i 0 == ks.getD j 0) = false := by simpa using hne
    rw [hb]
    refine kat_no ?_
    exact oneLt_int hC
  · refine KasFin.intro F' N' (UpdF.head fun q hq => Nat.ne_of_lt (l1 q hq)) fun h2 c F2 N2 => ?_
    rw [ho] at N2
    exact h D c h2 F2 N2 l1
section
variable {K : Type} [DecidableEq K]
noncomputable def withoutH (xs : List (K × Addr × Value)) (k : K) : List (K × Addr × Value) := xs.filter fun x => decide (x.1 ≠ k)
theorem map_eraseIdx' {α β : Type} (f : α → β) : ∀ (l : List α) (j : Nat), (l.map f).eraseIdx j = (l.eraseIdx j).map f
  | [], _ => rfl
  | _ :: _, 0 => rfl
  | x :: r, j + 1 => by simp only [List.map_cons, List.eraseIdx_cons_succ, map_eraseIdx' f r j]
theorem erase_withoutH : ∀ {xs : List (K × Addr × Value)} {j : Nat} {k : K} {p : Addr × Value}, (xs.map (·.1)).Nodup → xs[j]? = some (k, p) → xs.eraseIdx j = withoutH xs k := by
  intro xs
  induction xs with
  | nil => intro j k p _ h; simp at h
  | cons x r ih =>
    intro j k p hn h
    rw [List.map_cons, List.nodup_cons] at hn
    cases j with
    | zero =>
      simp only [List.getElem?_cons_zero, Option.some.injEq] at h
      subst h
      have e : withoutH r k = r := by
        unfold withoutH
        rw [List.filter_eq_self]
        intro y hy
        have : y.1 ≠ k := fun e => hn.1 (List.mem_map.mpr ⟨y, hy, e⟩)
        simpa using this
      simp only [List.eraseIdx_cons_zero]
      unfold withoutH at e ⊢
      rw [List.filter_cons_of_neg (by simp)]
      exact e.symm
    | succ j =>
      simp only [List.getElem?_cons_succ] at h
      have hne : x.1 ≠ k := fun e => hn.1 (e ▸ List.mem_map_of_mem (List.mem_of_getElem? h))
      rw [List.eraseIdx_cons_succ, ih hn.2 h]
      unfold withoutH
      rw [List.filter_cons_of_pos (by simpa using hne)]
end
section
variable {prog : Program} {w : World} {K : Type} [DecidableEq K] {knd : HeapKind prog w K} {A : Around} {E : Value → Shared → Prop} {s : Shared}
theorem takeOut_heap {d a : Addr} {xs : List (K × Addr × Value)} {k : K} {p : Addr × Value} {Q : Option DictEntry → Shared → Prop} (hu : knd.room A) (hkey : knd.is s.heap k a) (hm : s.heap.DictOfH knd d xs) (hp : atKey xs k = some p)
    (hQ : ∀ e h', e.val = p.2 → h'.DictOfH knd d (withoutH xs k) → Heap.SameBut d s.heap h' → Q (some e) { s with heap := h', toks := s.toks + knd.draws k }) (hsz : xs.length ≤ sizeLine) :
    wpAny (model prog w) A (Builtin.Dict.takeOut d (.ref a)) Q E s := by
  obtain ⟨o, es, ep, ho, hc, hd, he, his, hn⟩ := hm
  have hes := size_of_entries he
  unfold Builtin.Dict.takeOut
  refine wpAny_holding ?_
  refine wpAny_bind (knd.pyHash hu hkey (wpAny_bind (wpAny_dictFind_heap (s := { s with toks := s.toks + knd.draws k }) hu hkey ho hd he his hn ?_ ?_)))
  · intro hno
    rw [atKey_none_of_get hno] at hp
    cases hp
  · intro j q hj
    rw [atKey_of_get hn hj] at hp
    cases hp
    refine wpAny_bind (wpAny_dictEntries (s := { s with toks := s.toks + knd.draws k }) ho hd ?_)
    rw [entry_at he j, hj]
    refine wpAny_bind (wpAny_updateDictKeys (hz := by omega) (s := { s with toks := s.toks + knd.draws k }) ho hd (wpAny_pure (hQ _ _ rfl ⟨_, _, ep + 1, Heap.get?_update_self _ ho (Obj.isFreed_of_dict (Obj.data_mapDictKeys hd _)), hc.mapDictKeys _, Obj.data_mapDictKeys hd _, ?_, ?_, ?_⟩ (Heap.SameBut.update ..))))
    · have h1 : (es.eraseIdxIfInBounds j).toList = es.toList.eraseIdx j := by obtain ⟨l⟩ := es; simp
      rw [h1, he, ← erase_withoutH hn hj, map_eraseIdx']
    · intro x hx
      have hx' : x ∈ xs := (List.mem_filter.mp hx).1
      exact knd.keeps (his x hx') ho hd (Heap.SameBut.update ..)
    · exact hn.sublist (List.Sublist.map _ (List.filter_sublist ..))
theorem meets_popH (d a : Addr) {k : K} :
    MeetsIn prog w (Builtin.«dict.pop» ⟨[.ref d, .ref a], []⟩) (fun A R s => knd.room A.in1 ∧ ∃ xs p, knd.is s.heap k a ∧ s.heap.DictOfH knd d xs ∧ xs.length ≤ sizeLine ∧ atKey xs k = some p ∧
      ∀ h', h'.DictOfH knd d (withoutH xs k) → Heap.SameBut d s.heap h' → R (.ok (.ret p.2)) { s with heap := h', toks := s.toks + knd.draws k }) :=
  .of_wp fun A R s ⟨hu, xs, p, hkey, hm, hsz, hp, h⟩ => by
    unfold Builtin.«dict.pop»
    refine wpAny_bind ?_
    unfold Builtin.Dict.keyAndDefault
    refine wpAny_bind (wpAny_notOrdered_dict hm.typeIs ?_)
    show wpAny _ _ (pure (d, Value.ref a, none)) _ _ s
    refine wpAny_pure ?_
    dsimp only
    rw [if_neg (by simp [keyPart])]
    obtain ⟨o, es, ep, ho, hc, hd, he, his, hn⟩ := id hm
    refine wpAny_bind (wpAny_dictEntries ho hd (wpAny_bind (wpAny_pure ?_)))
    have hne : es.isEmpty = false := by
      have e1 := size_of_entries he
      cases xs with
      | nil => simp [atKey] at hp
      | cons x r =>
        simp only [List.length_cons] at e1
        rw [Array.isEmpty_eq_false_iff]
        intro e; rw [e] at e1; simp at e1
    rw [hne]
    simp only [Bool.false_eq_true, if_false]
    refine wpAny_bind (takeOut_heap hu hkey hm hp (fun e h' hev hm' hs' => ?_) hsz)
    simp only [Option.isNone_some, Bool.false_eq_true, if_false]
    exact wpAny_bind (wpAny_letGo (wpAny_pure ⟨e.val, rfl, by rw [hev]; exact h h' hm' hs'⟩))
end
section
variable {prog : Program} {w : World} {A : Around} {E : Value → Shared → Prop} {s : Shared} {h₀ h : Heap} {L d a : Addr} {m : Str → Option Value} {news : List (Addr × Obj)} {g : Obj → List (Addr × Obj)} {o ok : Obj} {xs : List (List Int × Addr × Value)} {k : List Int} {p : Addr × Value} {v : Value}
/-- a dict whose keys are tuples of ints -/
noncomputable def WObj (prog : Program) (w : World) (o : Obj) (xs : List (List Int × Addr × Value)) : Prop :=
  o.ExactDict ∧ ∃ es ep, o.data = .dict es ep ∧ es.toList = xs.map (entryOfKey (tupleKind (intKind prog w))) ∧ (xs.map (·.1)).Nodup
noncomputable def WKeys (prog : Program) (w : World) (news : List (Addr × Obj)) (xs : List (List Int × Addr × Value)) : Prop := ∀ x ∈ xs, ∃ ok, (x.2.1, ok) ∈ news ∧ TupKeyObj (intKind prog w) x.1 ok
theorem w_at (N : News h₀ L h news) (hm : (d, o) ∈ news) (hw : WObj prog w o xs) (hk : WKeys prog w news xs) : h.DictOfH (tupleKind (intKind prog w)) d xs := by
  obtain ⟨hc, es, ep, hd, he, hn⟩ := hw
  exact ⟨o, es, ep, N.get hm, hc, hd, he, fun x hx => let ⟨_, hmk, t⟩ := hk x hx; t.key (N.get hmk), hn⟩
theorem w_of {h' : Heap} (hm : h'.DictOfH (tupleKind (intKind prog w)) d xs) : ∃ o', h'.get? d = some o' ∧ WObj prog w o' xs := by
  obtain ⟨o, es, ep, ho, hc, hd, he, _, hn⟩ := hm
  exact ⟨o, ho, hc, es, ep, hd, he, hn⟩
theorem w_notin {b : Bool} {Q : Value → Shared → Prop} (hu : A.units + 1 < cLine) (N : News h₀ L s.heap news) (hm : (d, o) ∈ news) (hw : WObj prog w o xs) (hk : WKeys prog w news xs) (hka : (a, ok) ∈ news) (tk : TupKeyObj (intKind prog w) k ok) (lo : (d == sysModules) = false)
    (hb : (!(atKey xs k).isSome) = b) (h : ∀ tk', Q (.bool b) { s with toks := tk' }) : wpAny (model prog w) A (compareOp .NotIn (.ref a) (.ref d)) Q E s :=
  wpAny_notIn_heap (tupleKind_room_in1 hu) (tk.key (N.get hka)) lo (w_at N hm hw hk) (by rw [hb]; exact h _)
theorem w_item {value slice : PySem.Expr} {Q : Value → Shared → Prop} (hu : A.units + 1 < cLine) (N : News h₀ L s.heap news) (hm : (d, o) ∈ news) (hw : WObj prog w o xs) (hk : WKeys prog w news xs) (hka : (a, ok) ∈ news) (tk : TupKeyObj (intKind prog w) k ok)
    (hp : atKey xs k = some p) (h : ∀ tk', Q p.2 { s with toks := tk' })
    (hs : subscripted slice false (.ref d) (.ref a) = operate [.ref d, .ref a] (getItem (.ref d) (.ref a))) (hg : ∀ r, letTemporaryGo value (.ref d) r = pure ()) :
    wpAny (model prog w) A (subscriptTail value slice (.ref d) (.ref a)) Q E s :=
  have hd := w_at (prog := prog) (w := w) N hm hw hk
  subscriptTail_builtin hd.typeIs slot_dict_getitem.lookup (wpAny_getItem_heap (tupleKind_room_in1 hu) (tk.key (N.get hka)) hd hp (h _)) hs hg
theorem w_set {Q : Unit → Shared → Prop} (hu : A.units + 1 < cLine) (F : Fr h₀ L s.heap m) (N : News h₀ L s.heap news) (U : UpdF d o news g) (hw : WObj prog w o xs) (hk : WKeys prog w news xs) (hka : (a, ok) ∈ news) (tk : TupKeyObj (intKind prog w) k ok)
    (hz : xs.length ≤ 16777216) (h : ∀ h' o' tk', Fr h₀ L h' m → News h₀ L h' (g o') → WObj prog w o' (storedH xs k a v) → Q () { s with heap := h', toks := tk' }) : wpAny (model prog w) A (setItem (.ref d) (.ref a) v) Q E s := by
  obtain ⟨pre, post, rfl, hg, x1, x2⟩ := U.split
  have hm : (d, o) ∈ pre ++ (d, o) :: post := List.mem_append_right _ (.head _)
  have hn := N _ hm
  refine wpAny_setItem_heap (hsz := by rw [sizeLine_eq]; exact hz) (tupleKind_room_in1 hu) (tk.key (N.get hka)) (w_at N hm hw hk) fun h' hm' hs => ?_
  obtain ⟨o', ho', hw'⟩ := w_of hm'
  exact h h' o' _ (F.change hs hn.2.1 hn.2.2) (hg o' ▸ N.setIn x1 x2 hs ho') hw'
theorem w_pop {Q : Value → Shared → Prop} (hu : A.units + 1 < cLine) (F : Fr h₀ L s.heap m) (N : News h₀ L s.heap news) (U : UpdF d o news g) (hw : WObj prog w o xs) (hk : WKeys prog w news xs) (hka : (a, ok) ∈ news) (tk : TupKeyObj (intKind prog w) k ok)
    (hp : atKey xs k = some p) (hz : xs.length ≤ 16777216) (h : ∀ h' o' tk', Fr h₀ L h' m → News h₀ L h' (g o') → WObj prog w o' (withoutH xs k) → Q p.2 { s with heap := h', toks := tk' }) : wpAny (model prog w) A (call (.builtin "dict.pop") [.ref d, .ref a]) Q E s := by
  obtain ⟨pre, post, rfl, hg, x1, x2⟩ := U.split
  have hm : (d, o) ∈ pre ++ (d, o) :: post := List.mem_append_right _ (.head _)
  have hn := N _ hm
  have hd := w_at (prog := prog) (w := w) N hm hw hk
  refine call_meetsIn PySem.F.slot_dict_pop hd.typeIs PySem.F.entry_dict_pop (PySem.F.args_dict_pop_2 _ _) (meets_popH (knd := tupleKind (intKind prog w)) d a) ⟨tupleKind_room_in1 hu, xs, p, tk.key (N.get hka), hd, by rw [sizeLine_eq]; exact hz, hp, fun h' hm' hs => ?_⟩
  obtain ⟨o', ho', hw'⟩ := w_of hm'
  exact h h' o' _ (F.change hs hn.2.1 hn.2.2) (hg o' ▸ N.setIn x1 x2 hs ho') hw'
theorem w_method {name : Str} {id : String} {pl : Sem Bool} {Q : Value × List Value → Shared → Prop} (slot : Slot "dict" name id) (ty : typeOf (.builtin id) = pure (.type "method_descriptor")) (N : News h₀ L s.heap news) (hm : (d, o) ∈ news) (hw : WObj prog w o xs) (hk : WKeys prog w news xs) (h : Q (.builtin id, [.ref d]) s) :
    wpAny (model prog w) A (getMethod (.ref d) name pl) Q E s :=
  have hd := w_at (prog := prog) (w := w) N hm hw hk
  getMethod_builtin hd.typeIs PySem.F.plainAttrs_dict slot ty (dictOfH_noDict hd) h
theorem WKeys.mono {news' : List (Addr × Obj)} (hs : ∀ p ∈ news, p ∈ news') (h : WKeys prog w news xs) : WKeys prog w news' xs := fun x hx => let ⟨ok, hm, t⟩ := h x hx; ⟨ok, hs _ hm, t⟩
theorem key4 {x1 x2 x3 x4 : Int} {t1 t2 t3 t4 : Tok} : TupKeyObj (intKind prog w) [x1, x2, x3, x4] { cls := .type "tuple", data := .seq #[Value.int x1 t1, Value.int x2 t2, Value.int x3 t3, Value.int x4 t4] } :=
  ⟨rfl, _, _, rfl, .cons (intKind_is _ _ _ _) (.cons (intKind_is _ _ _ _) (.cons (intKind_is _ _ _ _) (.cons (intKind_is _ _ _ _) .nil)))⟩
end
section
variable {prog : Program} {w : World} {A : Around} {E : Value → Shared → Prop} {s : Shared}
/-- a dict by its entries alone, whatever the keys are -/
noncomputable def RawDict (h : Heap) (d : Addr) (es : Array DictEntry) (ep : Nat) : Prop := ∃ o, h.get? d = some o ∧ o.ExactDict ∧ o.data = .dict es ep
theorem RawDict.at {h h' : Heap} {d : Addr} {es : Array DictEntry} {ep : Nat} (x : RawDict h d es ep) (e : ∀ o, h.get? d = some o → h'.get? d = some o) : RawDict h' d es ep := let ⟨o, ho, r⟩ := x; ⟨o, e _ ho, r⟩
theorem raw_iter {d : Addr} {es : Array DictEntry} {ep : Nat} {Q : Value → Shared → Prop} (hd : (d == sysModules) = false) (hm : RawDict s.heap d es ep)
    (hQ : Q (.ref s.heap.objs.size) { s with heap := s.heap.push { cls := .type "dict_keyiterator", data := .fields #[.ref d, .int 0 0, .int es.size 0, .int ep 0] } }) :
    wpAny (model prog w) A (pyIter (.ref d)) Q E s := by
  obtain ⟨o, ho, hc, hdat⟩ := id hm
  have hT : s.TypeIs (.ref d) "dict" := ⟨o, ho, hc.1⟩
  refine wpAny_pyIter_slot hT F.slot_dict_iter (wpAny_call_entry F.slot_dict_iter hT F.entry_dict_iter ?_ (F.args_dict_iter_1 _))
  unfold Builtin.«dict.__iter__»
  refine wpAny_bind ?_
  unfold Builtin.Dict.dictSlotNone
  refine wpAny_bind (wpAny_notOrdered_dict hT ?_)
  show wpAny _ _ (pure (Value.ref d)) _ _ s
  refine wpAny_pure ?_
  show wpAny _ _ (Builtin.Dict.showsAll d >>= _) _ _ s
  unfold Builtin.Dict.showsAll
  rw [if_neg (by rw [hd]; exact Bool.false_ne_true)]
  refine wpAny_bind (wpAny_pure ?_)
  refine wpAny_bind (wpAny_dictEntries ho hdat ?_)
  refine wpAny_bind (wpAny_dictEpoch ho hdat ?_)
  exact wpAny_bind (wpAny_newObj_type (wpAny_pure ⟨_, rfl, "dict_keyiterator", _, ⟨_, Heap.get?_push_size _ rfl, rfl⟩, F.slot_dict_keyiterator_next.lookup, hQ⟩))
theorem raw_next {it d : Addr} {i ep : Nat} {es : Array DictEntry} {e : DictEntry} {Q : Option Value → Shared → Prop} (hit : s.heap.IsKeyIter it d i es.size ep) (hm : RawDict s.heap d es ep) (hx : es[i]? = some e)
    (hQ : ∀ h', h'.IsKeyIter it d (i + 1) es.size ep → Heap.SameBut it s.heap h' → Q (some e.key) { s with heap := h' }) : wpAny (model prog w) A (pyNext (.ref it)) Q E s := by
  obtain ⟨o, ho, hc, hd⟩ := id hit
  obtain ⟨od, hod, hcd, hdd⟩ := id hm
  unfold pyNext
  refine wpAny_bind (wpAny_attempt (wpAny_callSpecial?_slot (name := Str.ofString "__next__") hit.typeIs F.slot_dict_keyiterator_next
    (wpAny_call_entry F.slot_dict_keyiterator_next hit.typeIs F.entry_dict_keyiterator_next ?_ (F.args_dict_keyiterator_next_1 _))))
  refine wpAny_bind (wpAny_pure ?_)
  refine wpAny_bind ?_
  refine wpAny_bind ?_
  refine wpAny_bind (wpAny_typeNameOfWhole_keyiter hit.typeIs (wpAny_pure ?_))
  refine wpAny_bind (wpAny_fieldsOf ho hd ?_)
  have hown : Builtin.Dict_items.ownsTuple "dict_keyiterator" = false := by decide
  simp only [hown, Bool.false_eq_true, if_false]
  show wpAny _ _ (if (Value.ref d == Value.none) = true then _ else _) _ _ s
  rw [if_neg (show ¬ ((Value.ref d == Value.none) = true) from Bool.false_ne_true)]
  refine wpAny_bind (wpAny_pure ?_)
  refine wpAny_bind (wpAny_dictEntries hod hdd ?_)
  rw [if_neg (by simp)]
  refine wpAny_bind (wpAny_pure ?_)
  refine wpAny_bind (wpAny_dictEpoch hod hdd ?_)
  rw [if_neg (by simp)]
  refine wpAny_pure ?_
  simp only [show ¬ ((i : Int) < 0) from by omega, if_false, Int.toNat_natCast, hx]
  refine wpAny_bind ?_
  refine wpAny_bind (wpAny_typeNameOfWhole_keyiter hit.typeIs (wpAny_pure ?_))
  refine wpAny_bind (wpAny_isOneOf_keyiter hit.typeIs ?_)
  show wpAny _ _ (setField (.ref it) 1 (rawInt ((i : Int) + 1)) >>= _) _ _ s
  refine wpAny_bind (wpAny_setField ho hd (by simp) ?_)
  have hit' : (s.heap.update it (Obj.mapFields (·.setIfInBounds 1 (rawInt ((i : Int) + 1))))).IsKeyIter it d (i + 1) es.size ep :=
    ⟨_, Heap.get?_update_self _ ho (Obj.isFreed_of_fields (Obj.data_mapFields hd _)), (Obj.cls_mapFields ..).trans hc, by rw [Obj.data_mapFields hd]; simp [rawInt]⟩
  refine wpAny_bind (wpAny_holding ?_)
  refine wpAny_bind (wpAny_isOneOf_keyiter (s := { s with heap := s.heap.update it (Obj.mapFields (·.setIfInBounds 1 (rawInt ((i : Int) + 1)))) }) hit'.typeIs ?_)
  show wpAny _ _ (pure e.key) _ _ _
  exact wpAny_pure (wpAny_pure ⟨_, rfl, wpAny_pure (hQ _ hit' (Heap.SameBut.update ..))⟩)
theorem raw_end {it d : Addr} {i ep : Nat} {es : Array DictEntry} {Q : Option Value → Shared → Prop} (hh : A.handled = none) (hit : s.heap.IsKeyIter it d i es.size ep) (hm : RawDict s.heap d es ep) (hge : es.size ≤ i)
    (hQ : ∀ h', Heap.ExtBut it s.heap h' → Q none { s with heap := h' }) : wpAny (model prog w) A (pyNext (.ref it)) Q E s := by
  obtain ⟨o, ho, hc, hd⟩ := id hit
  obtain ⟨od, hod, hcd, hdd⟩ := id hm
  unfold pyNext
  refine wpAny_bind (wpAny_attempt (wpAny_callSpecial?_slot (name := Str.ofString "__next__") hit.typeIs F.slot_dict_keyiterator_next
    (wpAny_call_entry F.slot_dict_keyiterator_next hit.typeIs F.entry_dict_keyiterator_next ?_ (F.args_dict_keyiterator_next_1 _))))
  refine wpAny_bind (wpAny_pure ?_)
  refine wpAny_bind ?_
  refine wpAny_bind ?_
  refine wpAny_bind (wpAny_typeNameOfWhole_keyiter hit.typeIs (wpAny_pure ?_))
  refine wpAny_bind (wpAny_fieldsOf ho hd ?_)
  have hown : Builtin.Dict_items.ownsTuple "dict_keyiterator" = false := by decide
  simp only [hown, Bool.false_eq_true, if_false]
  show wpAny _ _ (if (Value.ref d == Value.none) = true then _ else _) _ _ s
  rw [if_neg (show ¬ ((Value.ref d == Value.none) = true) from Bool.false_ne_true)]
  refine wpAny_bind (wpAny_pure ?_)
  refine wpAny_bind (wpAny_dictEntries hod hdd ?_)
  rw [if_neg (by simp)]
  refine wpAny_bind (wpAny_pure ?_)
  refine wpAny_bind (wpAny_dictEpoch hod hdd ?_)
  rw [if_neg (by simp)]
  refine wpAny_pure ?_
  simp only [show ¬ ((i : Int) < 0) from by omega, if_false, Int.toNat_natCast, Array.getElem?_eq_none hge]
  refine wpAny_bind ?_
  refine wpAny_bind (wpAny_typeNameOfWhole_keyiter hit.typeIs (wpAny_pure ?_))
  show wpAny _ _ (setField (.ref it) 0 .none >>= _) _ _ s
  refine wpAny_bind (wpAny_setField ho hd (by simp) ?_)
  show wpAny _ _ (newExc (.type "StopIteration") [] >>= _) _ _ _
  refine wpAny_bind ?_
  simp only [newExc, newTuple]
  refine wpAny_bind (wpAny_newObj_type ?_ (by size_fits))
  refine wpAny_bind (m := firstArgMember _ _) (wpAny_of_eq (a := Value.none) (by first | rfl | (simp only [firstArgMember]; rfl)) ?_)
  refine wpAny_newObj_type ?_ (by size_fits)
  simp only [raiseNew]
  refine wpAny_bind (wpAny_handled ?_)
  rw [show A.in1.handled = none from hh]
  refine wpAny_bind (wpAny_pure (wpAny_throw ?_))
  refine wpAny_bind (wpAny_isInstance (T := "StopIteration") (b := true) ⟨_, Heap.get?_push_size _ rfl, rfl⟩ isSubtype_stop ?_)
  exact wpAny_pure (hQ _ (((Heap.SameBut.update ..).extBut.push _).push _))
theorem raw_walks (hh : A.handled = none) (I d : Addr) (hne : d ≠ I) (es : Array DictEntry) (ep : Nat) :
    Walks prog w A I [I, d] [I] es.size (fun i v => ∃ e, es[i]? = some e ∧ v = e.key) (fun i h => h.IsKeyIter I d i es.size ep ∧ RawDict h d es ep) where
  sub := fun b hb => by simp at hb; simp [hb]
  frame := fun _ _ _ st hk => ⟨st.1.at fun o e => hk I (by simp) o e, st.2.at fun o e => hk d (by simp) o e⟩
  item := fun i s Q E hi st hQ => by
    have hx : es[i]? = some es[i] := by simp [hi]
    refine raw_next st.1 st.2 hx fun h' hit' hs' => ?_
    exact hQ _ h' s.toks ⟨_, hx, rfl⟩ ⟨hit', st.2.at fun o e => hs'.extBut d o hne e⟩ fun b o hb e => hs'.extBut b o (fun h => hb (by simp [h])) e
  done := fun s Q E st hQ => raw_end hh st.1 st.2 (Nat.le_refl _) fun h' he' => hQ h' s.toks fun b o hb e => he' b o (fun h => hb (by simp [h])) e
  self := fun _ _ _ _ st hQ => wpAny_pyIter_keyiter st.1 hQ
end
open LCg
section
variable {prog : Program} {w : World} {K : Type} [DecidableEq K] {knd : HeapKind prog w K} {A : Around} {E : Value → Shared → Prop} {s : Shared} {h₀ : Heap} {L : Addr} {m : Str → Option Value} {env : Env}
theorem raw_walksH (hh : A.handled = none) (I d : Addr) (hne : d ≠ I) (xs : List (K × Addr × Value)) {es : Array DictEntry} (ep : Nat) (he : es.toList = xs.map (entryOfKey knd)) :
    Walks prog w A I [I, d] [I] xs.length (fun i v => (xs[i]?.map fun x => Value.ref x.2.1) = some v) (fun i h => h.IsKeyIter I d i es.size ep ∧ RawDict h d es ep) := by
  have W := raw_walks (prog := prog) (w := w) hh I d hne es ep
  rw [size_of_entries he] at W
  rw [size_of_entries he]
  refine { sub := W.sub, frame := W.frame, done := W.done, self := W.self, item := fun i s Q E hi st hQ => W.item i s Q E hi st fun v h' tk hP => hQ v h' tk ?_ }
  obtain ⟨e, h1, rfl⟩ := hP
  rw [entry_at he] at h1
  cases hx : xs[i]? with
  | none => rw [hx] at h1; cases h1
  | some x => rw [hx] at h1; cases h1; rfl
noncomputable def SrcD (prog : Program) (w : World) (knd : HeapKind prog w K) (A : Around) (h₀ : Heap) (L : Addr) (m : Str → Option Value) (env : Env) (elt : Expr) (x : Str) (scope : Scope) (cl : List (Str × Addr)) (Fin : Shared → List Value → List (Addr × Obj) → Prop) (xv : Value) (s₁ : Shared) : Prop :=
  ∃ (d : Addr) (o : Obj) (es : Array DictEntry) (ep : Nat) (xs : List (K × Addr × Value)) (news : List (Addr × Obj)), xv = .ref d ∧ A.handled = none ∧ (d == sysModules) = false ∧ Fr h₀ L s₁.heap m ∧ News h₀ L s₁.heap news ∧ (d, o) ∈ news ∧ o.ExactDict ∧ o.data = .dict es ep ∧ es.toList = xs.map (entryOfKey knd) ∧ xs.length ≤ 1000 ∧
    ∀ g, CompRest prog w A h₀ L m env elt x scope cl { s₁ with heap := g } (fun nw => (d, o) ∈ nw) (fun i v => (xs[i]?.map fun x => Value.ref x.2.1) = some v) (Fin { s₁ with heap := g }) xs.length 0 [] news
theorem SrcD.intro {elt : Expr} {x : Str} {scope : Scope} {cl : List (Str × Addr)} {Fin : Shared → List Value → List (Addr × Obj) → Prop} {d : Addr} {o : Obj} {es : Array DictEntry} {ep : Nat} {xs : List (K × Addr × Value)} {news : List (Addr × Obj)} {s₁ : Shared}
    (hh : A.handled = none) (lo : (d == sysModules) = false) (F : Fr h₀ L s₁.heap m) (N : News h₀ L s₁.heap news) (hm : (d, o) ∈ news) (hw : o.ExactDict ∧ o.data = .dict es ep ∧ es.toList = xs.map (entryOfKey knd)) (hsz : xs.length ≤ 1000)
    (h : ∀ g, CompRest prog w A h₀ L m env elt x scope cl { s₁ with heap := g } (fun nw => (d, o) ∈ nw) (fun i v => (xs[i]?.map fun x => Value.ref x.2.1) = some v) (Fin { s₁ with heap := g }) xs.length 0 [] news) :
    SrcD prog w knd A h₀ L m env elt x scope cl Fin (.ref d) s₁ := ⟨d, o, es, ep, xs, news, rfl, hh, lo, F, N, hm, hw.1, hw.2.1, hw.2.2, hsz, h⟩
theorem ListComp_D {elt iter : Expr} {x : Str} {px : Pos} {scope : Scope} {cl : List (Str × Addr)} {pos : Pos} {Q : Value → Shared → Prop} (_F₀ : Fr h₀ L s.heap m)
    (hclos : closureFor scope env = pure cl) (hcell : ∀ y ∈ scope.names, y.2 ≠ .cell) (hkind : scope.kind = .function)
    (hnames : ∀ y ∈ scope.names, y.2 = .local → scope.names.lookup y.1 = some .local) (hx : scope.names.lookup x = some .local)
    (h : wpAny (model prog w) A (eval iter env) (SrcD prog w knd A h₀ L m env elt x scope cl (fun s₂ => FinE h₀ L m s₂ Q)) E s)
    (hs : ∀ x, foldedSetIterable iter env x = pure x) :
    wpAny (model prog w) A (eval (.ListComp elt [⟨.Name x px, iter, [], 0⟩] scope pos) env) Q E s := by
  rw [eval_ListComp]
  refine wpAny_comprehension_free (use := none) rfl hs hclos hkind hnames (wpAny_mono h (fun xv s₁ h₁ => ?_) fun _ _ e => e)
  obtain ⟨d, o, es, ep, xs, news, rfl, hh, lo, F, N, hm, hc, hdat, he, hsz, R⟩ := h₁
  have hr : RawDict s₁.heap d es ep := ⟨o, (N _ hm).1, hc, hdat⟩
  have hlt : d < s₁.heap.objs.size := Heap.lt_size (N _ hm).1
  refine raw_iter lo hr ?_
  have up : ∀ b o', s₁.heap.get? b = some o' → (s₁.heap.push { cls := .type "dict_keyiterator", data := .fields #[.ref d, .int 0 0, .int es.size 0, .int ep 0] }).get? b = some o' := fun b o' e => Heap.get?_push_of_some _ e
  refine block_U (S := fun nw => (d, o) ∈ nw) (raw_walksH (knd := knd) hh s₁.heap.objs.size d (Nat.ne_of_lt hlt) xs ep he) (by rw [sizeLine_eq]; exact Nat.le_trans hsz (by decide)) (fun i h st => by obtain ⟨o', e, _⟩ := st.1; exact ⟨o', e⟩) ?_ hcell hkind hx ⟨⟨_, Heap.get?_push_size _ rfl, rfl, rfl⟩, hr.at fun o' e => up _ _ e⟩ (fun b hb => ?_)
    (F.keeps up) (N.grown up) (Nat.ne_of_lt F.ns.lt) (next_is_new F) (fun p hp => Nat.ne_of_lt (Heap.lt_size (N p hp).1)) hm (R _) ?_
  · intro i h h' o' nw st e e' k N' S'
    refine ⟨?_, o, (N' _ S').1, hc, hdat⟩
    obtain ⟨o2, q, r⟩ := st.1
    rw [e] at q; cases q
    exact ⟨o', e', r⟩
  · show b < (s₁.heap.push _).objs.size
    rw [Heap.size_push]
    rcases List.mem_cons.mp hb with rfl | hb
    · exact Nat.lt_succ_self _
    · rw [List.mem_singleton.mp hb]; exact Nat.lt_succ_of_lt hlt
  · intro D C h tk m' ys news' F' N' o1 hn hC₀ hD₀ hCL hDL hCD offC fin
    refine ⟨m', hn, fun h'' hs'' => fin D h'' tk (F'.change hs'' hCL hC₀) (fun p hp => ?_) o1⟩
    refine ⟨hs''.extBut _ _ ?_ (N' p hp).1, (N' p hp).2⟩
    rcases List.mem_cons.mp hp with rfl | hp
    · exact Ne.symm hCD
    · exact offC p hp
end
section
open PySem.SeqAt
/-- two rows of values, one by one equal -/
inductive EqAll (A : Around) (s : Shared) : List Value → List Value → Prop
  | nil : EqAll A s [] []
  | cons {x y : Value} {xs ys : List Value} : EqAt A s x y true → EqAll A s xs ys → EqAll A s (x :: xs) (y :: ys)
section
variable {A : Around} {s : Shared} {xs ys : List Value} {l b : Addr}
theorem all_true (n : Nat) : (List.range n).all (fun _ => true) = true := by
  rw [List.all_eq_true]; intros; rfl
theorem EqAll.length (h : EqAll A s xs ys) : xs.length = ys.length := by
  induction h with
  | nil => rfl
  | cons _ _ ih => simp [ih]
theorem EqAll.get (h : EqAll A s xs ys) : ∀ j (h1 : j < xs.length) (h2 : j < ys.length), EqAt A s xs[j] ys[j] true := by
  induction h with
  | nil => intro j h1; exact absurd h1 (by simp)
  | cons a _ ih =>
    intro j h1 h2
    cases j with
    | zero => exact a
    | succ j => exact ih j (by simpa using h1) (by simpa using h2)
theorem eqAt_bytes {x y : Array UInt8} {t u : Tok} (e : x = y) : EqAt A s (.bytes x t) (.bytes y u) true := fun _ _ _ _ h => eqBool_bytes (by subst e; simpa using h)
theorem eqAt_int {x y : Int} {t u : Tok} (e : x = y) : EqAt A s (.int x t) (.int y u) true := by
  have := EqAt.int_int (A := A) (s := s) x t y u
  subst e; simpa using this
theorem eqAt_bool {x y : Bool} (e : x = y) : EqAt A s (.bool x) (.bool y) true := by subst e; exact EqAt.same _
theorem eqAt_str {x y : Str} {t u : Tok} (e : x = y) : EqAt A s (.str x t) (.str y u) true := by
  have := EqAt.str_str (A := A) (s := s) x t y u
  subst e; simpa using this
theorem eqAt_tup (hl : s.heap.IsTuple l xs.toArray) (hb : s.heap.IsTuple b ys.toArray) (hu : A.units < cLine) (he : EqAll A.in1 s xs ys) : EqAt A s (.ref l) (.ref b) true := by
  by_cases hne : l = b
  · subst hne; exact EqAt.same _
  · have h := RcAt.tuples (A := A) (e := fun _ => true) hl hb hu fun j h1 h2 => by
      simpa using he.get j (by simpa using h1) (by simpa using h2)
    have hL := he.length
    refine EqAt.of_refs hne ?_
    simp only [List.size_toArray, hL, Nat.min_self, beq_self_eq_true, Bool.and_true] at h
    rw [all_true] at h
    exact h
theorem ne_list {prog : Program} {w : World} {E : Value → Shared → Prop} {Q : Value → Shared → Prop} (hl : s.heap.IsList l xs.toArray) (hb : s.heap.IsList b ys.toArray) (hu : A.units < cLine) (he : EqAll A.in1 s xs ys) (h : Q (.bool false) s) :
    wpAny (model prog w) A (compareOp .NotEq (.ref l) (.ref b)) Q E s := by
  have hL := he.length
  have h' := RcNeAt.lists (A := A) (e := fun _ => true) hl hb (by simpa using hL) hu fun j h1 h2 => by
      simpa using he.get j (by simpa using h1) (by simpa using h2)
  have : RcNeAt A s (.ref l) (.ref b) false := by rw [all_true] at h'; exact h'
  exact this prog w E Q h
end
/-- what was told and what was due: one local row, the same -/
theorem ne_told {prog : Program} {w : World} {A : Around} {E : Value → Shared → Prop} {s : Shared} {h₀ : Heap} {L tl tu tr dl du dr : Addr} {news : List (Addr × Obj)} {Q : Value → Shared → Prop} {nl nd : Nat} {x1 x2 : Str} {t1 u1 t3 u3 : Tok} {b1 b2 : Array UInt8} {ta1 ta2 : Bool} {rs1 rs2 : List Value}
    (N : News h₀ L s.heap news) (m1 : (tl, listOf #[Value.ref tu] nl) ∈ news) (m2 : (tu, ({ cls := .type "tuple", data := .seq #[Value.str x1 t1, Value.ref tr, Value.bytes b1 t3, Value.bool ta1] } : Obj)) ∈ news) (m3 : (tr, ({ cls := .type "tuple", data := .seq rs1.toArray } : Obj)) ∈ news)
    (k1 : (dl, listOf #[Value.ref du] nd) ∈ news) (k2 : (du, ({ cls := .type "tuple", data := .seq #[Value.str x2 u1, Value.ref dr, Value.bytes b2 u3, Value.bool ta2] } : Obj)) ∈ news) (k3 : (dr, ({ cls := .type "tuple", data := .seq rs2.toArray } : Obj)) ∈ news)
    (hx : x1 = x2) (hb : b1 = b2) (ht : ta1 = ta2) (he : EqAll A.in1.in1.in1 s rs1 rs2) (hu : A.units + 3 < cLine) (h : Q (.bool false) s) :
    wpAny (model prog w) A (compareOp .NotEq (.ref tl) (.ref dl)) Q E s := by
  have e1 : A.in1.units = A.units + 1 := rfl
  have e2 : A.in1.in1.units = A.units + 2 := rfl
  refine ne_list (xs := [.ref tu]) (ys := [.ref du]) (N.isList m1) (N.isList k1) (by omega) (.cons (eqAt_tup (N.isTup m2) (N.isTup k2) (by rw [e1]; omega) ?_) .nil) h
  exact .cons (eqAt_str hx) (.cons (eqAt_tup (N.isTup m3) (N.isTup k3) (by rw [e2]; omega) he) (.cons (eqAt_bytes hb) (.cons (eqAt_bool ht) .nil)))
theorem ne_empty {prog : Program} {w : World} {A : Around} {E : Value → Shared → Prop} {s : Shared} {h₀ : Heap} {L tl dl : Addr} {news : List (Addr × Obj)} {Q : Value → Shared → Prop} {nl nd : Nat}
    (N : News h₀ L s.heap news) (m1 : (tl, listOf #[] nl) ∈ news) (k1 : (dl, listOf #[] nd) ∈ news) (hu : A.units < cLine) (h : Q (.bool false) s) :
    wpAny (model prog w) A (compareOp .NotEq (.ref tl) (.ref dl)) Q E s :=
  ne_list (xs := []) (ys := []) (N.isList m1) (N.isList k1) hu .nil h
/-- sorted over a dict of ints -/
theorem sorted_lot {prog : Program} {w : World} {A : Around} {E : Value → Shared → Prop} {s : Shared} {h₀ : Heap} {L la : Addr} {m : Str → Option Value} {news : List (Addr × Obj)} {Q : Value → Shared → Prop} {lo : Obj} {kv : List (Int × Value)} {ks : List Int}
    (hh : A.handled = none) (F : Fr h₀ L s.heap m) (N : News h₀ L s.heap news) (hp : (la, lo) ∈ news) (hd : lo.IsDictOf (PySem.intKind prog w) kv) (hlo : (la == sysModules) = false) (hperm : (kv.map (·.1)).Perm ks) (hord : ks.Pairwise (· ≤ ·)) (h3 : ks.length ≤ 3)
    (h : ∀ D c h' tk t, Fr h₀ L h' m → News h₀ L h' ((D, listOf (lks_vals ks 0 t).toArray c) :: news) → (∀ q ∈ news, q.1 < D) → Q (.ref D) { s with heap := h', toks := tk }) :
    wpAny (model prog w) A (call (.builtin "sorted") [.ref la]) Q E s := by
  have hD := kda_dict N hp hd
  obtain ⟨ep, hat⟩ := hD.dictAt
  have hl : kv.length = ks.length := by have := hperm.length_eq; simpa using this
  refine kdu_sorted (kdl_dict (knd := PySem.intKind prog w) (kvs := kv) (ep := ep) hlo) hh F N hat (by rw [sizeLine_eq]; omega) fun D h' tk vs F' N' l1 hlen hv => ?_
  have hints : IntsAre vs (kv.map (·.1)) := by
    have key : ∀ (vs : List Value) (kv : List (Int × Value)), vs.length = kv.length → (∀ (j : Nat) (v : Value), vs[j]? = some v → ∃ k x, kv[j]? = some (k, x) ∧ (PySem.intKind prog w).is k v = true) → IntsAre vs (kv.map (·.1)) := by
      intro vs
      induction vs with
      | nil =>
        intro kv hl _
        cases kv with
        | nil => exact .nil
        | cons _ _ => cases hl
      | cons v vs ih =>
        intro kv hl hv
        cases kv with
        | nil => cases hl
        | cons q kv =>
          obtain ⟨k, x, hx, hk⟩ := hv 0 v rfl
          simp only [List.getElem?_cons_zero, Option.some.injEq] at hx
          subst hx
          have : ∃ t, v = Value.int k t := Value.isInt_shape hk
          obtain ⟨t, rfl⟩ := this
          exact .cons k t (ih kv (by simpa using hl) fun j v' h' => hv (j + 1) v' (by simpa using h'))
    exact key vs kv hlen hv
  refine ksk_lsort F' N' (fun o => Upd.head fun q hq => Nat.ne_of_lt (l1 q hq)) (by simp) hints (by simp; omega) fun vs' ns' c h2 F2 N2 hI _ hp2 hP _ => ?_
  have e : ns' = ks := lks_uniq (hp2.trans hperm) hP hord
  subst e
  obtain ⟨t, et⟩ := lks_vals_of hI 0
  rw [et] at N2
  exact h D c h2 _ t F2 N2 l1
end
section
variable {prog : Program} {w : World} {A : Around} {E : Value → Shared → Prop} {s : Shared} {h₀ : Heap} {L : Addr} {m : Str → Option Value} {news : List (Addr × Obj)}
theorem adjust_upto (b n : Nat) (hb : b ≤ n) : Builtin.Slice.sliceAdjust none (some (b : Int)) 1 (n : Int) = ((0 : Int), (b : Int)) := by
  unfold Builtin.Slice.sliceAdjust
  have h1 : ¬ ((1 : Int) < 0) := by omega
  have h2 : ¬ ((b : Int) < 0) := by omega
  simp only [h1, h2, if_false]
  congr 1
  omega
theorem places_upto (b : Nat) : Builtin.Slice.slicePlaces 0 (b : Int) 1 = b := by
  unfold Builtin.Slice.slicePlaces
  have h1 : (1 : Int) > 0 := by omega
  simp only [h1, if_true, Int.ediv_one]
  split <;> omega
theorem sliceApplied_upto {sl : Addr} {b n : Nat} {u : Tok} {Q : Int × Int × Nat → Shared → Prop} (hs : s.heap.IsSliceOf sl .none (.int b u) .none) (hb : b ≤ n) (h : Q ((0 : Int), 1, b) s) :
    wpAny (model prog w) A (Builtin.Slice.sliceApplied (.ref sl) (pure (n : Int))) Q E s := by
  obtain ⟨os, hos, hcs, hds⟩ := id hs
  unfold Builtin.Slice.sliceApplied Builtin.Slice.sliceFields
  refine wpAny_bind (wpAny_bind (wpAny_field hos hds (x := .none) rfl (wpAny_bind (wpAny_field hos hds (x := .int b u) rfl (wpAny_bind (wpAny_field hos hds (x := .none) rfl (wpAny_pure ?_)))))))
  refine wpAny_bind (slicePart_none ?_)
  show wpAny _ _ (if ((1 : Int) == 0) = true then _ else _) _ _ s
  rw [if_neg (by decide)]
  refine wpAny_bind (slicePart_none (wpAny_bind (slicePart_int (wpAny_bind (wpAny_pure ?_)))))
  show wpAny _ _ (match Builtin.Slice.sliceAdjust none (some (b : Int)) 1 (n : Int) with | (lo, hi) => pure (lo, (1 : Int), Builtin.Slice.slicePlaces lo hi 1)) _ _ s
  rw [adjust_upto b n hb]
  show wpAny _ _ (pure ((0 : Int), (1 : Int), Builtin.Slice.slicePlaces 0 (b : Int) 1)) _ _ s
  rw [places_upto b]
  exact wpAny_pure h
theorem pick_upto (xs : Array Value) (b : Nat) (_hb : b ≤ xs.size) : ((List.range b).filterMap fun (k : Nat) => xs[((0 : Int) + (k : Int) * 1).toNat]?).toArray = (xs.toList.take b).toArray := by
  have e : (fun (k : Nat) => xs[((0 : Int) + (k : Int) * 1).toNat]?) = fun k => xs[0 + k]? := by
    funext k
    have : ((0 : Int) + (k : Int) * 1).toNat = 0 + k := by omega
    rw [this]
  rw [e]
  have := pick_run xs 0 b
  rw [List.filterMap_map] at this
  have e2 : ((fun x => xs[x]?) ∘ fun x => 0 + x) = fun k => xs[0 + k]? := rfl
  rw [e2] at this
  rw [this, List.drop_zero]
theorem getItem_tuple_upto {t sl : Addr} {items : Array Value} {b : Nat} {u : Tok} {Q : Value → Shared → Prop} (ht : IsTup s.heap t items) (hs : s.heap.IsSliceOf sl .none (.int b u) .none) (hb : b < items.size)
    (h : Q (.ref s.heap.objs.size) { s with heap := s.heap.push { cls := .type "tuple", data := .seq (items.toList.take b).toArray } })
    (hsz : items.size ≤ sizeLine) : wpAny (model prog w) A (getItem (.ref t) (.ref sl)) Q E s := by
  have hdrop : sizeOk (.seq (items.toList.take b).toArray) := by
    show (items.toList.take b).toArray.size ≤ sizeLine
    rw [List.size_toArray, List.length_take, Array.length_toList]
    omega
  obtain ⟨os, hos, hcs, hds⟩ := id hs
  have hTs : s.TypeIs (.ref sl) "slice" := ⟨os, hos, hcs⟩
  unfold getItem
  try with_reducible refine wpAny_holding ?_
  first | refine wpAny_bind (wpAny_pure ?_) | skip
  refine wpAny_bind (wpAny_sequenceKey ht.typeIs (by decide) ?_)
  refine wpAny_bind (wpAny_callSpecial?_slot (name := Str.ofString "__getitem__") ht.typeIs slot_tuple_getitem
    (wpAny_call_entry slot_tuple_getitem ht.typeIs entry_tuple_getitem ?_ (args_tuple_getitem _ _)))
  show wpAny _ _ (Builtin.Tuple.tupleItemsOf (.ref t) >>= _) _ _ s
  refine wpAny_bind (tupleItemsOf_ ht ?_)
  refine wpAny_bind (wpAny_typeOf hTs ?_)
  rw [if_pos (by decide)]
  refine wpAny_bind (sliceApplied_upto hs (Nat.le_of_lt hb) ?_)
  have hno : ¬ (((0 : Int) == 0 && (1 : Int) == 1 && b == items.size) = true) := by
    have : (b == items.size) = false := by rw [beq_eq_false_iff_ne]; omega
    rw [this]; simp
  show wpAny _ _ (if ((0 : Int) == 0 && (1 : Int) == 1 && b == items.size) = true then _ else _) _ _ s
  rw [if_neg hno, pick_upto items b (Nat.le_of_lt hb)]
  first
    | exact wpAny_bind (m := Builtin.Tuple.tupleExact _) (wpAny_newObj_type (wpAny_pure ⟨_, rfl, wpAny_pure h⟩) hdrop)
    | exact wpAny_bind (m := Builtin.Tuple.tupleExact _) (wpAny_newObj_type (wpAny_bind (wpAny_pure (wpAny_pure ⟨_, rfl, wpAny_pure h⟩))) hdrop)
    | exact wpAny_bind (wpAny_bind (m := Builtin.Tuple.tupleExact _) (wpAny_newObj_type (wpAny_pure (wpAny_pure ⟨_, rfl, wpAny_pure h⟩)) hdrop))
    | exact wpAny_bind (wpAny_bind (m := Builtin.Tuple.tupleExact _) (wpAny_newObj_type (wpAny_pure ⟨_, rfl, wpAny_pure h⟩) hdrop))
theorem slice_upto {value slice : PySem.Expr} {t : Addr} {xs zs : List Value} {b : Nat} {u : Tok} {Q : Value → Shared → Prop}
    (F : Fr h₀ L s.heap m) (N : News h₀ L s.heap news) (ht : (t, ({ cls := .type "tuple", data := .seq xs.toArray } : Obj)) ∈ news) (hb : b < xs.length) (hz : xs.take b = zs)
    (h : ∀ D h', Fr h₀ L h' m → News h₀ L h' ((D, ({ cls := .type "tuple", data := .seq zs.toArray } : Obj)) :: news) → (∀ p ∈ news, p.1 < D) → Q (.ref D) { s with heap := h' })
    (hs : subscripted slice false (.ref t) (.ref s.heap.objs.size) = operate [.ref s.heap.objs.size, .ref t] (getItem (.ref t) (.ref s.heap.objs.size)))
    (hg : ∀ r, letTemporaryGo value (.ref t) r = pure ()) (hsz : xs.length ≤ 100) :
    wpAny (model prog w) A (subscriptTail value slice (.ref t) (.ref s.heap.objs.size)) Q E { s with heap := s.heap.push { cls := .type "slice", data := .fields #[.none, .int b u, .none] } } := by
  have ht' : IsTup (s.heap.push { cls := .type "slice", data := .fields #[.none, .int b u, .none] }) t xs.toArray := (N.isTup ht).keeps fun _ _ e => Heap.get?_push_of_some _ e
  refine subscriptTail_ops (s := { s with heap := s.heap.push { cls := .type "slice", data := .fields #[.none, .int b u, .none] } }) ht'.typeIs slot_tuple_getitem.lookup
    (getItem_tuple_upto ht' (Heap.IsSliceOf.new ..) (by simpa using hb) ?_ (by rw [List.size_toArray, sizeLine_eq]; omega)) hs hg
  have N1 := News.push (F.push { cls := .type "slice", data := .fields #[.none, .int b u, .none] }) (N.grown fun _ _ e => Heap.get?_push_of_some _ e) { cls := .type "tuple", data := .seq zs.toArray }
  rw [Heap.size_push] at N1
  show Q (.ref (s.heap.push _).objs.size) _
  rw [Heap.size_push]
  simp only [hz]
  exact h _ _ ((F.push _).push _) N1 fun p hp => Nat.lt_succ_of_lt (Heap.lt_size (N p hp).1)
theorem slice_from {value slice : PySem.Expr} {t : Addr} {xs zs : List Value} {a : Nat} {u : Tok} {Q : Value → Shared → Prop}
    (F : Fr h₀ L s.heap m) (N : News h₀ L s.heap news) (ht : (t, ({ cls := .type "tuple", data := .seq xs.toArray } : Obj)) ∈ news) (ha : a ≤ xs.length) (h1 : 1 ≤ a) (hz : xs.drop a = zs)
    (h : ∀ D h', Fr h₀ L h' m → News h₀ L h' ((D, ({ cls := .type "tuple", data := .seq zs.toArray } : Obj)) :: news) → (∀ p ∈ news, p.1 < D) → Q (.ref D) { s with heap := h' })
    (hs : subscripted slice false (.ref t) (.ref s.heap.objs.size) = operate [.ref s.heap.objs.size, .ref t] (getItem (.ref t) (.ref s.heap.objs.size)))
    (hg : ∀ r, letTemporaryGo value (.ref t) r = pure ()) (hsz : xs.length ≤ 100) :
    wpAny (model prog w) A (subscriptTail value slice (.ref t) (.ref s.heap.objs.size)) Q E { s with heap := s.heap.push { cls := .type "slice", data := .fields #[.int a u, .none, .none] } } := by
  refine slice_tuple_from F N (N.isTup ht) h1 (by simpa using ha) (fun h' F' N' => ?_) hs hg (by rw [List.size_toArray, sizeLine_eq]; omega)
  simp only [hz] at N'
  exact h _ h' F' N' fun p hp => Nat.lt_succ_of_lt (Heap.lt_size (N p hp).1)
theorem add_tups {t b : Addr} {vs ws zs : List Value} {Q : Value → Shared → Prop} (F : Fr h₀ L s.heap m) (N : News h₀ L s.heap news) (ht : (t, ({ cls := .type "tuple", data := .seq vs.toArray } : Obj)) ∈ news) (hb : (b, ({ cls := .type "tuple", data := .seq ws.toArray } : Obj)) ∈ news)
    (h0 : vs ≠ []) (h1 : ws ≠ []) (hz : vs ++ ws = zs) (hsz : vs.length + ws.length ≤ 100)
    (h : ∀ D h', Fr h₀ L h' m → News h₀ L h' ((D, ({ cls := .type "tuple", data := .seq zs.toArray } : Obj)) :: news) → (∀ p ∈ news, p.1 < D) → Q (.ref D) { s with heap := h' }) :
    wpAny (model prog w) A (binaryOp .Add (.ref t) (.ref b)) Q E s :=
  add_tuples F N (N.isTup ht) (N.isTup hb) (fun e => absurd e h0) (fun _ e => absurd e h1) (fun _ _ h' F' N' => h _ h' F' (hz ▸ N') fun p hp => Heap.lt_size (N p hp).1) (by rw [sizeLine_eq]; omega)
end
local macro_rules
  | `(leftact% $f:ident $e:term $v:term) => do
    let s := Lean.Syntax.mkStrLit f.getId.toString
    let w := Lean.mkIdent `w
    `(⟨PyData.keyHash $(w).params (Str.ofString $s), Value.str (Str.ofString $s) $e, $v⟩)
theorem sub_trans {a b c : List (Addr × Obj)} (h : ∀ p ∈ a, p ∈ b) (k : ∀ p ∈ b, p ∈ c) : ∀ p ∈ a, p ∈ c := fun p hp => k p (h p hp)
theorem lt_add {a m k n : Nat} (h : a < m) (c : Nat.ble (m + k) n = true) : a + k < n := Nat.lt_of_lt_of_le (Nat.add_lt_add_right h k) (Nat.le_of_ble_eq_true c)
theorem lt_add2 {a m k l n : Nat} (h : a < m) (c : Nat.ble (m + k + l) n = true) : a + k + l < n := lt_add (lt_add h (Nat.ble_self_eq_true _)) c
theorem lt_add0 {a m n : Nat} (h : a < m) (c : Nat.ble m n = true) : a < n := Nat.lt_of_lt_of_le h (Nat.le_of_ble_eq_true c)
theorem ltNe {a b : Nat} (h : a < b) : a ≠ b := Nat.ne_of_lt h
theorem gtNe {a b : Nat} (h : b < a) : a ≠ b := Nat.ne_of_gt h
theorem pk0 {x a y : Nat} {C : Prop} (h : y < a ∧ C) (k : (y < a ∧ C) → x < a) : x < a := k h
theorem newsX {h₀ h' : Heap} {L : Addr} {l : List (Addr × Obj)} {p : Addr × Obj} (x : h'.get? p.1 = some p.2 ∧ p.1 ≠ L ∧ h₀.get? p.1 = none) (r : News h₀ L h' l) : News h₀ L h' (p :: l) := fun q hq => (List.mem_cons.mp hq).elim (fun e => e ▸ x) (r q)
theorem newsC {h₀ h' : Heap} {L : Addr} {big l : List (Addr × Obj)} {p : Addr × Obj} (N : News h₀ L h' big) (m : p ∈ big) (r : News h₀ L h' l) : News h₀ L h' (p :: l) := newsX (N p m) r
theorem pn0 {x a y : Nat} {C : Prop} (h : y ≠ a ∧ C) (k : (y ≠ a ∧ C) → x ≠ a) : x ≠ a := k h
theorem ob_lo {n l k : Nat} {K r : Int} (e1 : n = l) (e2 : l = (8 * K + 1 + r).toNat) (a : 0 ≤ r) (e : (k : Int) = 8 * K) : k < n := by omega
theorem ob_hi {n l k : Nat} {K r : Int} (e1 : n = l) (e2 : l = (8 * K + 1 + r).toNat) (a : 0 ≤ r) (b : r < 8) (e : (k : Int) = 8 * K + 8) : n ≤ k := by omega
theorem three {r : Int} (h2 : r ≤ 2) (h0 : 0 ≤ r) : r = 0 ∨ r = 1 ∨ r = 2 := by omega
theorem qc3 {i m : Nat} (h : i ≤ m) (e : m = 2) : i = 0 ∨ i = 1 ∨ i = 2 := (Nat.le_or_eq_of_le_succ (Nat.le_trans h (Nat.le_of_eq e))).elim (fun h => (Nat.le_or_eq_of_le_succ h).elim (fun h => .inl (Nat.le_zero.mp h)) fun h => .inr (.inl h)) fun h => .inr (.inr h)
theorem qc2 {i m : Nat} (h : i ≤ m) (e : m = 1) : i = 0 ∨ i = 1 := (Nat.le_or_eq_of_le_succ (Nat.le_trans h (Nat.le_of_eq e))).elim (fun h => .inl (Nat.le_zero.mp h)) fun h => .inr h
theorem qc3_0 {i m : Nat} (h : i ≤ m) (e : m = 2) (n : ¬ i = 0) : i = 1 ∨ i = 2 := (qc3 h e).resolve_left n
theorem qc3_1 {i m : Nat} (h : i ≤ m) (e : m = 2) (n : ¬ i = 1) : i = 0 ∨ i = 2 := (qc3 h e).imp id fun x => x.resolve_left n
theorem qc3_2 {i m : Nat} (h : i ≤ m) (e : m = 2) (n : ¬ i = 2) : i = 0 ∨ i = 1 := (qc3 h e).imp id fun x => x.resolve_right n
theorem qc3_01 {i m : Nat} (h : i ≤ m) (e : m = 2) (n : ¬ i = 0 ∧ ¬ i = 1) : i = 2 := ((qc3 h e).resolve_left n.1).resolve_left n.2
theorem qc3_02 {i m : Nat} (h : i ≤ m) (e : m = 2) (n : ¬ i = 0 ∧ ¬ i = 2) : i = 1 := ((qc3 h e).resolve_left n.1).resolve_right n.2
theorem qc3_10 {i m : Nat} (h : i ≤ m) (e : m = 2) (n : ¬ i = 1 ∧ ¬ i = 0) : i = 2 := qc3_01 h e n.symm
theorem qc3_12 {i m : Nat} (h : i ≤ m) (e : m = 2) (n : ¬ i = 1 ∧ ¬ i = 2) : i = 0 := (qc3 h e).resolve_right fun o => o.elim n.1 n.2
theorem qc3_20 {i m : Nat} (h : i ≤ m) (e : m = 2) (n : ¬ i = 2 ∧ ¬ i = 0) : i = 1 := qc3_02 h e n.symm
theorem qc3_21 {i m : Nat} (h : i ≤ m) (e : m = 2) (n : ¬ i = 2 ∧ ¬ i = 1) : i = 0 := qc3_12 h e n.symm
theorem qc2_0 {i m : Nat} (h : i ≤ m) (e : m = 1) (n : ¬ i = 0) : i = 1 := (qc2 h e).resolve_left n
theorem qc2_1 {i m : Nat} (h : i ≤ m) (e : m = 1) (n : ¬ i = 1) : i = 0 := (qc2 h e).resolve_right n
theorem qcm {m : Nat} (h : m ≤ 2) : m = 0 ∨ m = 1 ∨ m = 2 := qc3 h rfl
theorem lt_tr {x d a : Nat} (h : d < a) (k : x < d) : x < a := Nat.lt_trans k h
theorem pkS {b C g : Prop} (k : C → g) : b ∧ C → g := fun h => k h.2
local macro_rules | `(tactic| kba_same) => `(tactic| first | exact List.Mem.head _ | (refine List.Mem.tail _ ?_; kba_same) | (refine List.mem_append.mpr (.inr ?_); kba_same) | (refine List.mem_append.mpr (.inl ?_); kba_same) | assumption)
local macro_rules | `(tactic| k_mem) => `(tactic| kba_same)
local macro_rules | `(tactic| kcf_all) => `(tactic| first | (refine List.forall_mem_cons.mpr ⟨?_, ?_⟩; (focus kba_same); kcf_all) | (refine List.forall_mem_append.mpr ⟨?_, ?_⟩; (focus kcf_all); kcf_all) | exact List.forall_mem_nil _ | (refine' Mine.sub_trans ?sa ?sb; (case sa => with_reducible assumption); (case sb => kcf_all)) | (intro _ hp9; kba_same))
noncomputable abbrev Rws := List (Int × Int)
noncomputable def fillStep (b e : Int) (st : Rws × Rws) (p : Int × Int) : Rws × Rws :=
  if (if e < p.2 then e else p.2) ≤ (if b > p.1 then b else p.1) then (st.1, st.2 ++ [p])
  else (st.1 ++ [((if b > p.1 then b else p.1), (if e < p.2 then e else p.2))], st.2 ++ (if p.1 < (if b > p.1 then b else p.1) then [(p.1, (if b > p.1 then b else p.1))] else []) ++ (if (if e < p.2 then e else p.2) < p.2 then [((if e < p.2 then e else p.2), p.2)] else []))
section
variable {b e p q : Int} {st : Rws × Rws}
theorem fillStep_a (h : (if e < q then e else q) ≤ (if b > p then b else p)) : fillStep b e st (p, q) = (st.1, st.2 ++ [(p, q)]) := by unfold fillStep; rw [if_pos h]
theorem fillStep_b (h : ¬ (if e < q then e else q) ≤ (if b > p then b else p)) (h1 : p < (if b > p then b else p)) (h2 : (if e < q then e else q) < q) : fillStep b e st (p, q) = (st.1 ++ [((if b > p then b else p), (if e < q then e else q))], st.2 ++ [(p, (if b > p then b else p))] ++ [((if e < q then e else q), q)]) := by unfold fillStep; rw [if_neg h]; simp only [if_pos h1, if_pos h2]
theorem fillStep_c (h : ¬ (if e < q then e else q) ≤ (if b > p then b else p)) (h1 : p < (if b > p then b else p)) (h2 : ¬ (if e < q then e else q) < q) : fillStep b e st (p, q) = (st.1 ++ [((if b > p then b else p), (if e < q then e else q))], st.2 ++ [(p, (if b > p then b else p))]) := by unfold fillStep; rw [if_neg h]; simp only [if_pos h1, if_neg h2, List.append_nil]
theorem fillStep_d (h : ¬ (if e < q then e else q) ≤ (if b > p then b else p)) (h1 : ¬ p < (if b > p then b else p)) (h2 : (if e < q then e else q) < q) : fillStep b e st (p, q) = (st.1 ++ [((if b > p then b else p), (if e < q then e else q))], st.2 ++ [((if e < q then e else q), q)]) := by unfold fillStep; rw [if_neg h]; simp only [if_neg h1, if_pos h2, List.append_nil]
theorem fillStep_e (h : ¬ (if e < q then e else q) ≤ (if b > p then b else p)) (h1 : ¬ p < (if b > p then b else p)) (h2 : ¬ (if e < q then e else q) < q) : fillStep b e st (p, q) = (st.1 ++ [((if b > p then b else p), (if e < q then e else q))], st.2) := by unfold fillStep; rw [if_neg h]; simp only [if_neg h1, if_neg h2, List.append_nil]
end
noncomputable abbrev pairObj (a : Int) (ta : Tok) (b : Int) (tb : Tok) : Obj := { cls := .type "tuple", data := .seq #[Value.int a ta, Value.int b tb] }
inductive Pairs (tl : List (Addr × Obj)) : List Value → Rws → Prop
  | nil : Pairs tl [] []
  | cons {t : Addr} {a b : Int} {ta tb : Tok} {vs : List Value} {r : Rws} : (t, pairObj a ta b tb) ∈ tl → Pairs tl vs r → Pairs tl (.ref t :: vs) ((a, b) :: r)
theorem Pairs.mono {tl tl' : List (Addr × Obj)} (hs : ∀ p ∈ tl, p ∈ tl') : ∀ {vs : List Value} {r : Rws}, Pairs tl vs r → Pairs tl' vs r := by
  intro _ _ h9
  induction h9 with
  | nil => exact .nil
  | cons h k ih9 => exact .cons (hs _ h) ih9
theorem Pairs.snoc {tl : List (Addr × Obj)} {t : Addr} {a b : Int} {ta tb : Tok} (h : (t, pairObj a ta b tb) ∈ tl) : ∀ {vs : List Value} {r : Rws}, Pairs tl vs r → Pairs tl (vs ++ [.ref t]) (r ++ [(a, b)]) := by
  intro _ _ h9
  induction h9 with
  | nil => exact .cons h .nil
  | cons h' k ih9 => exact .cons h' ih9
theorem Pairs.length {tl : List (Addr × Obj)} : ∀ {vs : List Value} {r : Rws}, Pairs tl vs r → vs.length = r.length := by
  intro _ _ h9
  induction h9 with
  | nil => exact rfl
  | cons _ k ih9 => exact by rw [List.length_cons, List.length_cons, ih9]
theorem Pairs.get {tl : List (Addr × Obj)} {vs : List Value} {r : Rws} (h : Pairs tl vs r) : ∀ {i : Nat} {v : Value}, vs[i]? = some v → ∃ t a b ta tb, v = .ref t ∧ (t, pairObj a ta b tb) ∈ tl ∧ r[i]? = some (a, b) := by
  induction h with
  | nil => intro i v e; simp at e
  | cons hm _ ih =>
    intro i v e
    cases i with
    | zero => simp only [List.getElem?_cons_zero, Option.some.injEq] at e; subst e; exact ⟨_, _, _, _, _, rfl, hm, rfl⟩
    | succ i => simp only [List.getElem?_cons_succ] at e ⊢; exact ih e


noncomputable def Apt (a b : Addr) : Prop := a ≠ b
theorem Sel.app {l : Addr} {o : Obj} {a r r' : List (Addr × Obj)} (h : Sel l o r r') : Sel l o (a ++ r) (a ++ r') := by
  induction a with
  | nil => exact h
  | cons p a ih => exact .tail ih
theorem Apt.ne {a b : Addr} (h : Apt a b) : a ≠ b := h
theorem Apt.ne' {a b : Addr} (h : Apt a b) : b ≠ a := Ne.symm h
theorem allLt_ne {d : Addr} {l : List (Addr × Obj)} (h : AllLt d l) : ∀ p ∈ l, p.1 ≠ d := tbn_neAll h
theorem lt_n3 {P0 P1 P2 : Prop} {D : Addr} {a : List (Addr × Obj)} (h : P0 ∧ P1 ∧ P2 ∧ AllLt D a) : AllLt D a := h.2.2.2
theorem lt_n4 {P0 P1 P2 P3 : Prop} {D : Addr} {a : List (Addr × Obj)} (h : P0 ∧ P1 ∧ P2 ∧ P3 ∧ AllLt D a) : AllLt D a := h.2.2.2.2
theorem lt_n5 {P0 P1 P2 P3 P4 : Prop} {D : Addr} {a : List (Addr × Obj)} (h : P0 ∧ P1 ∧ P2 ∧ P3 ∧ P4 ∧ AllLt D a) : AllLt D a := h.2.2.2.2.2
theorem gt_ne {r x : Addr} {tl : List (Addr × Obj)} (h : ∀ p ∈ tl, @LT.lt Nat _ r p.1) (hx : @LE.le Nat _ x r) : ∀ p ∈ tl, p.1 ≠ x := fun p hp e => Nat.lt_irrefl r (Nat.lt_of_lt_of_le (h p hp) (e ▸ hx))
theorem fill_out {h₀ h : Heap} {L : Addr} {r f d e1 e2 : Addr × Obj} {rest tl : List (Addr × Obj)} (N : News h₀ L h (r :: f :: d :: e1 :: e2 :: (rest ++ tl))) : News h₀ L h (d :: r :: f :: (tl ++ rest)) := by
  intro q hq
  refine N q ?_
  first | exact (by kcf_all : ∀ p ∈ _, p ∈ _) _ hq | (simp only [List.mem_cons, List.mem_append] at hq ⊢; rcases hq with h | h | h | h | h <;> simp [h])
theorem endat_lt {P0 P1 : Prop} {f r : Addr} {l : List (Addr × Obj)} (h : P0 ∧ P1 ∧ AllLt f l) (k : @LT.lt Nat _ f r) : AllLt r l := tbn_up k h.2.2
theorem endat_out {h₀ h : Heap} {L : Addr} {r f d e1 e2 : Addr × Obj} {rest tl : List (Addr × Obj)} (N : News h₀ L h (d :: r :: f :: (tl ++ e1 :: e2 :: rest))) : News h₀ L h (d :: r :: (tl ++ rest)) := by
  intro q hq
  refine N q ?_
  first | exact (by kcf_all : ∀ p ∈ _, p ∈ _) _ hq | (simp only [List.mem_cons, List.mem_append] at hq ⊢; rcases hq with h | h | h | h <;> simp [h])
section
variable {prog : Program} {w : World} {A : Around} {E : Value → Shared → Prop} {s : Shared} {h₀ : Heap} {L l b : Addr} {news : List (Addr × Obj)} {v : Value} {vs : List Value} {n n2 : Nat} {Q : Value → Shared → Prop}
theorem eq_nil (N : News h₀ L s.heap news) (hl : (l, listOf (v :: vs).toArray n) ∈ news) (hb : (b, listOf #[] n2) ∈ news) (hu : A.units < cLine) (h : Q (.bool false) s) : wpAny (model prog w) A (compareOp .Eq (.ref l) (.ref b)) Q E s :=
  cmp_ofEq (SeqAt.RcAt.lists_lengths ⟨_, (N _ hl).1, rfl, n, rfl⟩ ⟨_, (N _ hb).1, rfl, n2, rfl⟩ (by simp) hu prog w E Q h)
theorem ne_nil (N : News h₀ L s.heap news) (hl : (l, listOf (v :: vs).toArray n) ∈ news) (hb : (b, listOf #[] n2) ∈ news) (hu : A.units < cLine) (h : Q (.bool true) s) : wpAny (model prog w) A (compareOp .NotEq (.ref l) (.ref b)) Q E s :=
  cmp_ofNotEq (SeqAt.RcNeAt.lists_lengths ⟨_, (N _ hl).1, rfl, n, rfl⟩ ⟨_, (N _ hb).1, rfl, n2, rfl⟩ (by simp) hu prog w E Q h)
end
theorem ne_nilC {prog : Program} {w : World} {A : Around} {E : Value → Shared → Prop} {s : Shared} {h₀ : Heap} {L l b : Addr} {news : List (Addr × Obj)} {v : Value} {vs : List Value} {n n2 : Nat} {Q : Value → Shared → Prop} (N : News h₀ L s.heap news) (hl : (l, listOf (vs ++ [v]).toArray n) ∈ news) (hb : (b, listOf #[] n2) ∈ news) (hu : A.units < cLine) (h : Q (.bool true) s) : wpAny (model prog w) A (compareOp .NotEq (.ref l) (.ref b)) Q E s :=
  cmp_ofNotEq (SeqAt.RcNeAt.lists_lengths ⟨_, (N _ hl).1, rfl, n, rfl⟩ ⟨_, (N _ hb).1, rfl, n2, rfl⟩ (by simp) hu prog w E Q h)
theorem item_last {prog : Program} {w : World} {A : Around} {E : Value → Shared → Prop} {s : Shared} {value slice : PySem.Expr} {L : Addr} {h₀ : Heap} {news : List (Addr × Obj)} {l : Addr} {vs : List Value} {n : Nat} {u : Tok} {v : Value} {Q : Value → Shared → Prop}
    (N : News h₀ L s.heap news) (hm : (l, listOf (vs ++ [v]).toArray n) ∈ news) (h : Q v s)
    (hs : subscripted slice false (.ref l) (.int (-1) u) = operate [.ref l, .int (-1) u] (getItem (.ref l) (.int (-1) u))) :
    wpAny (model prog w) A (subscriptTail value slice (.ref l) (.int (-1) u)) Q E s := by
  have hl : s.heap.IsList l (vs ++ [v]).toArray := ⟨_, (N _ hm).1, rfl, n, rfl⟩
  exact tail_any hl.typeIs slot_list_getitem.lookup (wpAny_getItem_list_neg hl (by decide) (by simp; omega) (by decide) (by simp only [List.size_toArray, List.length_append, List.length_cons, List.length_nil]; rw [show ((-1 : Int) + ((vs.length + (0 + 1) : Nat) : Int)).toNat = vs.length by omega]; simp) h) hs
theorem append_T {prog : Program} {w : World} {A : Around} {E : Value → Shared → Prop} {s : Shared} {h₀ : Heap} {L D : Addr} {m : Str → Option Value} {news news' : List (Addr × Obj)} {vs : List Value} {n : Nat} {x : Value} {Q : Value → Shared → Prop} (F : Fr h₀ L s.heap m) (N : News h₀ L s.heap news) (U : Upd D (listOf vs.toArray n) (listOf (vs ++ [x]).toArray (n + 1)) news news')
    (hsz : vs.length ≤ 1000) (h : ∀ h', Fr h₀ L h' m → News h₀ L h' news' → Q .none { s with heap := h' }) : wpAny (model prog w) A (call (.builtin "list.append") [.ref D, x]) Q E s := by
  have e : (vs ++ [x]).toArray = vs.toArray.push x := by simp
  rw [e] at U
  exact append_K F N U h (by simpa using Nat.le_trans hsz (by decide))

noncomputable def fillJ (stored : List Str) (m₀ : Str → Option Value) (fx : List (Addr × Obj)) (lr lf ha : Addr) (b e : Int) (rows : Rws) (i : Nat) (m : Str → Option Value) (nx : List (Addr × Obj)) : Prop :=
  ∃ (u : Str → Option Value) (rvs fvs : List Value) (nr nf : Nat) (tl : List (Addr × Obj)), m = stoM stored u m₀ ∧ nx = (lr, listOf rvs.toArray nr) :: (lf, listOf fvs.toArray nf) :: (fx ++ tl) ∧
    (∀ p ∈ tl, @LT.lt Nat _ ha p.1) ∧ (∀ p ∈ tl, @LT.lt Nat _ lr p.1) ∧ Pairs tl rvs ((rows.take i).foldl (fillStep b e) ([], [])).2 ∧ Pairs tl fvs ((rows.take i).foldl (fillStep b e) ([], [])).1
theorem fillStep_len (b e : Int) : ∀ (r : Rws) (st : Rws × Rws), (r.foldl (fillStep b e) st).1.length ≤ st.1.length + r.length ∧ (r.foldl (fillStep b e) st).2.length ≤ st.2.length + 2 * r.length
  | [], st => by simp
  | p :: r, st => by
    have ih := fillStep_len b e r (fillStep b e st p)
    have h1 : (fillStep b e st p).1.length ≤ st.1.length + 1 := by unfold fillStep; generalize (if b > p.1 then b else p.1) = x; generalize (if e < p.2 then e else p.2) = y; split <;> simp
    have h2 : (fillStep b e st p).2.length ≤ st.2.length + 2 := by unfold fillStep; generalize (if b > p.1 then b else p.1) = x; generalize (if e < p.2 then e else p.2) = y; split <;> (try split) <;> (try split) <;> simp
    simp only [List.foldl_cons, List.length_cons]
    omega
section
variable {prog : Program} {w : World} {A : Around} {E : Value → Shared → Prop} {s : Shared} {env : Env} {h₀ : Heap} {target : Expr} {body : List Stmt} {Q : Flow → Shared → Prop}
noncomputable def FillArgs (_ : Addr) (_ _ : Int) : Prop := True
theorem take_succ_of {i : Nat} {r : Rws} {p : Int × Int} (h : r[i]? = some p) : r.take (i + 1) = r.take i ++ [p] := by
  rw [List.take_add_one, h]; rfl
set_option maxHeartbeats 1000000 in
theorem fill_loop (stored : List Str) {m₀ : Str → Option Value} {fx rest : List (Addr × Obj)} {lr lf ha rl : Addr} {b e : Int} {rows : Rws} {rvs : List Value} {nn : Nat}
    (_mk : FillArgs ha b e) (hh : A.handled = none) (F : Fr h₀ env.locals s.heap m₀) (N : News h₀ env.locals s.heap ((lr, listOf #[] 0) :: (lf, listOf #[] 0) :: fx))
    (hl : (rl, listOf rvs.toArray nn) ∈ fx) (hr : ∀ p ∈ rest, p ∈ fx) (hP : Pairs rest rvs rows) (hn : rows.length ≤ 100)
    (turn : ∀ (i : Nat) (p q : Int) (t : Addr) (tp tq : Tok) (u : Str → Option Value) (vs fs : List Value) (nr nf : Nat) (tl own : List (Addr × Obj)) h tk,
      rows[i]? = some (p, q) → (∀ p ∈ tl, @LT.lt Nat _ ha p.1) → (∀ p ∈ tl, @LT.lt Nat _ lr p.1) → (∀ p ∈ tl, p.1 ≠ lr) → (∀ p ∈ tl, p.1 ≠ lf) → vs.length ≤ 2 * i → fs.length ≤ i → i < 100 → Pairs tl vs ((rows.take i).foldl (fillStep b e) ([], [])).2 → Pairs tl fs ((rows.take i).foldl (fillStep b e) ([], [])).1 →
      OwnOff own (((lr, listOf vs.toArray nr) :: (lf, listOf fs.toArray nf) :: (fx ++ tl)).map (·.1)) → (t, pairObj p tp q tq) ∈ rest → @LT.lt Nat _ t lf →
      Fr h₀ env.locals h (stoM stored u m₀) → News h₀ env.locals h ((t, pairObj p tp q tq) :: (lr, listOf vs.toArray nr) :: (lf, listOf fs.toArray nf) :: (fx ++ (tl ++ own))) →
      wpAny (model prog w) A (assign target env (.ref t)) (fun _ s₃ => wpAny (model prog w) A (execs body env) (TurnPost h₀ env.locals (fillJ stored m₀ fx lr lf ha b e rows (i + 1)) own { s with heap := h, toks := tk } Q) E s₃) E { s with heap := h, toks := tk })
    (hlt : ∀ p ∈ fx, @LT.lt Nat _ p.1 lf) (hfr : @LT.lt Nat _ lf lr)
    (done : ∀ (u : Str → Option Value) (vs fs : List Value) (nr nf : Nat) (tl : List (Addr × Obj)) h tk, (∀ p ∈ tl, @LT.lt Nat _ ha p.1) → (∀ p ∈ tl, p.1 ≠ ha) → (∀ p ∈ tl, @LT.lt Nat _ lr p.1) → Pairs tl vs (rows.foldl (fillStep b e) ([], [])).2 → Pairs tl fs (rows.foldl (fillStep b e) ([], [])).1 →
      Fr h₀ env.locals h (stoM stored u m₀) → News h₀ env.locals h ((lr, listOf vs.toArray nr) :: (lf, listOf fs.toArray nf) :: (fx ++ tl)) → Q .next { s with heap := h, toks := tk }) :
    wpAny (model prog w) A (pyIter (.ref rl)) (fun it s₂ => TurnsAt prog w A h₀ env target body Q E it s₂) E s := by
  refine turns_list (fillJ stored m₀ fx lr lf ha b e rows) hh (List.mem_cons_of_mem _ (List.mem_cons_of_mem _ hl)) ?_ F N ⟨m₀, [], [], 0, 0, [], ?_, ?_, fun p hp => (by cases hp), fun p hp => (by cases hp), ?_, ?_⟩ ?_ ?_
  · rintro i m nx ⟨u, vs, fs, nr, nf, tl, rfl, rfl, -⟩
    exact List.mem_cons_of_mem _ (List.mem_cons_of_mem _ (List.mem_append.mpr (.inl hl)))
  · funext y; simp only [stoM]; split <;> rfl
  · simp
  · exact .nil
  · exact .nil
  · rintro i v m₁ nx h tk own hv ⟨u, vs, fs, nr, nf, tl, rfl, rfl, h1, h2, h3, h4⟩ hoff F₁ N₁
    obtain ⟨t, p, q, tp, tq, rfl, hm, hi⟩ := hP.get hv
    have e1 : ∀ {a b : Nat}, @LT.lt Nat _ a b → b ≠ a := fun h e => Nat.lt_irrefl _ (e ▸ h)
    have hl1 := fillStep_len b e (rows.take i) ([], [])
    have hi2 : i < rows.length := (List.getElem?_eq_some_iff.mp hi).1
    rw [← h3.length, ← h4.length, List.length_take, Nat.min_eq_left (Nat.le_of_lt hi2)] at hl1
    simp only [List.length_nil, Nat.zero_add] at hl1
    refine turn i p q t tp tq u vs fs nr nf tl own h tk hi h1 h2 (fun p hp => e1 (h2 p hp)) (fun p hp => e1 (Nat.lt_trans hfr (h2 p hp))) hl1.2 hl1.1 (Nat.lt_of_lt_of_le hi2 hn) h3 h4 hoff hm (hlt _ (hr _ hm)) F₁ ?_
    intro z hz
    rcases List.mem_cons.mp hz with rfl | hz
    · exact N₁ _ (List.mem_append.mpr (.inl (List.mem_cons_of_mem _ (List.mem_cons_of_mem _ (List.mem_append.mpr (.inl (hr _ hm)))))))
    · refine N₁ z ?_
      first | exact (by kcf_all : ∀ p ∈ _, p ∈ _) _ hz | (simp only [List.mem_cons, List.mem_append] at hz ⊢; rcases hz with h | h | h | h | h <;> simp [h])
  · rintro m₁ nx h tk ⟨u, vs, fs, nr, nf, tl, rfl, rfl, h1, h2, h3, h4⟩ F₁ N₁
    have e1 : ∀ {a b : Nat}, @LT.lt Nat _ a b → b ≠ a := fun h e => Nat.lt_irrefl _ (e ▸ h)
    rw [hP.length, List.take_length] at h3 h4
    exact done u vs fs nr nf tl h tk h1 (fun p hp => e1 (h1 p hp)) h2 h3 h4 F₁ N₁
theorem fill_end (ds : List (Addr × Obj)) {stored : List Str} {m₀ m' : Str → Option Value} {L lr lf ha t : Addr} {e1 e2 e3 : Addr × Obj} {rest tl own : List (Addr × Obj)} {s₁ : Shared} {h' : Heap} {tk : Nat} {b e p q : Int} {tp tq : Tok} {rows : Rws} {i : Nat} {vs fs vs0 fs0 : List Value} {nr nf nr0 nf0 : Nat}
    (F : Fr h₀ L h' m') (N : News h₀ L h' (ds ++ ((t, pairObj p tp q tq) :: (lr, listOf vs.toArray nr) :: (lf, listOf fs.toArray nf) :: e1 :: e2 :: e3 :: (rest ++ (tl ++ own)))))
    (hi : rows[i]? = some (p, q)) (hoff : OwnOff own (((lr, listOf vs0.toArray nr0) :: (lf, listOf fs0.toArray nf0) :: (e1 :: e2 :: e3 :: (rest ++ tl))).map (·.1)))
    (ha1 : ∀ p ∈ tl, @LT.lt Nat _ ha p.1) (hlr1 : ∀ p ∈ tl, @LT.lt Nat _ lr p.1)
    (hm : ∀ z, stored.contains z = false → m' z = m₀ z) (hd : ∀ d ∈ ds, @LT.lt Nat _ ha d.1 ∧ @LT.lt Nat _ lr d.1 ∧ ∀ q ∈ own, q.1 ≠ d.1)
    (hv : Pairs (ds ++ tl) vs (fillStep b e ((rows.take i).foldl (fillStep b e) ([], [])) (p, q)).2) (hf : Pairs (ds ++ tl) fs (fillStep b e ((rows.take i).foldl (fillStep b e) ([], [])) (p, q)).1) :
    TurnEnd h₀ L (fillJ stored m₀ (e1 :: e2 :: e3 :: rest) lr lf ha b e rows (i + 1)) own s₁ { s₁ with heap := h', toks := tk } := by
  refine TurnEnd.intro (nx := (lr, listOf vs.toArray nr) :: (lf, listOf fs.toArray nf) :: (e1 :: e2 :: e3 :: rest ++ (ds ++ tl))) F N ⟨m', vs, fs, nr, nf, ds ++ tl, ?_, rfl, ?_, ?_, ?_, ?_⟩ ?_ ?_ ?_
  · funext y
    simp only [stoM]
    split
    · rfl
    · exact hm y (Bool.eq_false_iff.mpr ‹¬ _›)
  · intro p hp
    rcases List.mem_append.mp hp with h | h
    · exact (hd p h).1
    · exact ha1 p h
  · intro p hp
    rcases List.mem_append.mp hp with h | h
    · exact (hd p h).2.1
    · exact hlr1 p h
  · rw [take_succ_of hi, List.foldl_append]; exact hv
  · rw [take_succ_of hi, List.foldl_append]; exact hf
  · intro q hq b hb
    obtain ⟨z, hz, rfl⟩ := List.mem_map.mp hb
    have hf9 := hoff q hq
    exact (List.forall_mem_cons.mpr ⟨hf9 _ (.head _), List.forall_mem_cons.mpr ⟨hf9 _ (.tail _ (.head _)), List.forall_mem_cons.mpr ⟨hf9 _ (.tail _ (.tail _ (.head _))), List.forall_mem_cons.mpr ⟨hf9 _ (.tail _ (.tail _ (.tail _ (.head _)))), List.forall_mem_cons.mpr ⟨hf9 _ (.tail _ (.tail _ (.tail _ (.tail _ (.head _))))), List.forall_mem_append.mpr ⟨fun z h => hf9 _ (.tail _ (.tail _ (.tail _ (.tail _ (.tail _ (List.mem_map_of_mem (List.mem_append_left _ h))))))), List.forall_mem_append.mpr ⟨fun z h => (hd z h).2.2 q hq, fun z h => hf9 _ (.tail _ (.tail _ (.tail _ (.tail _ (.tail _ (List.mem_map_of_mem (List.mem_append_right _ h)))))))⟩⟩⟩⟩⟩⟩⟩ : ∀ z ∈ (lr, listOf vs.toArray nr) :: (lf, listOf fs.toArray nf) :: e1 :: e2 :: e3 :: (rest ++ (ds ++ tl)), q.1 ≠ z.1) z hz
  · show ∀ p ∈ (lr, listOf vs.toArray nr) :: (lf, listOf fs.toArray nf) :: e1 :: e2 :: e3 :: (rest ++ (ds ++ tl)), _
    kcf_all
  · intro z hz
    kba_same
end
theorem own_n6 {P0 P1 P2 P3 P4 P5 : Prop} {D : Addr} {a b c : List (Addr × Obj)} (h : P0 ∧ P1 ∧ P2 ∧ P3 ∧ P4 ∧ P5 ∧ AllLt D (a ++ (b ++ c))) : ∀ q ∈ c, q.1 ≠ D := fun q hq => tbn_neAll h.2.2.2.2.2.2 q (List.mem_append.mpr (.inr (List.mem_append.mpr (.inr hq))))
theorem own_n7 {P0 P1 P2 P3 P4 P5 P6 : Prop} {D : Addr} {a b c : List (Addr × Obj)} (h : P0 ∧ P1 ∧ P2 ∧ P3 ∧ P4 ∧ P5 ∧ P6 ∧ AllLt D (a ++ (b ++ c))) : ∀ q ∈ c, q.1 ≠ D := fun q hq => tbn_neAll h.2.2.2.2.2.2.2 q (List.mem_append.mpr (.inr (List.mem_append.mpr (.inr hq))))
theorem own_n8 {P0 P1 P2 P3 P4 P5 P6 P7 : Prop} {D : Addr} {a b c : List (Addr × Obj)} (h : P0 ∧ P1 ∧ P2 ∧ P3 ∧ P4 ∧ P5 ∧ P6 ∧ P7 ∧ AllLt D (a ++ (b ++ c))) : ∀ q ∈ c, q.1 ≠ D := fun q hq => tbn_neAll h.2.2.2.2.2.2.2.2 q (List.mem_append.mpr (.inr (List.mem_append.mpr (.inr hq))))


set_option genInjectivity false in
set_option genSizeOf false in
structure Hd where
  src : Int
  tgt : Int
  prot : Int
  ident : Int
  ttl : Int
  tos : Int
  dont : Bool
  more : Bool
  off : Int
noncomputable abbrev hdObj (P : Params) (h : Hd) (q1 q2 q3 q4 q5 q6 q7 q8 q9 q10 t1 t2 t3 t4 t5 t6 t9 t10 : Tok) : Obj := dictOf [⟨PyData.keyHash P (Str.ofString "source"), Value.str (Str.ofString "source") q1, Value.int h.src t1⟩, ⟨PyData.keyHash P (Str.ofString "target"), Value.str (Str.ofString "target") q2, Value.int h.tgt t2⟩, ⟨PyData.keyHash P (Str.ofString "protocol"), Value.str (Str.ofString "protocol") q3, Value.int h.prot t3⟩, ⟨PyData.keyHash P (Str.ofString "ident"), Value.str (Str.ofString "ident") q4, Value.int h.ident t4⟩, ⟨PyData.keyHash P (Str.ofString "ttl"), Value.str (Str.ofString "ttl") q5, Value.int h.ttl t5⟩, ⟨PyData.keyHash P (Str.ofString "tos"), Value.str (Str.ofString "tos") q6, Value.int h.tos t6⟩, ⟨PyData.keyHash P (Str.ofString "dont"), Value.str (Str.ofString "dont") q7, Value.bool h.dont⟩, ⟨PyData.keyHash P (Str.ofString "more"), Value.str (Str.ofString "more") q8, Value.bool h.more⟩, ⟨PyData.keyHash P (Str.ofString "offset"), Value.str (Str.ofString "offset") q9, Value.int h.off t9⟩, ⟨PyData.keyHash P (Str.ofString "options"), Value.str (Str.ofString "options") q10, Value.bytes #[] t10⟩] 10
noncomputable def HdAt (P : Params) (tl : List (Addr × Obj)) (hh : Addr) (h : Hd) : Prop :=
  ∃ (hha : Addr) (q1 q2 q3 q4 q5 q6 q7 q8 q9 q10 t1 t2 t3 t4 t5 t6 t9 t10 : Tok), (hh, instObj 74 hha) ∈ tl ∧ (hha, hdObj P h q1 q2 q3 q4 q5 q6 q7 q8 q9 q10 t1 t2 t3 t4 t5 t6 t9 t10) ∈ tl
theorem HdAt.mono {P : Params} {tl tl' : List (Addr × Obj)} {hh : Addr} {h : Hd} (hs : ∀ p ∈ tl, p ∈ tl') (x : HdAt P tl hh h) : HdAt P tl' hh h := by
  obtain ⟨hha, q1, q2, q3, q4, q5, q6, q7, q8, q9, q10, t1, t2, t3, t4, t5, t6, t9, t10, a, b⟩ := x
  exact ⟨hha, q1, q2, q3, q4, q5, q6, q7, q8, q9, q10, t1, t2, t3, t4, t5, t6, t9, t10, hs _ a, hs _ b⟩
noncomputable abbrev Byt := Array UInt8
noncomputable abbrev partObj (a : Int) (ta : Tok) (b : Byt) (tb : Tok) : Obj := { cls := .type "tuple", data := .seq #[Value.int a ta, Value.bytes b tb] }
inductive Parts (tl : List (Addr × Obj)) : List Value → List (Int × Byt) → Prop
  | nil : Parts tl [] []
  | cons {t : Addr} {a : Int} {b : Byt} {ta tb : Tok} {vs : List Value} {r : List (Int × Byt)} : (t, partObj a ta b tb) ∈ tl → Parts tl vs r → Parts tl (.ref t :: vs) ((a, b) :: r)
theorem Parts.mono {tl tl' : List (Addr × Obj)} (hs : ∀ p ∈ tl, p ∈ tl') : ∀ {vs : List Value} {r : List (Int × Byt)}, Parts tl vs r → Parts tl' vs r := by
  intro _ _ h9
  induction h9 with
  | nil => exact .nil
  | cons h k ih9 => exact .cons (hs _ h) ih9
theorem Parts.snoc {tl : List (Addr × Obj)} {t : Addr} {a : Int} {b : Byt} {ta tb : Tok} (h : (t, partObj a ta b tb) ∈ tl) : ∀ {vs : List Value} {r : List (Int × Byt)}, Parts tl vs r → Parts tl (vs ++ [.ref t]) (r ++ [(a, b)]) := by
  intro _ _ h9
  induction h9 with
  | nil => exact .cons h .nil
  | cons h' k ih9 => exact .cons h' ih9
theorem Parts.length {tl : List (Addr × Obj)} : ∀ {vs : List Value} {r : List (Int × Byt)}, Parts tl vs r → vs.length = r.length := by
  intro _ _ h9
  induction h9 with
  | nil => exact rfl
  | cons _ k ih9 => exact by rw [List.length_cons, List.length_cons, ih9]
theorem Pairs.last {tl : List (Addr × Obj)} {a b : Int} : ∀ {r : Rws} {vs : List Value}, Pairs tl vs (r ++ [(a, b)]) → ∃ vs' t ta tb, vs = vs' ++ [.ref t] ∧ (t, pairObj a ta b tb) ∈ tl := by
  intro r
  induction r with
  | nil =>
    intro vs h
    cases h with
    | cons h k =>
      cases k
      exact ⟨[], _, _, _, rfl, h⟩
  | cons x r ih =>
    intro vs h
    cases h with
    | cons h k =>
      obtain ⟨vs', t, ta, tb, e, h⟩ := ih k
      exact ⟨_ :: vs', t, ta, tb, by rw [e]; rfl, h⟩
set_option genInjectivity false in
set_option genSizeOf false in
structure Dg where
  began : Int
  rows : Rws
  parts : List (Int × Byt)
  fin : Option Int
  ahead : Int
  first : Option Hd
  size : Int
noncomputable def finV : Option Int → Tok → Value
  | none, _ => .none
  | some e, t => .int e t
set_option genInjectivity false in
set_option genSizeOf false in
structure DgC where
  (d da hg ha rl pl : Addr)
  (rvs pvs : List Value)
  (nr np : Nat)
  fv : Value
  (g1 g2 g3 g4 g5 g6 g7 g8 k1 k2 tb tM tM2 te tA tS : Tok)
noncomputable def FirstAt (P : Params) (tl : List (Addr × Obj)) (v : Value) : Option Hd → Prop
  | none => v = .none
  | some h => ∃ hh, v = .ref hh ∧ HdAt P tl hh h
noncomputable abbrev dgObj (P : Params) (c : DgC) (g : Dg) : Obj := dictOf [⟨PyData.keyHash P (Str.ofString "began"), Value.str (Str.ofString "began") c.g1, Value.int g.began c.tb⟩, ⟨PyData.keyHash P (Str.ofString "most"), Value.str (Str.ofString "most") c.g2, Value.int 65535 c.tM⟩, ⟨PyData.keyHash P (Str.ofString "holes"), Value.str (Str.ofString "holes") c.g3, Value.ref c.hg⟩, ⟨PyData.keyHash P (Str.ofString "parts"), Value.str (Str.ofString "parts") c.g4, Value.ref c.pl⟩, ⟨PyData.keyHash P (Str.ofString "end"), Value.str (Str.ofString "end") c.g5, finV g.fin c.te⟩, ⟨PyData.keyHash P (Str.ofString "ahead"), Value.str (Str.ofString "ahead") c.g6, Value.int g.ahead c.tA⟩, ⟨PyData.keyHash P (Str.ofString "first"), Value.str (Str.ofString "first") c.g7, c.fv⟩, ⟨PyData.keyHash P (Str.ofString "size"), Value.str (Str.ofString "size") c.g8, Value.int g.size c.tS⟩] 8
noncomputable abbrev hoObj (P : Params) (c : DgC) : Obj := dictOf [⟨PyData.keyHash P (Str.ofString "most"), Value.str (Str.ofString "most") c.k1, Value.int 65535 c.tM2⟩, ⟨PyData.keyHash P (Str.ofString "rows"), Value.str (Str.ofString "rows") c.k2, Value.ref c.rl⟩] 2
structure DgAt (P : Params) (tl : List (Addr × Obj)) (c : DgC) (g : Dg) : Prop where
  di : (c.d, instObj 452 c.da) ∈ tl
  hi : (c.hg, instObj 398 c.ha) ∈ tl
  ri : (c.rl, listOf c.rvs.toArray c.nr) ∈ tl
  rows : Pairs tl c.rvs g.rows
  parts : Parts tl c.pvs g.parts
  first : FirstAt P tl c.fv g.first
theorem FirstAt.mono {P : Params} {tl tl' : List (Addr × Obj)} (hs : ∀ p ∈ tl, p ∈ tl') {v : Value} : ∀ {f : Option Hd}, FirstAt P tl v f → FirstAt P tl' v f
  | none, h => h
  | some _, ⟨hh, e, h⟩ => ⟨hh, e, h.mono hs⟩
theorem FirstAt.handed {P : Params} {tl : List (Addr × Obj)} {v : Value} : ∀ {f : Option Hd}, FirstAt P tl v f → handedIn v = true
  | none, h => by rw [h]; rfl
  | some _, ⟨hh, e, _⟩ => by rw [e]; rfl
theorem is_first {prog : Program} {w : World} {A : Around} {E : Value → Shared → Prop} {s : Shared} {Q : Value → Shared → Prop} {P : Params} {tl : List (Addr × Obj)} {v : Value} {f : Option Hd} (h : FirstAt P tl v f)
    (h0 : f = none → v = .none → Q (.bool true) s) (h1 : ∀ x, f = some x → Q (.bool false) s) : wpAny (model prog w) A (compareOp .Is v .none) Q E s := by
  cases f with
  | none => cases h; exact is_none_none (h0 rfl rfl)
  | some x => obtain ⟨hh, rfl, _⟩ := h; exact is_none_ne (by intro x; cases x) (h1 x rfl)
theorem DgAt.mono {P : Params} {tl tl' : List (Addr × Obj)} {c : DgC} {g : Dg} (hs : ∀ p ∈ tl, p ∈ tl') (x : DgAt P tl c g) : DgAt P tl' c g := ⟨hs _ x.di, hs _ x.hi, hs _ x.ri, x.rows.mono hs, x.parts.mono hs, x.first.mono hs⟩
noncomputable def addPart (b : Int) (pb : Byt) (st : List (Int × Byt) × Int) (p : Int × Int) : List (Int × Byt) × Int := (st.1 ++ [(p.1, KBy.picked pb (some (p.1 - b)) (some (p.2 - b)))], st.2 + p.2 - p.1)
noncomputable def newFirst (off : Int) (first : Option Hd) (h : Hd) : Option Hd := if off = 0 then (match first with | none => some h | some x => some x) else first
section
variable {P : Params} {tl rest : List (Addr × Obj)} {hh : Addr} {hdr x : Hd} {off : Int} {first : Option Hd} {fv : Value}
theorem first_a (h0 : off = 0) (h1 : first = none) (hH : HdAt P rest hh hdr) : FirstAt P rest (.ref hh) (newFirst off first hdr) := by
  subst h1; unfold newFirst; rw [if_pos h0]
  exact ⟨hh, rfl, hH⟩
theorem first_b (h0 : off = 0) (h1 : first = some x) (hF : FirstAt P rest fv first) : FirstAt P rest fv (newFirst off first hdr) := by
  subst h1; unfold newFirst; rw [if_pos h0]
  exact hF
theorem first_c (h0 : ¬ off = 0) (hF : FirstAt P rest fv first) : FirstAt P rest fv (newFirst off first hdr) := by
  unfold newFirst; rw [if_neg h0]
  exact hF
end
theorem updApp {D : Addr} {o o' : Obj} {l l' : List (Addr × Obj)} : ∀ {a : List (Addr × Obj)}, (∀ p ∈ a, p.1 ≠ D) → Upd D o o' l l' → Upd D o o' (a ++ l) (a ++ l')
  | [], _, h => h
  | p :: _, ha, h => Upd.tail (ha p (.head _)) (updApp (fun q hq => ha q (.tail _ hq)) h)
theorem newsub {h₀ h : Heap} {L : Addr} {a b : List (Addr × Obj)} (N : News h₀ L h a) (hs : ∀ q ∈ b, q ∈ a) : News h₀ L h b := fun q hq => N q (hs q hq)
theorem put_b6 {r rl : Addr} {tl tl2 : List (Addr × Obj)} (h : @LT.lt Nat _ r rl) (h1 : ∀ p ∈ tl, @LT.lt Nat _ rl p.1) (h2 : ∀ p ∈ tl2, @LT.lt Nat _ r p.1) : ∀ p ∈ tl ++ tl2, @LT.lt Nat _ r p.1 := fun p hp =>
  (List.mem_append.mp hp).elim (fun k => Nat.lt_trans h (h1 p k)) (h2 p)
theorem put_b6' {r rl : Addr} {tl tl2 : List (Addr × Obj)} (h1 : ∀ p ∈ tl, @LT.lt Nat _ rl p.1) (h2 : ∀ p ∈ tl2, @LT.lt Nat _ r p.1) (h : @LT.lt Nat _ r rl) : ∀ p ∈ tl ++ tl2, @LT.lt Nat _ r p.1 := put_b6 h h1 h2
theorem pairs_l {tl tl2 : List (Addr × Obj)} {vs : List Value} {r : Rws} (h : Pairs tl vs r) : Pairs (tl ++ tl2) vs r := h.mono fun _ hq => List.mem_append.mpr (.inl hq)
theorem parts_perm {rest tl tl2 : List (Addr × Obj)} {vs : List Value} {ps : List (Int × Byt)} (h : Parts (rest ++ tl2) vs ps) : Parts ((tl ++ tl2) ++ rest) vs ps := h.mono fun p hp => by
  rcases List.mem_append.mp hp with k | k <;> simp [k]
theorem lt_n7 {P0 P1 P2 P3 P4 P5 P6 : Prop} {D : Addr} {a : List (Addr × Obj)} (h : P0 ∧ P1 ∧ P2 ∧ P3 ∧ P4 ∧ P5 ∧ P6 ∧ AllLt D a) : AllLt D a := h.2.2.2.2.2.2.2
theorem lt_n8 {P0 P1 P2 P3 P4 P5 P6 P7 : Prop} {D : Addr} {a : List (Addr × Obj)} (h : P0 ∧ P1 ∧ P2 ∧ P3 ∧ P4 ∧ P5 ∧ P6 ∧ P7 ∧ AllLt D a) : AllLt D a := h.2.2.2.2.2.2.2.2
noncomputable def Hd.fin (h : Hd) (pb : Byt) : Int := h.off + pb.size
noncomputable def Dg.put (g : Dg) (h : Hd) (pb : Byt) : Dg where
  began := g.began
  parts := ((g.rows.foldl (fillStep h.off (h.fin pb)) ([], [])).1.foldl (addPart h.off pb) (g.parts, g.size)).1
  size := ((g.rows.foldl (fillStep h.off (h.fin pb)) ([], [])).1.foldl (addPart h.off pb) (g.parts, g.size)).2
  rows := if h.more then (g.rows.foldl (fillStep h.off (h.fin pb)) ([], [])).2 else ((g.rows.foldl (fillStep h.off (h.fin pb)) ([], [])).2.foldl (fillStep (h.fin pb) 65535) ([], [])).2
  ahead := if h.more then (if h.fin pb > g.ahead then h.fin pb else g.ahead) else g.ahead
  fin := if h.more then g.fin else some (h.fin pb)
  first := newFirst h.off g.first h
section
variable {prog : Program} {w : World} {A : Around} {E : Value → Shared → Prop} {s : Shared} {env : Env} {h₀ : Heap} {target : Expr} {body : List Stmt} {Q : Flow → Shared → Prop}
noncomputable def PutArgs (_ _ _ : Addr) (_ : Int) (_ : Byt) (_ : Int → Tok → Obj) (_ : List (Int × Byt)) : Prop := True
noncomputable def putJ (rest0 : List (Addr × Obj)) (stored : List Str) (m₀ : Str → Option Value) (fx : List (Addr × Obj)) (da pl : Addr) (dO : Int → Tok → Obj) (b : Int) (pb : Byt) (st : List (Int × Byt) × Int) (fs : Rws) (r0 : Addr) (i : Nat) (m : Str → Option Value) (nx : List (Addr × Obj)) : Prop :=
  ∃ (u : Str → Option Value) (pvs : List Value) (np : Nat) (z : Int) (tz : Tok) (tl : List (Addr × Obj)), m = stoM stored u m₀ ∧ nx = (da, dO z tz) :: (pl, listOf pvs.toArray np) :: (fx ++ tl) ∧
    (∀ p ∈ tl, @LT.lt Nat _ r0 p.1) ∧ z = ((fs.take i).foldl (addPart b pb) st).2 ∧ Parts (rest0 ++ tl) pvs ((fs.take i).foldl (addPart b pb) st).1
structure PutMid (rest0 fx : List (Addr × Obj)) (da pl : Addr) (b : Int) (pb : Byt) (st : List (Int × Byt) × Int) (fs : Rws) (r0 : Addr) (i : Nat) (p q z : Int) (pvs : List Value) (tl own fz : List (Addr × Obj)) : Prop where
  hi : fs[i]? = some (p, q)
  hr : ∀ p ∈ tl, @LT.lt Nat _ r0 p.1
  hz : z = ((fs.take i).foldl (addPart b pb) st).2
  hp : Parts (rest0 ++ tl) pvs ((fs.take i).foldl (addPart b pb) st).1
  hf : fz = fx ++ (tl ++ own)
  h0 : ∃ o, (r0, o) ∈ fx
  ha : ∀ q ∈ own, q.1 ≠ da ∧ q.1 ≠ pl
  ho : ∀ q ∈ own, ∀ p ∈ fx ++ tl, q.1 ≠ p.1
theorem addPart_len (b : Int) (pb : Byt) : ∀ (fs : Rws) (st : List (Int × Byt) × Int), (fs.foldl (addPart b pb) st).1.length = st.1.length + fs.length
  | [], st => rfl
  | p :: r, st => by rw [List.foldl_cons, addPart_len b pb r, List.length_cons]; simp only [addPart, List.length_append, List.length_cons, List.length_nil]; omega
theorem put_loop (stored : List Str) {m₀ : Str → Option Value} {news r1 fx rest rest0 : List (Addr × Obj)} {d da pl fl : Addr} {dO : Int → Tok → Obj} {b z0 : Int} {pb : Byt} {tz0 : Tok} {fs : Rws} {fvs pvs0 : List Value} {np0 nn : Nat} {parts : List (Int × Byt)}
    (_mk : PutArgs d da pl b pb dO parts) (hh : A.handled = none) (F : Fr h₀ env.locals s.heap m₀) (N : News h₀ env.locals s.heap news)
    (S1 : Sel da (dO z0 tz0) news r1) (S2 : Sel pl (listOf pvs0.toArray np0) r1 fx) (hl : (fl, listOf fvs.toArray nn) ∈ fx) (hd : (d, instObj 452 da) ∈ fx)
    (hr : ∀ p ∈ rest, p ∈ fx) (hP : Pairs rest fvs fs) (hpp : Parts rest0 pvs0 parts) (hr0 : ∀ p ∈ rest0, p ∈ fx) (hn : parts.length + fs.length ≤ 1000)
    (h1 : ∀ p ∈ fx, p.1 ≠ da) (h2 : ∀ p ∈ fx, p.1 ≠ pl) (hpa : Apt pl da) (h3 : @LE.le Nat _ da fl) (h4 : @LE.le Nat _ pl fl)
    (turn : ∀ (i : Nat) (p q : Int) (t : Addr) (tp tq : Tok) (u : Str → Option Value) (pvs : List Value) (np : Nat) (z : Int) (tz : Tok) (tl own fz : List (Addr × Obj)) h tk,
      PutMid rest0 fx da pl b pb (parts, z0) fs fl i p q z pvs tl own fz → (∀ p ∈ fz, p.1 ≠ da) → (∀ p ∈ fz, p.1 ≠ pl) → Apt t da → Apt t pl → Apt d da → Apt d pl → Apt pl da → pvs.length ≤ 1000 →
      Fr h₀ env.locals h (stoM stored u m₀) → News h₀ env.locals h ((t, pairObj p tp q tq) :: (d, instObj 452 da) :: (da, dO z tz) :: (pl, listOf pvs.toArray np) :: fz) →
      wpAny (model prog w) A (assign target env (.ref t)) (fun _ s₃ => wpAny (model prog w) A (execs body env) (TurnPost h₀ env.locals (putJ rest0 stored m₀ fx da pl dO b pb (parts, z0) fs fl (i + 1)) own { s with heap := h, toks := tk } Q) E s₃) E { s with heap := h, toks := tk })
    (done : ∀ (u : Str → Option Value) (pvs : List Value) (np : Nat) (z : Int) (tz : Tok) (tl : List (Addr × Obj)) h tk, (∀ p ∈ tl, @LT.lt Nat _ fl p.1) → z = (fs.foldl (addPart b pb) (parts, z0)).2 → Parts (rest0 ++ tl) pvs (fs.foldl (addPart b pb) (parts, z0)).1 →
      (∀ p ∈ tl, p.1 ≠ da) → (∀ p ∈ tl, p.1 ≠ pl) → Fr h₀ env.locals h (stoM stored u m₀) → News h₀ env.locals h ((da, dO z tz) :: (pl, listOf pvs.toArray np) :: (fx ++ tl)) → Q .next { s with heap := h, toks := tk }) :
    wpAny (model prog w) A (pyIter (.ref fl)) (fun it s₂ => TurnsAt prog w A h₀ env target body Q E it s₂) E s := by
  have e1 : ∀ {a b c : Nat}, a ≤ b → @LT.lt Nat _ b c → c ≠ a := fun h h' e => Nat.lt_irrefl _ (Nat.lt_of_le_of_lt h (e ▸ h'))
  refine turns_list (news := (da, dO z0 tz0) :: (pl, listOf pvs0.toArray np0) :: fx) (putJ rest0 stored m₀ fx da pl dO b pb (parts, z0) fs fl) hh (List.mem_cons_of_mem _ (List.mem_cons_of_mem _ hl)) ?_ F ?_ ⟨m₀, pvs0, np0, z0, tz0, [], ?_, ?_, fun p hp => (by cases hp), rfl, ?_⟩ ?_ ?_
  · rintro i m nx ⟨u, pvs, np, z, tz, tl, rfl, rfl, -⟩
    exact List.mem_cons_of_mem _ (List.mem_cons_of_mem _ (List.mem_append.mpr (.inl hl)))
  · exact newsC N S1.mem (newsC N (S1.sub _ S2.mem) fun q hq => N _ (S1.sub _ (S2.sub _ hq)))
  · funext y; simp only [stoM]; split <;> rfl
  · simp
  · simpa using hpp
  · rintro i v m₁ nx h tk own hv ⟨u, pvs, np, z, tz, tl, rfl, rfl, k1, k2, k3⟩ hoff F₁ N₁
    obtain ⟨t, p, q, tp, tq, rfl, hm, hi⟩ := hP.get hv
    have hi2 : i < fs.length := (List.getElem?_eq_some_iff.mp hi).1
    have hlen : pvs.length ≤ 1000 := by
      have e := addPart_len b pb (fs.take i) (parts, z0)
      rw [k3.length, e, List.length_take, Nat.min_eq_left (Nat.le_of_lt hi2)]
      dsimp only
      omega
    have hown : ∀ q ∈ own, (q.1 ≠ da ∧ q.1 ≠ pl) ∧ ∀ p ∈ fx ++ tl, q.1 ≠ p.1 := fun q hq => ⟨⟨hoff q hq _ (.head _), hoff q hq _ (.tail _ (.head _))⟩, fun p hp => hoff q hq _ (List.mem_map_of_mem (List.mem_cons_of_mem _ (List.mem_cons_of_mem _ hp)))⟩
    refine turn i p q t tp tq u pvs np z tz tl own (fx ++ (tl ++ own)) h tk ⟨hi, k1, k2, k3, rfl, ⟨_, hl⟩, fun q hq => (hown q hq).1, fun q hq => (hown q hq).2⟩ ?_ ?_ (h1 _ (hr _ hm)) (h2 _ (hr _ hm)) (h1 _ hd) (h2 _ hd) hpa hlen F₁ ?_
    · exact List.forall_mem_append.mpr ⟨h1, List.forall_mem_append.mpr ⟨fun p hp => e1 h3 (k1 p hp), fun p hp => (hown p hp).1.1⟩⟩
    · exact List.forall_mem_append.mpr ⟨h2, List.forall_mem_append.mpr ⟨fun p hp => e1 h4 (k1 p hp), fun p hp => (hown p hp).1.2⟩⟩
    · have m1 := hr _ hm
      exact newsC N₁ (by kba_same) (newsC N₁ (by kba_same) (newsub N₁ (by kcf_all)))
  · rintro m₁ nx h tk ⟨u, pvs, np, z, tz, tl, rfl, rfl, k1, k2, k3⟩ F₁ N₁
    rw [hP.length, List.take_length] at k2 k3
    exact done u pvs np z tz tl h tk k1 k2 k3 (fun p hp => e1 h3 (k1 p hp)) (fun p hp => e1 h4 (k1 p hp)) F₁ N₁
theorem put_end {stored : List Str} {m₀ m' : Str → Option Value} {L da pl r0 D : Addr} {dO : Int → Tok → Obj} {b p q z z0 : Int} {pb : Byt} {parts : List (Int × Byt)} {fs : Rws} {i np : Nat} {pvs : List Value} {tz' tt tb : Tok} {rest0 fx tl own fz news : List (Addr × Obj)} {s₁ : Shared} {h' : Heap} {tk : Nat}
    (hM : PutMid rest0 fx da pl b pb (parts, z0) fs r0 i p q z pvs tl own fz) (F : Fr h₀ L h' m') (N : News h₀ L h' news) (hD : (D, partObj p tt (KBy.picked pb (some (p - b)) (some (q - b))) tb) ∈ news)
    (hda : (da, dO (z + q - p) tz') ∈ news) (hpl : (pl, listOf (pvs ++ [Value.ref D]).toArray np) ∈ news) (hfz : ∀ p ∈ fz, p ∈ news) (hlt : AllLt D fz)
    (hm : ∀ z, stored.contains z = false → m' z = m₀ z) :
    TurnEnd h₀ L (putJ rest0 stored m₀ fx da pl dO b pb (parts, z0) fs r0 (i + 1)) own s₁ { s₁ with heap := h', toks := tk } := by
  obtain ⟨hi, hr, hz, hp, rfl, ⟨o0, h0⟩, ha, ho⟩ := hM
  have hlt' : ∀ q ∈ fx ++ (tl ++ own), @LT.lt Nat _ q.1 D := ktn_ltOf hlt
  have et : (fs.take (i + 1)).foldl (addPart b pb) (parts, z0) = addPart b pb ((fs.take i).foldl (addPart b pb) (parts, z0)) (p, q) := by
    rw [take_succ_of hi, List.foldl_append]; rfl
  refine TurnEnd.intro (nx := (da, dO (z + q - p) tz') :: (pl, listOf (pvs ++ [Value.ref D]).toArray np) :: (fx ++ ((D, partObj p tt (KBy.picked pb (some (p - b)) (some (q - b))) tb) :: tl))) F N ⟨m', _, _, _, _, _, ?_, rfl, ?_, ?_, ?_⟩ ?_ ?_ ?_
  · funext y
    simp only [stoM]
    split
    · rfl
    · exact hm y (Bool.eq_false_iff.mpr ‹¬ _›)
  · intro x hx
    rcases List.mem_cons.mp hx with rfl | hx
    · exact hlt' _ (List.mem_append.mpr (.inl h0))
    · exact hr x hx
  · rw [et, hz]; rfl
  · rw [et]
    refine Parts.snoc (List.mem_append.mpr (.inr (.head _))) (hp.mono fun x hx => ?_)
    rcases List.mem_append.mp hx with hx | hx
    · exact List.mem_append.mpr (.inl hx)
    · exact List.mem_append.mpr (.inr (.tail _ hx))
  · intro x hx y hy
    obtain ⟨v, hv, rfl⟩ := List.mem_map.mp hy
    clear hy
    rcases List.mem_cons.mp hv with rfl | hv
    · exact (ha x hx).1
    rcases List.mem_cons.mp hv with rfl | hv
    · exact (ha x hx).2
    rcases List.mem_append.mp hv with hv | hv
    · exact ho x hx v (List.mem_append.mpr (.inl hv))
    rcases List.mem_cons.mp hv with rfl | hv
    · exact Nat.ne_of_lt (hlt' x (List.mem_append.mpr (.inr (List.mem_append.mpr (.inr hx)))))
    · exact ho x hx v (List.mem_append.mpr (.inr hv))
  · intro x hx
    rcases List.mem_cons.mp hx with rfl | hx
    · exact hda
    rcases List.mem_cons.mp hx with rfl | hx
    · exact hpl
    rcases List.mem_append.mp hx with hx | hx
    · exact hfz _ (List.mem_append.mpr (.inl hx))
    rcases List.mem_cons.mp hx with rfl | hx
    · exact hD
    · exact hfz _ (List.mem_append.mpr (.inr (List.mem_append.mpr (.inl hx))))
  · intro x hx
    exact hfz _ (List.mem_append.mpr (.inr (List.mem_append.mpr (.inr hx))))
end
section
variable {prog : Program} {w : World} {A : Around} {E : Value → Shared → Prop} {s : Shared} {value slice : PySem.Expr} {pb : Byt} {t : Tok} {h₀ : Heap} {L : Addr} {m : Str → Option Value} {news : List (Addr × Obj)} {l u : Value} {lo hi : Option Int} {Q : Value → Shared → Prop}
theorem len_By (hz : pb.size ≤ 16777216) (h : Q (.int (pb.size : Int) (s.toks + 1)) { s with toks := s.toks + 1 + 1 }) : wpAny (model prog w) A (call (.builtin "len") [.bytes pb t]) Q E s :=
  KBw.len_K rfl (by rw [KBw.ints_length]; exact Nat.le_trans hz (by decide)) (by rw [KBw.ints_length]; exact h)
theorem slice_By (hF : Fr h₀ L s.heap m) (hN : News h₀ L s.heap news) (hl : IsPart l lo) (hu : IsPart u hi) (hz : pb.size ≤ 16777216)
    (h : ∀ h' t' k, Fr h₀ L h' m → News h₀ L h' news → Q (.bytes (KBy.picked pb lo hi) t') { s with heap := h', toks := k })
    (hs : subscripted slice false (.bytes pb t) (.ref s.heap.objs.size) = operate [.ref s.heap.objs.size, .bytes pb t] (getItem (.bytes pb t) (.ref s.heap.objs.size)))
    (ht : ∀ r, letTemporaryGo value (.bytes pb t) r = pure ()) :
    wpAny (model prog w) A (subscriptTail value slice (.bytes pb t) (.ref s.heap.objs.size)) Q E { s with heap := s.heap.push { cls := .type "slice", data := .fields #[l, u, .none] } } :=
  KBc.slice_K hF hN rfl hl hu (by rw [KBw.ints_length]; exact hz) (fun h' t' k F N _ => h h' t' k F N) hs ht
end

noncomputable def MkNM : Prop := True
noncomputable def MkL : Prop := True
noncomputable def MkOM : Prop := True
noncomputable def AllNe (d : Addr) (l : List (Addr × Obj)) : Prop := ∀ p ∈ l, p.1 ≠ d
theorem isnot_first {prog : Program} {w : World} {A : Around} {E : Value → Shared → Prop} {s : Shared} {Q : Value → Shared → Prop} {P : Params} {tl : List (Addr × Obj)} {v : Value} {f : Option Hd} (h : FirstAt P tl v f)
    (h0 : f = none → v = .none → Q (.bool false) s) (h1 : ∀ x, f = some x → Q (.bool true) s) : wpAny (model prog w) A (compareOp .IsNot v .none) Q E s := by
  cases f with
  | none => cases h; exact isnot_none_none (h0 rfl rfl)
  | some x => obtain ⟨hh, rfl, _⟩ := h; exact isnot_none_ne (by intro x; cases x) (h1 x rfl)
theorem run_01 : runT [0, 8] (kas_sort 2) = some #[0, 1] := by decide +kernel
theorem run_10 : runT [8, 0] (kas_sort 2) = some #[1, 0] := by decide +kernel
theorem run_012 : runT [0, 8, 16] (kas_sort 3) = some #[0, 1, 2] := by decide +kernel
theorem run_021 : runT [0, 16, 8] (kas_sort 3) = some #[0, 2, 1] := by decide +kernel
theorem run_102 : runT [8, 0, 16] (kas_sort 3) = some #[1, 0, 2] := by decide +kernel
theorem run_120 : runT [8, 16, 0] (kas_sort 3) = some #[2, 0, 1] := by decide +kernel
theorem run_201 : runT [16, 0, 8] (kas_sort 3) = some #[1, 2, 0] := by decide +kernel
theorem run_210 : runT [16, 8, 0] (kas_sort 3) = some #[2, 1, 0] := by decide +kernel
theorem TupInts.mono {tl news : List (Addr × Obj)} (hs : ∀ p ∈ tl, p ∈ news) {vs : List Value} {ks : List Int} (h : TupInts tl vs ks) : TupInts news vs ks := by
  induction h with
  | nil => exact .nil
  | cons h1 h2 h3 h4 _ ih => exact .cons (hs _ h1) h2 h3 h4 ih


section
variable {prog : Program} {w : World} {tl news : List (Addr × Obj)} {o ok : Obj} {xs : List (List Int × Addr × Value)} {k : List Int} {a : Addr} {v : Value}
theorem w_after (hW : WObj prog w o (storedH xs k a v)) (h0 : atKey xs k = none) : WObj prog w o (xs ++ [(k, a, v)]) ∧ atKey (xs ++ [(k, a, v)]) k = some (a, v) := by
  rw [storedH_new h0] at hW
  refine ⟨hW, ?_⟩
  obtain ⟨_, _, _, _, _, hn⟩ := hW
  exact atKey_of_get (i := xs.length) hn (by simp)
theorem wkeys_app (hs : ∀ p ∈ tl, p ∈ news) (hk : WKeys prog w tl xs) (hm : (a, ok) ∈ news) (tk : TupKeyObj (intKind prog w) k ok) : WKeys prog w news (xs ++ [(k, a, v)]) := fun x hx => by
  rcases List.mem_append.mp hx with hx | hx
  · exact hk.mono hs x hx
  · rw [List.mem_singleton.mp hx]; exact ⟨ok, hm, tk⟩
end
theorem w_get {prog : Program} {w : World} {o : Obj} {xs : List (List Int × Addr × Value)} {k : List Int} {p : Addr × Value} (hw : WObj prog w o xs) (i : Nat) (hx : xs[i]? = some (k, p)) : atKey xs k = some p := by
  obtain ⟨_, _, _, _, _, hn⟩ := hw
  exact atKey_of_get hn hx
theorem WObj.raw {prog : Program} {w : World} {o : Obj} {xs : List (List Int × Addr × Value)} (hw : WObj prog w o xs) : ∃ es ep, o.ExactDict ∧ o.data = .dict es ep ∧ es.toList = xs.map (entryOfKey (tupleKind (intKind prog w))) := let ⟨c, es, ep, d, e, _⟩ := hw; ⟨es, ep, c, d, e⟩


inductive Octs : List (Int × Byt) → Byt → Prop
  | p01 {c0 c1 : Byt} : Octs [(0, c0), (8, c1)] (c0 ++ c1)
  | p10 {c0 c1 : Byt} : Octs [(8, c0), (0, c1)] (c1 ++ c0)
  | p012 {c0 c1 c2 : Byt} : Octs [(0, c0), (8, c1), (16, c2)] (c0 ++ c1 ++ c2)
  | p021 {c0 c1 c2 : Byt} : Octs [(0, c0), (16, c1), (8, c2)] (c0 ++ c2 ++ c1)
  | p102 {c0 c1 c2 : Byt} : Octs [(8, c0), (0, c1), (16, c2)] (c1 ++ c0 ++ c2)
  | p120 {c0 c1 c2 : Byt} : Octs [(8, c0), (16, c1), (0, c2)] (c2 ++ c0 ++ c1)
  | p201 {c0 c1 c2 : Byt} : Octs [(16, c0), (0, c1), (8, c2)] (c1 ++ c2 ++ c0)
  | p210 {c0 c1 c2 : Byt} : Octs [(16, c0), (8, c1), (0, c2)] (c2 ++ c1 ++ c0)
theorem Parts.inv {tl : List (Addr × Obj)} {vs : List Value} {a : Int} {b : Byt} {r : List (Int × Byt)} (h : Parts tl vs ((a, b) :: r)) : ∃ t ta tb vs', vs = Value.ref t :: vs' ∧ (t, partObj a ta b tb) ∈ tl ∧ Parts tl vs' r := by
  cases h with
  | cons h k => exact ⟨_, _, _, _, rfl, h, k⟩
theorem Parts.inv0 {tl : List (Addr × Obj)} {vs : List Value} (h : Parts tl vs []) : vs = [] := by
  cases h
  rfl
theorem size2 {a b : Nat} (h1 : a ≤ 65535) (h2 : b ≤ 65535) : a + b ≤ 16777216 := by omega
theorem size3 {a b c : Nat} (h1 : a ≤ 65535) (h2 : b ≤ 65535) (h3 : c ≤ 65535) : a + b + c ≤ 16777216 := by omega

theorem nn_app {zs : List Int} {z : Int} (h : ∀ z ∈ zs, 0 ≤ z) (hz : 0 ≤ z) : ∀ x ∈ zs ++ [z], 0 ≤ x := fun x hx => (List.mem_append.mp hx).elim (h x) fun k => by rw [List.mem_singleton.mp k]; exact hz
inductive Waits (P : Params) (tl : List (Addr × Obj)) : List (List Int × Addr × Value) → List Int → Prop
  | nil : Waits P tl [] []
  | cons {ka d da : Addr} {a1 a2 a3 a4 z : Int} {x1 x2 x3 x4 g1 g2 g3 g4 g5 g6 g7 g8 tz : Tok} {b1 b2 b3 b4 b5 b6 b7 : Value} {xs : List (List Int × Addr × Value)} {zs : List Int} :
    (ka, ({ cls := .type "tuple", data := .seq #[Value.int a1 x1, Value.int a2 x2, Value.int a3 x3, Value.int a4 x4] } : Obj)) ∈ tl → (d, instObj 452 da) ∈ tl → (da, (dictOf [⟨PyData.keyHash P (Str.ofString "began"), Value.str (Str.ofString "began") g1, b1⟩, ⟨PyData.keyHash P (Str.ofString "most"), Value.str (Str.ofString "most") g2, b2⟩, ⟨PyData.keyHash P (Str.ofString "holes"), Value.str (Str.ofString "holes") g3, b3⟩, ⟨PyData.keyHash P (Str.ofString "parts"), Value.str (Str.ofString "parts") g4, b4⟩, ⟨PyData.keyHash P (Str.ofString "end"), Value.str (Str.ofString "end") g5, b5⟩, ⟨PyData.keyHash P (Str.ofString "ahead"), Value.str (Str.ofString "ahead") g6, b6⟩, ⟨PyData.keyHash P (Str.ofString "first"), Value.str (Str.ofString "first") g7, b7⟩, ⟨PyData.keyHash P (Str.ofString "size"), Value.str (Str.ofString "size") g8, Value.int z tz⟩] 8)) ∈ tl → Waits P tl xs zs → Waits P tl (([a1, a2, a3, a4], ka, Value.ref d) :: xs) (z :: zs)
theorem Waits.mono {P : Params} {tl tl' : List (Addr × Obj)} (hs : ∀ p ∈ tl, p ∈ tl') : ∀ {xs : List (List Int × Addr × Value)} {zs : List Int}, Waits P tl xs zs → Waits P tl' xs zs := by
  intro _ _ h9
  induction h9 with
  | nil => exact .nil
  | cons h1 h2 h3 k ih9 => exact .cons (hs _ h1) (hs _ h2) (hs _ h3) ih9
theorem waits_app {P : Params} {tl news : List (Addr × Obj)} {ka d da : Addr} {a1 a2 a3 a4 z : Int} {x1 x2 x3 x4 g1 g2 g3 g4 g5 g6 g7 g8 tz : Tok} {b1 b2 b3 b4 b5 b6 b7 : Value} (hs : ∀ p ∈ tl, p ∈ news)
    (h1 : (ka, ({ cls := .type "tuple", data := .seq #[Value.int a1 x1, Value.int a2 x2, Value.int a3 x3, Value.int a4 x4] } : Obj)) ∈ news) (h2 : (d, instObj 452 da) ∈ news) (h3 : (da, (dictOf [⟨PyData.keyHash P (Str.ofString "began"), Value.str (Str.ofString "began") g1, b1⟩, ⟨PyData.keyHash P (Str.ofString "most"), Value.str (Str.ofString "most") g2, b2⟩, ⟨PyData.keyHash P (Str.ofString "holes"), Value.str (Str.ofString "holes") g3, b3⟩, ⟨PyData.keyHash P (Str.ofString "parts"), Value.str (Str.ofString "parts") g4, b4⟩, ⟨PyData.keyHash P (Str.ofString "end"), Value.str (Str.ofString "end") g5, b5⟩, ⟨PyData.keyHash P (Str.ofString "ahead"), Value.str (Str.ofString "ahead") g6, b6⟩, ⟨PyData.keyHash P (Str.ofString "first"), Value.str (Str.ofString "first") g7, b7⟩, ⟨PyData.keyHash P (Str.ofString "size"), Value.str (Str.ofString "size") g8, Value.int z tz⟩] 8)) ∈ news) :
    ∀ {xs : List (List Int × Addr × Value)} {zs : List Int}, Waits P tl xs zs → Waits P news (xs ++ [([a1, a2, a3, a4], ka, Value.ref d)]) (zs ++ [z]) := by
  intro _ _ h9
  induction h9 with
  | nil => exact .cons h1 h2 h3 .nil
  | cons k1 k2 k3 k ih9 => exact .cons (hs _ k1) (hs _ k2) (hs _ k3) ih9
theorem Waits.keys {prog : Program} {w : World} {P : Params} {tl : List (Addr × Obj)} : ∀ {xs : List (List Int × Addr × Value)} {zs : List Int}, Waits P tl xs zs → WKeys prog w tl xs := by
  intro _ _ h9
  induction h9 with
  | nil => exact List.forall_mem_nil _
  | cons h1 _ _ k ih9 => exact List.forall_mem_cons.mpr ⟨⟨_, h1, key4⟩, ih9⟩

theorem first_none {P : Params} {tl : List (Addr × Obj)} : FirstAt P tl Value.none none := rfl
section
variable {prog : Program} {w : World} {A : Around} {E : Value → Shared → Prop} {s : Shared} {h₀ : Heap} {L d a : Addr} {news : List (Addr × Obj)} {o ok : Obj} {xs : List (List Int × Addr × Value)} {k : List Int} {p : Addr × Value} {Q : Value → Shared → Prop}
theorem w_notin0 (hp : atKey xs k = none) (hu : A.units + 1 < cLine) (N : News h₀ L s.heap news) (hm : (d, o) ∈ news) (hw : WObj prog w o xs) (hk : WKeys prog w news xs) (hka : (a, ok) ∈ news) (tk : TupKeyObj (intKind prog w) k ok) (lo : (d == sysModules) = false)
    (h : ∀ tk', Q (.bool true) { s with toks := tk' }) : wpAny (model prog w) A (compareOp .NotIn (.ref a) (.ref d)) Q E s := w_notin hu N hm hw hk hka tk lo (by rw [hp]; rfl) h
theorem w_notin1 (hp : atKey xs k = some p) (hu : A.units + 1 < cLine) (N : News h₀ L s.heap news) (hm : (d, o) ∈ news) (hw : WObj prog w o xs) (hk : WKeys prog w news xs) (hka : (a, ok) ∈ news) (tk : TupKeyObj (intKind prog w) k ok) (lo : (d == sysModules) = false)
    (h : ∀ tk', Q (.bool false) { s with toks := tk' }) : wpAny (model prog w) A (compareOp .NotIn (.ref a) (.ref d)) Q E s := w_notin hu N hm hw hk hka tk lo (by rw [hp]; rfl) h
end
theorem eq_bytes_no {prog : Program} {w : World} {A : Around} {E : Value → Shared → Prop} {s : Shared} {b c : Byt} {t u : Tok} {Q : Value → Shared → Prop} (hn : b ≠ c) (h : Q (.bool false) s) : wpAny (model prog w) A (compareOp .Eq (.bytes b t) (.bytes c u)) Q E s :=
  eq_bytes (by
    have e : (b.toList == c.toList) = false := by simpa using fun e => hn (Array.toList_inj.mp e)
    rw [e]; exact h)
theorem if_no {M : Model} {A : Around} {E : Value → Shared → Prop} {s : Shared} {env : Env} {Q : Flow → Shared → Prop} {test : PySem.Expr} {body orelse : List Stmt} {pos : Pos}
    (h1 : wpAny M A (isTrue test env (eval test env)) (fun b s₂ => b = false ∧ ∃ tk, s₂ = { s with toks := tk }) E s) (h : ∀ tk, wpAny M A (execs orelse env) Q E { s with toks := tk }) : wpAny M A (exec (.If test body orelse pos) env) Q E s :=
  wpAny_If (wpAny_mono h1 (fun b s₂ ⟨hb, tk, e⟩ => by subst hb; subst e; exact h tk) fun _ _ x => x)
theorem updFApp {D : Addr} {o : Obj} {l : List (Addr × Obj)} {g : Obj → List (Addr × Obj)} : ∀ {a : List (Addr × Obj)}, (∀ p ∈ a, p.1 ≠ D) → UpdF D o l g → UpdF D o (a ++ l) (fun o' => a ++ g o')
  | [], _, h => h
  | p :: _, ha, h => UpdF.tail (ha p (.head _)) (updFApp (fun q hq => ha q (.tail _ hq)) h)
noncomputable def OctsIf (rows : Rws) (parts : List (Int × Byt)) (val : Byt) : Prop := rows = [] → Octs parts val ∧ ∀ p ∈ parts, p.2.size ≤ 65535
theorem octs_of {rows : Rws} {parts : List (Int × Byt)} {val : Byt} {tl : List (Addr × Obj)} (h : OctsIf rows parts val) (hP : Pairs tl [] rows) : Octs parts val ∧ ∀ p ∈ parts, p.2.size ≤ 65535 := h (by cases hP; rfl)
theorem nf_none {off : Int} {hdr h1 : Hd} (ho : off ≠ 0) (e : newFirst off none hdr = some h1) : False := by unfold newFirst at e; rw [if_neg ho] at e; cases e
noncomputable def WaitsD (P : Params) (rest : List (Addr × Obj)) (da : Addr) (xs : List (List Int × Addr × Value)) (zo : Int) : Prop :=
  ∀ (tl : List (Addr × Obj)) (z : Int) (g1 g2 g3 g4 g5 g6 g7 g8 tz : Tok) (b1 b2 b3 b4 b5 b6 b7 : Value), (∀ p ∈ rest, p ∈ tl) → (da, (dictOf [⟨PyData.keyHash P (Str.ofString "began"), Value.str (Str.ofString "began") g1, b1⟩, ⟨PyData.keyHash P (Str.ofString "most"), Value.str (Str.ofString "most") g2, b2⟩, ⟨PyData.keyHash P (Str.ofString "holes"), Value.str (Str.ofString "holes") g3, b3⟩, ⟨PyData.keyHash P (Str.ofString "parts"), Value.str (Str.ofString "parts") g4, b4⟩, ⟨PyData.keyHash P (Str.ofString "end"), Value.str (Str.ofString "end") g5, b5⟩, ⟨PyData.keyHash P (Str.ofString "ahead"), Value.str (Str.ofString "ahead") g6, b6⟩, ⟨PyData.keyHash P (Str.ofString "first"), Value.str (Str.ofString "first") g7, b7⟩, ⟨PyData.keyHash P (Str.ofString "size"), Value.str (Str.ofString "size") g8, Value.int z tz⟩] 8)) ∈ tl → 0 ≤ z → ∃ zs, Waits P tl xs zs ∧ (∀ x ∈ zs, 0 ≤ x) ∧ zs.sum = z + zo
noncomputable def MkMore : Prop := True
theorem ne_same {prog : Program} {w : World} {A : Around} {E : Value → Shared → Prop} {s : Shared} {a b : Int} {t u : Tok} {Q : Value → Shared → Prop} (e : a = b) (h : Q (.bool false) s) : wpAny (model prog w) A (compareOp .NotEq (.int a t) (.int b u)) Q E s :=
  PyProof.Rows.ne_int (by rw [e]; simpa using h)
noncomputable def PutOk (g : Dg) (h : Hd) (pb : Byt) : Prop :=
  (h.more = true ∧ pb ≠ #[] ∧ Int.fmod pb.size 8 = 0 ∧ ∀ y, g.fin = some y → h.off + pb.size < y) ∨ (h.more = false ∧ h.off ≠ 0 ∧ g.fin = none ∧ (∃ r a2, g.rows = r ++ [(a2, 65535)] ∧ a2 ≤ h.off + pb.size) ∧ ¬ (g.ahead ≥ h.off + pb.size ∧ h.off + pb.size > 0))
theorem PutOk.om {g : Dg} {h : Hd} {pb : Byt} (k : PutOk g h pb) : h.off ≠ 0 ∨ h.more = true := k.elim (fun a => .inr a.1) fun a => .inl a.2.1
theorem PutOk.bad {g : Dg} {h : Hd} {pb : Byt} (k : PutOk g h pb) : h.more = true → pb ≠ #[] ∧ Int.fmod pb.size 8 = 0 := fun e => k.elim (fun a => ⟨a.2.1, a.2.2.1⟩) fun a => absurd (a.1.symm.trans e) Bool.false_ne_true
theorem nd_abs {G : Prop} {fin : Option Int} {first : Option Hd} {x : Int} {h : Hd} (k : fin = none ∨ first = none) (a : fin = some x) (b : first = some h) : G := k.elim (fun e => nomatch e.symm.trans a) fun e => nomatch e.symm.trans b
noncomputable def MkIf : Prop := True
noncomputable def MkN : Prop := True
theorem om_no {off : Int} {more : Bool} (h : off ≠ 0 ∨ more = true) (a : off = 0) (b : more = false) : true = false := by
  rcases h with h | h
  · exact absurd a h
  · rw [← h, b]

theorem pairs_nil {tl : List (Addr × Obj)} {rows : Rws} (h : Pairs tl [] rows) : rows = [] := by cases h; rfl
theorem lt_n9 {P0 P1 P2 P3 P4 P5 P6 P7 P8 : Prop} {D : Addr} {a : List (Addr × Obj)} (h : P0 ∧ P1 ∧ P2 ∧ P3 ∧ P4 ∧ P5 ∧ P6 ∧ P7 ∧ P8 ∧ AllLt D a) : AllLt D a := h.2.2.2.2.2.2.2.2.2
theorem len_B0 {prog : Program} {w : World} {A : Around} {E : Value → Shared → Prop} {s : Shared} {t : Tok} {Q : Value → Shared → Prop} (h : Q (.int 0 (s.toks + 1)) { s with toks := s.toks + 1 + 1 }) : wpAny (model prog w) A (call (.builtin "len") [.bytes #[] t]) Q E s :=
  len_By (pb := #[]) (by decide) h

noncomputable def Sep (mu fz : List (Addr × Obj)) : Prop := (mu.map (·.1)).Nodup ∧ ∀ q ∈ mu, ∀ p ∈ fz, p.1 ≠ q.1
noncomputable def PutV (P : Params) (tl : List (Addr × Obj)) : Option (Hd × Byt) → Value → Prop
  | none, v => v = .none
  | some (h, b), v => ∃ (t nh : Addr) (tv : Tok), v = .ref t ∧ (t, ({ cls := .type "tuple", data := .seq #[Value.ref nh, Value.bytes b tv] } : Obj)) ∈ tl ∧ HdAt P tl nh h
noncomputable def ToldAt (P : Params) (tl : List (Addr × Obj)) (ta : Bool) : Option (Hd × Byt) → Addr → Prop
  | none, l => ∃ n, (l, listOf #[] n) ∈ tl
  | some (h, b), l => ∃ (n : Nat) (u nh : Addr) (ts tv : Tok), (l, listOf #[Value.ref u] n) ∈ tl ∧ (u, ({ cls := .type "tuple", data := .seq #[Value.str (Str.ofString "local") ts, Value.ref nh, Value.bytes b tv, Value.bool ta] } : Obj)) ∈ tl ∧ HdAt P tl nh h
noncomputable def FreshOf (mu pre F post : List (Addr × Obj)) : Prop := (∀ q ∈ F, (∀ p ∈ mu ++ pre, p.1 ≠ q.1) → ∀ p ∈ post, p.1 ≠ q.1)
structure PutC (KK : Params → Frag) (w : World) (re hh : Addr) (pb : Byt) (now : Int) (mu pre : List (Addr × Obj)) (o : Option (Hd × Byt)) (Post : List (Addr × Obj) → Prop) : Prop where
  use : ∀ {pp : Program} {loose : List Str} {mean : ExcName → Option Value} {mg mb : Str → Option Value} {dp un : Nat} {gd : Option (List Code)} {cn : Str} {cs : Scope} {a : Addr} {ccd : Value} {cl : List (Str × Addr)} {outer : List Env} {A₀ : Around} {base h₀ : Heap} {L : Addr} {m : Str → Option Value} {s : Shared} {Q E : Value → Shared → Prop} {F : List (Addr × Obj)} {tp tn : Tok}, Below A₀ base outer h₀ → Fr h₀ L s.heap m → (KK w.params).In h₀ → News h₀ L s.heap (mu ++ (pre ++ F)) → Sep mu (pre ++ F) → Top pp loose mean mg mb h₀ → cs.kind = .function → dp < 475 → un < 8750 →
    (∀ v post h' tk', Post post → PutV w.params post o v → FreshOf mu pre F post → Fr h₀ L h' m → News h₀ L h' (post ++ F) → Q v { s with heap := h', toks := tk' }) →
    wpAny (model Challenge.rw_xw0340_01.row.prog w) (ktrTop dp un gd cn cs L a ccd cl outer) (call (.ref 499) [.ref re, .ref hh, .bytes pb tp, .int now tn]) Q E s
structure DelC (KK : Params → Frag) (w : World) (lay hh : Addr) (pb : Byt) (ta : Bool) (now : Int) (mu pre : List (Addr × Obj)) (o : Option (Hd × Byt)) (Post : List (Addr × Obj) → Prop) : Prop where
  use : ∀ {pp : Program} {loose : List Str} {mean : ExcName → Option Value} {mg mb : Str → Option Value} {dp un : Nat} {gd : Option (List Code)} {cn : Str} {cs : Scope} {a : Addr} {ccd : Value} {cl : List (Str × Addr)} {outer : List Env} {A₀ : Around} {base h₀ : Heap} {L : Addr} {m : Str → Option Value} {s : Shared} {Q E : Value → Shared → Prop} {F : List (Addr × Obj)} {tp tn : Tok}, Below A₀ base outer h₀ → Fr h₀ L s.heap m → (KK w.params).In h₀ → News h₀ L s.heap (mu ++ (pre ++ F)) → Sep mu (pre ++ F) → Top pp loose mean mg mb h₀ → cs.kind = .function → dp < 470 → un < 8700 →
    (∀ l post h' tk', Post post → ToldAt w.params post ta o l → FreshOf mu pre F post → Fr h₀ L h' m → News h₀ L h' (post ++ F) → Q (.ref l) { s with heap := h', toks := tk' }) →
    wpAny (model Challenge.rw_xw0340_01.row.prog w) (ktrTop dp un gd cn cs L a ccd cl outer) (call (.ref 289) [.ref lay, .ref hh, .bytes pb tp, .bool ta, .int now tn]) Q E s
noncomputable def Grows (Post : List (Addr × Obj) → Prop) (post : List (Addr × Obj)) : Prop := ∃ new p0, post = new ++ p0 ∧ Post p0 ∧ ∀ p ∈ new, ∀ q ∈ p0, p.1 ≠ q.1
theorem new_ne1 {l : Addr} {o : Obj} {p0 F : List (Addr × Obj)} (hl : AllLt l (p0 ++ F)) : ∀ p ∈ [(l, o)], ∀ q ∈ p0, p.1 ≠ q.1 := fun p hp q hq => by
  rw [List.mem_singleton.mp hp]; exact Ne.symm (Nat.ne_of_lt (ktn_ltOf hl q (List.mem_append.mpr (.inl hq))))
theorem new_ne2 {l u : Addr} {o o' : Obj} {p0 F : List (Addr × Obj)} (hl : AllLt l (p0 ++ F)) (hu : AllLt u (p0 ++ F)) : ∀ p ∈ [(l, o), (u, o')], ∀ q ∈ p0, p.1 ≠ q.1 := fun p hp q hq => by
  rcases List.mem_cons.mp hp with rfl | hp
  · exact Ne.symm (Nat.ne_of_lt (ktn_ltOf hl q (List.mem_append.mpr (.inl hq))))
  · exact new_ne1 hu p hp q hq
theorem freshOf_cons {mu pre F post : List (Addr × Obj)} {p : Addr × Obj} (h : FreshOf mu pre F post) (hl : AllLt p.1 (post ++ F)) : FreshOf mu pre F (p :: post) := fun q hq hm x hx => by
  rcases List.mem_cons.mp hx with rfl | hx
  · exact Ne.symm (allLt_ne hl q (List.mem_append.mpr (.inr hq)))
  · exact h q hq hm x hx
theorem allLt_sub {d : Addr} {a b : List (Addr × Obj)} (h : AllLt d b) (hs : ∀ p ∈ a, p ∈ b) : AllLt d a := allLt_of fun p hp => ktn_ltOf h p (hs p hp)


noncomputable def MkDel : Prop := True
theorem is_put {prog : Program} {w : World} {A : Around} {E : Value → Shared → Prop} {s : Shared} {h₀ : Heap} {L : Addr} {Q : Value → Shared → Prop} {P : Params} {post fz : List (Addr × Obj)} {v : Value} {o : Option (Hd × Byt)} (hV : PutV P post o v) (N : News h₀ L s.heap (post ++ fz))
    (h0 : o = none → v = .none → Q (.bool true) s) (h1 : ∀ h b t nh tv, o = some (h, b) → v = .ref t → HdAt P post nh h → (t, ({ cls := .type "tuple", data := .seq #[Value.ref nh, Value.bytes b tv] } : Obj)) ∈ post → News h₀ L s.heap ((t, ({ cls := .type "tuple", data := .seq #[Value.ref nh, Value.bytes b tv] } : Obj)) :: (post ++ fz)) → Q (.bool false) s) : wpAny (model prog w) A (compareOp .Is v .none) Q E s := by
  match o, hV with
  | none, e => subst e; exact is_none_none (h0 rfl rfl)
  | some (h, b), ⟨t, nh, tv, e, m, hh⟩ =>
    subst e
    exact is_none_ne (by intro x; cases x) (h1 h b t nh tv rfl rfl hh m fun q hq => by
      rcases List.mem_cons.mp hq with rfl | hq
      · exact N _ (List.mem_append.mpr (.inl m))
      · exact N _ hq)
theorem del_end0 {P : Params} {ta : Bool} {n : Nat} {l : Addr} {mu pre fz post : List (Addr × Obj)} {o : Option (Hd × Byt)} {Post : List (Addr × Obj) → Prop} (e : o = none) (hp : Post post) (hf : FreshOf mu pre fz post) (hl : ∀ p ∈ post ++ fz, p.1 < l) :
    Grows Post ((l, listOf #[] n) :: post) ∧ ToldAt P ((l, listOf #[] n) :: post) ta o l ∧ FreshOf mu pre fz ((l, listOf #[] n) :: post) := by
  subst e
  exact ⟨⟨[_], post, rfl, hp, new_ne1 (allLt_of hl)⟩, ⟨n, .head _⟩, freshOf_cons hf (allLt_of hl)⟩
theorem del_end1 {P : Params} {ta : Bool} {n : Nat} {l u nh : Addr} {ts tv : Tok} {h : Hd} {b : Byt} {mu pre fz post : List (Addr × Obj)} {o : Option (Hd × Byt)} {Post : List (Addr × Obj) → Prop} (e : o = some (h, b)) (hH : HdAt P post nh h) (hp : Post post) (hf : FreshOf mu pre fz post) (hu : AllLt u (post ++ fz)) (hl : AllLt l (post ++ fz)) (hul : @LT.lt Nat _ u l) :
    Grows Post ((l, listOf #[Value.ref u] n) :: (u, ({ cls := .type "tuple", data := .seq #[Value.str (Str.ofString "local") ts, Value.ref nh, Value.bytes b tv, Value.bool ta] } : Obj)) :: post) ∧ ToldAt P ((l, listOf #[Value.ref u] n) :: (u, ({ cls := .type "tuple", data := .seq #[Value.str (Str.ofString "local") ts, Value.ref nh, Value.bytes b tv, Value.bool ta] } : Obj)) :: post) ta o l ∧ FreshOf mu pre fz ((l, listOf #[Value.ref u] n) :: (u, ({ cls := .type "tuple", data := .seq #[Value.str (Str.ofString "local") ts, Value.ref nh, Value.bytes b tv, Value.bool ta] } : Obj)) :: post) := by
  subst e
  exact ⟨⟨[_, _], post, rfl, hp, new_ne2 hl hu⟩, ⟨n, u, nh, ts, tv, .head _, .tail _ (.head _), hH.mono fun p hp => .tail _ (.tail _ hp)⟩, freshOf_cons (freshOf_cons hf hu) ⟨hul, hl⟩⟩
theorem del_end2 {P : Params} {ta : Bool} {n : Nat} {l u hh : Addr} {ts tv : Tok} {h : Hd} {b : Byt} {mu pre fz all : List (Addr × Obj)} (hH : HdAt P pre hh h) (hs : ∀ p ∈ (mu ++ pre) ++ fz, p ∈ all) (hu : ∀ p ∈ all, p.1 < u) (hl : @LT.lt Nat _ u l ∧ AllLt l all) :
    Grows (fun p => p = mu ++ pre) ((l, listOf #[Value.ref u] n) :: (u, ({ cls := .type "tuple", data := .seq #[Value.str (Str.ofString "local") ts, Value.ref hh, Value.bytes b tv, Value.bool ta] } : Obj)) :: (mu ++ pre)) ∧ ToldAt P ((l, listOf #[Value.ref u] n) :: (u, ({ cls := .type "tuple", data := .seq #[Value.str (Str.ofString "local") ts, Value.ref hh, Value.bytes b tv, Value.bool ta] } : Obj)) :: (mu ++ pre)) ta (some (h, b)) l ∧ FreshOf mu pre fz ((l, listOf #[Value.ref u] n) :: (u, ({ cls := .type "tuple", data := .seq #[Value.str (Str.ofString "local") ts, Value.ref hh, Value.bytes b tv, Value.bool ta] } : Obj)) :: (mu ++ pre)) :=
  ⟨⟨[_, _], mu ++ pre, rfl, rfl, new_ne2 (allLt_sub hl.2 hs) (allLt_sub (allLt_of hu) hs)⟩, ⟨n, u, hh, ts, tv, .head _, .tail _ (.head _), hH.mono fun p hp => .tail _ (.tail _ (List.mem_append.mpr (.inr hp)))⟩,
    freshOf_cons (freshOf_cons (fun q hq h => h) (allLt_sub (allLt_of hu) hs)) ⟨hl.1, allLt_sub hl.2 hs⟩⟩
theorem lt_n1 {P0 : Prop} {D : Addr} {a : List (Addr × Obj)} (h : P0 ∧ AllLt D a) : AllLt D a := h.2
theorem lt_n2 {P0 P1 : Prop} {D : Addr} {a : List (Addr × Obj)} (h : P0 ∧ P1 ∧ AllLt D a) : AllLt D a := h.2.2

theorem memEq {a : Addr} {o o' : Obj} {l : List (Addr × Obj)} (m : (a, o') ∈ l) (e : o = o') : (a, o) ∈ l := e ▸ m
theorem neGt {x r y : Nat} (h : r ≤ x) (l : y < r) : x ≠ y := Nat.ne_of_gt (Nat.lt_of_lt_of_le l h)
theorem gt4 {x r a b c d : Nat} (h : r ≤ x) (l1 : a < r) (l2 : b < r) (l3 : c < r) (l4 : d < r) : x ≠ a ∧ x ≠ b ∧ x ≠ c ∧ x ≠ d := ⟨neGt h l1, neGt h l2, neGt h l3, neGt h l4⟩
theorem geTl {r : Nat} {tl : List (Addr × Obj)} (h : ∀ p ∈ tl, @LT.lt Nat _ r p.1) : ∀ p ∈ tl, @LE.le Nat _ r p.1 := fun p hp => Nat.le_of_lt (h p hp)
theorem frN {r : Nat} {A B : List (Addr × Obj)} (a : ∀ p ∈ A, @LE.le Nat _ r p.1) (b : ∀ q ∈ B, @LT.lt Nat _ q.1 r) : ∀ p ∈ A, ∀ q ∈ B, p.1 ≠ q.1 := fun p hp q hq => neGt (a p hp) (b q hq)
theorem freshSplit {mu' fr pre F mu : List (Addr × Obj)} (h1 : ∀ q ∈ F, (∀ p ∈ mu ++ pre, p.1 ≠ q.1) → ∀ p ∈ mu', p.1 ≠ q.1) (h2 : ∀ p ∈ fr, ∀ q ∈ F, p.1 ≠ q.1) : FreshOf mu pre F (mu' ++ (fr ++ pre)) := fun q hq hm => List.forall_mem_append.mpr ⟨h1 q hq hm, List.forall_mem_append.mpr ⟨fun p hp => h2 p hp q hq, fun p hp => hm p (List.mem_append_right _ hp)⟩⟩
noncomputable def kyOf (n : Int) : List Int := [5, 9, 17, n]
noncomputable def Dg.new (now : Int) : Dg := ⟨now, [(0, 65535)], [], none, 0, none, 0⟩
set_option genInjectivity false in
set_option genSizeOf false in
structure Own where
  c : DgC
  g : Dg
  kd : Addr
noncomputable abbrev Own.cells (P : Params) (o : Own) : List (Addr × Obj) := [(o.c.da, dgObj P o.c o.g), (o.c.ha, hoObj P o.c), (o.c.pl, listOf o.c.pvs.toArray o.c.np)]
noncomputable abbrev Own.entry (o : Own) (n : Int) : List Int × Addr × Value := (kyOf n, o.kd, Value.ref o.c.d)
noncomputable abbrev keyObj (n : Int) (x1 x2 x3 x4 : Tok) : Obj := { cls := .type "tuple", data := .seq #[Value.int 5 x1, Value.int 9 x2, Value.int 17 x3, Value.int n x4] }
structure OwnAt (P : Params) (tl : List (Addr × Obj)) (n : Int) (o : Own) : Prop where
  dg : DgAt P tl o.c o.g
  key : ∃ x1 x2 x3 x4, (o.kd, keyObj n x1 x2 x3 x4) ∈ tl
theorem OwnAt.mono {P : Params} {tl tl' : List (Addr × Obj)} {n : Int} {o : Own} (hs : ∀ p ∈ tl, p ∈ tl') (x : OwnAt P tl n o) : OwnAt P tl' n o := ⟨x.dg.mono hs, let ⟨a, b, c, d, h⟩ := x.key; ⟨a, b, c, d, hs _ h⟩⟩
/-- the other datagrams that wait -/
structure Oth (P : Params) (tl : List (Addr × Obj)) (n : Int) (ys : List (List Int × Addr × Value)) (zo : Int) : Prop where
  ex : ∃ zs, Waits P tl ys zs ∧ (∀ z ∈ zs, 0 ≤ z) ∧ zs.sum = zo
  len : ys.length ≤ 1
  off : ∀ y ∈ ys, y.1 ≠ kyOf n
/-- the own entry stands at an end -/
noncomputable def Ins (xs ys : List (List Int × Addr × Value)) (e : List Int × Addr × Value) : Prop := xs = e :: ys ∨ xs = ys ++ [e]
section
variable {P : Params} {tl : List (Addr × Obj)} {n zo : Int} {xs ys : List (List Int × Addr × Value)} {o : Own} {prog : Program} {w : World}
theorem Ins.len {e : List Int × Addr × Value} (h : Ins xs ys e) : xs.length = ys.length + 1 := by rcases h with rfl | rfl <;> simp
theorem Ins.ne {e : List Int × Addr × Value} (h : Ins xs ys e) : xs ≠ [] := by rcases h with rfl | rfl <;> simp
theorem oth_none (h : Oth P tl n ys zo) : atKey ys (kyOf n) = none := by
  refine atKey_none_of_get fun j p e => ?_
  exact h.off _ (List.mem_of_getElem? e) rfl
theorem ins_at (hw : WObj prog w (o := ob) xs) (h : Ins xs ys (o.entry n)) : atKey xs (kyOf n) = some (o.kd, Value.ref o.c.d) := by
  rcases h with rfl | rfl
  · exact w_get hw 0 rfl
  · exact w_get hw ys.length (by simp)
theorem ins_without (h0 : Oth P tl n ys zo) (h : Ins xs ys (o.entry n)) : withoutH xs (kyOf n) = ys := by
  have e : withoutH ys (kyOf n) = ys := by
    unfold withoutH
    rw [List.filter_eq_self]
    intro y hy
    simpa using h0.off y hy
  rcases h with rfl | rfl
  · unfold withoutH at e ⊢
    rw [List.filter_cons_of_neg (by simp), e]
  · unfold withoutH at e ⊢
    rw [List.filter_append, e, List.filter_cons_of_neg (by simp)]; simp
theorem Waits.snoc {tl : List (Addr × Obj)} {ka d da : Addr} {a1 a2 a3 a4 z : Int} {x1 x2 x3 x4 g1 g2 g3 g4 g5 g6 g7 g8 tz : Tok} {b1 b2 b3 b4 b5 b6 b7 : Value}
    (h1 : (ka, ({ cls := .type "tuple", data := .seq #[Value.int a1 x1, Value.int a2 x2, Value.int a3 x3, Value.int a4 x4] } : Obj)) ∈ tl) (h2 : (d, instObj 452 da) ∈ tl) (h3 : (da, (dictOf [⟨PyData.keyHash P (Str.ofString "began"), Value.str (Str.ofString "began") g1, b1⟩, ⟨PyData.keyHash P (Str.ofString "most"), Value.str (Str.ofString "most") g2, b2⟩, ⟨PyData.keyHash P (Str.ofString "holes"), Value.str (Str.ofString "holes") g3, b3⟩, ⟨PyData.keyHash P (Str.ofString "parts"), Value.str (Str.ofString "parts") g4, b4⟩, ⟨PyData.keyHash P (Str.ofString "end"), Value.str (Str.ofString "end") g5, b5⟩, ⟨PyData.keyHash P (Str.ofString "ahead"), Value.str (Str.ofString "ahead") g6, b6⟩, ⟨PyData.keyHash P (Str.ofString "first"), Value.str (Str.ofString "first") g7, b7⟩, ⟨PyData.keyHash P (Str.ofString "size"), Value.str (Str.ofString "size") g8, Value.int z tz⟩] 8)) ∈ tl) {ys : List (List Int × Addr × Value)} {zs : List Int} (h : Waits P tl ys zs) :
    Waits P tl (ys ++ [([a1, a2, a3, a4], ka, Value.ref d)]) (zs ++ [z]) := waits_app (fun _ hp => hp) h1 h2 h3 h
theorem ins_waits (h0 : Oth P tl n ys zo) (hO : OwnAt P tl n o) (h : Ins xs ys (o.entry n)) : WaitsD P tl o.c.da xs zo := by
  intro tl' z g1 g2 g3 g4 g5 g6 g7 g8 tz b1 b2 b3 b4 b5 b6 b7 hs hm hz
  obtain ⟨zs, hV, hnn, hsum⟩ := h0.ex
  obtain ⟨x1, x2, x3, x4, hk⟩ := hO.key
  rcases h with rfl | rfl
  · refine ⟨z :: zs, .cons (hs _ hk) (hs _ hO.dg.di) hm (hV.mono hs), ?_, by rw [List.sum_cons, hsum]⟩
    intro x hx
    rcases List.mem_cons.mp hx with rfl | hx
    · exact hz
    · exact hnn x hx
  · refine ⟨zs ++ [z], Waits.snoc (hs _ hk) (hs _ hO.dg.di) hm (hV.mono hs), nn_app hnn hz, ?_⟩
    rw [List.sum_append, List.sum_cons, List.sum_nil, hsum]; omega
theorem ins_keys (h0 : Oth P tl n ys zo) (hO : OwnAt P tl n o) (h : Ins xs ys (o.entry n)) : WKeys prog w tl xs := by
  obtain ⟨zs, hV, -, -⟩ := h0.ex
  obtain ⟨x1, x2, x3, x4, hk⟩ := hO.key
  have k := hV.keys (prog := prog) (w := w)
  rcases h with rfl | rfl
  · intro x hx
    rcases List.mem_cons.mp hx with rfl | hx
    · exact ⟨_, hk, key4⟩
    · exact k x hx
  · intro x hx
    rcases List.mem_append.mp hx with hx | hx
    · exact k x hx
    · rw [List.mem_singleton.mp hx]; exact ⟨_, hk, key4⟩
end
noncomputable def AliveP (prog : Program) (w : World) (wd : Addr) (n : Int) (ys : List (List Int × Addr × Value)) (pre kn : List (Addr × Obj)) (g : Dg) (post : List (Addr × Obj)) : Prop :=
  ∃ (wo' : Obj) (xs' : List (List Int × Addr × Value)) (o : Own) (fr : List (Addr × Obj)), post = ((wd, wo') :: o.cells w.params) ++ (fr ++ pre) ∧ WObj prog w wo' xs' ∧ Ins xs' ys (o.entry n) ∧ OwnAt w.params (fr ++ kn) n o ∧ o.g = g ∧
    Sep ((wd, wo') :: o.cells w.params) (fr ++ pre) ∧ ∀ p ∈ fr, ∀ q ∈ pre, p.1 ≠ q.1
noncomputable def DeadP (prog : Program) (w : World) (wd : Addr) (ys : List (List Int × Addr × Value)) (pre : List (Addr × Obj)) (post : List (Addr × Obj)) : Prop :=
  ∃ (wo' : Obj) (fr : List (Addr × Obj)), post = (wd, wo') :: (fr ++ pre) ∧ WObj prog w wo' ys ∧ Sep [(wd, wo')] (fr ++ pre) ∧ ∀ p ∈ fr, ∀ q ∈ pre, p.1 ≠ q.1
noncomputable def Dg.done (g : Dg) : Prop := (∃ x, g.fin = some x) ∧ (∃ h, g.first = some h) ∧ g.rows = []
noncomputable def wholeHd (h : Hd) : Hd := ⟨h.src, h.tgt, h.prot, h.ident, h.ttl, h.tos, h.dont, false, 0⟩
theorem pairs_nil2 {tl : List (Addr × Obj)} {vs : List Value} {rows : Rws} (h : Pairs tl vs rows) (e : rows = []) : vs = [] := by subst e; cases h; rfl
theorem sep4 {wd da ha pl : Addr} {wo o1 o2 o3 : Obj} {fz : List (Addr × Obj)} (h1 : wd ≠ da) (h2 : wd ≠ ha) (h3 : wd ≠ pl) (h4 : da ≠ ha) (h5 : da ≠ pl) (h6 : ha ≠ pl) (a : ∀ p ∈ fz, p.1 ≠ wd ∧ p.1 ≠ da ∧ p.1 ≠ ha ∧ p.1 ≠ pl) : Sep ((wd, wo) :: [(da, o1), (ha, o2), (pl, o3)]) fz := by
  refine ⟨?_, ?_⟩
  · simp only [List.map_cons, List.map_nil, List.nodup_cons, List.mem_cons, List.not_mem_nil, or_false, not_or, List.nodup_nil, and_true, not_false_eq_true]
    exact ⟨⟨h1, h2, h3⟩, ⟨h4, h5⟩, h6⟩
  · intro q hq p hp
    obtain ⟨b1, b2, b3, b4⟩ := a p hp
    simp only [List.mem_cons, List.not_mem_nil, or_false] at hq
    rcases hq with rfl | rfl | rfl | rfl
    · exact b1
    · exact b2
    · exact b3
    · exact b4


section
variable {b e lo hi : Int} {st : Rws × Rws}
theorem fillOut (h : e ≤ lo ∨ hi ≤ b) (h0 : lo ≤ hi) (h1 : b ≤ e) : fillStep b e st (lo, hi) = (st.1, st.2 ++ [(lo, hi)]) := by
  refine fillStep_a ?_
  split <;> split <;> omega
theorem fillIn (h1 : lo ≤ b) (h2 : e ≤ hi) (h3 : b < e) : fillStep b e st (lo, hi) = (st.1 ++ [(b, e)], st.2 ++ (if lo < b then [(lo, b)] else []) ++ (if e < hi then [(e, hi)] else [])) := by
  unfold fillStep
  have a1 : (if b > (lo, hi).1 then b else (lo, hi).1) = b := by dsimp only; split <;> omega
  have a2 : (if e < (lo, hi).2 then e else (lo, hi).2) = e := by dsimp only; split <;> omega
  rw [a1, a2, if_neg (by omega)]
theorem fillAll (h1 : lo = b) (h2 : e = hi) (h3 : b < e) : fillStep b e st (lo, hi) = (st.1 ++ [(b, e)], st.2) := by
  rw [fillIn (by omega) (by omega) h3, if_neg (by omega), if_neg (by omega)]; simp
theorem fillL (h1 : lo = b) (h2 : e < hi) (h3 : b < e) : fillStep b e st (lo, hi) = (st.1 ++ [(b, e)], st.2 ++ [(e, hi)]) := by
  rw [fillIn (by omega) (by omega) h3, if_neg (by omega), if_pos h2]; simp
theorem fillR (h1 : lo < b) (h2 : e = hi) (h3 : b < e) : fillStep b e st (lo, hi) = (st.1 ++ [(b, e)], st.2 ++ [(lo, b)]) := by
  rw [fillIn (by omega) (by omega) h3, if_pos h1, if_neg (by omega)]; simp
theorem fillM (h1 : lo < b) (h2 : e < hi) (h3 : b < e) : fillStep b e st (lo, hi) = (st.1 ++ [(b, e)], st.2 ++ [(lo, b)] ++ [(e, hi)]) := by
  rw [fillIn (by omega) (by omega) h3, if_pos h1, if_pos h2]
end
theorem picked_full {pb : Byt} {x y : Int} (hx : x = 0) (hy : y = pb.size) (h0 : 0 < pb.size) (hz : pb.size ≤ 65535) : KBy.picked pb (some x) (some y) = pb := by
  subst hx; subst hy
  rw [KBc.picked_eq]
  show ((pb.toList.drop (clipAt pb.size ((0 : Nat) : Int))).take (clipAt pb.size ((pb.size : Nat) : Int) - clipAt pb.size ((0 : Nat) : Int))).toArray = pb
  rw [clipAt_nat, clipAt_nat]
  simp only [Nat.zero_min, List.drop_zero, Nat.sub_zero, Nat.min_self]
  rw [List.take_of_length_le (by simp), Array.toArray_toList]
theorem picked_size {pb : Byt} {lo hi : Nat} (h1 : lo ≤ hi) (h2 : hi ≤ pb.size) : (KBy.picked pb (some (lo : Int)) (some (hi : Int))).size = hi - lo := by
  rw [KBc.picked_eq]
  show ((pb.toList.drop (clipAt pb.size ((lo : Nat) : Int))).take (clipAt pb.size ((hi : Nat) : Int) - clipAt pb.size ((lo : Nat) : Int))).toArray.size = hi - lo
  rw [clipAt_nat, clipAt_nat, List.size_toArray, List.length_take, List.length_drop, Array.length_toList, Nat.min_eq_left h2, Nat.min_eq_left (Nat.le_trans h1 h2)]
  exact Nat.min_eq_left (Nat.sub_le_sub_right h2 lo)
structure GSt (g : Dg) (rows : Rws) (parts : List (Int × Byt)) (fin : Option Int) (ahead : Int) (first : Option Hd) (size : Int) : Prop where
  rows : g.rows = rows
  parts : g.parts = parts
  fin : g.fin = fin
  ahead : g.ahead = ahead
  first : g.first = first
  size : g.size = size
theorem gst_new (now : Int) : GSt (Dg.new now) [(0, 65535)] [] none 0 none 0 := ⟨rfl, rfl, rfl, rfl, rfl, rfl⟩
section
variable {g : Dg} {h : Hd} {pb : Byt} {rows : Rws} {parts : List (Int × Byt)} {fin : Option Int} {ahead size b e : Int} {first : Option Hd}
/-- a part with more that lies in one hole -/
theorem gst_more {r1 : Rws} {s : Int} {ah : Int} (G : GSt g rows parts fin ahead first size) (hm : h.more = true) (hb : h.off = b) (he : b + pb.size = e) (h0 : 0 < pb.size) (hz : pb.size ≤ 65535) (hr : rows.foldl (fillStep b e) ([], []) = ([(b, e)], r1)) (ha : (if e > ahead then e else ahead) = ah) (hs : size + e - b = s) :
    GSt (g.put h pb) r1 (parts ++ [(b, pb)]) fin ah (newFirst b first h) s := by
  obtain ⟨a1, a2, a3, a4, a5, a6⟩ := G
  have ef : h.fin pb = e := by unfold Hd.fin; rw [hb, he]
  refine ⟨?_, ?_, ?_, ?_, ?_, ?_⟩ <;> simp only [Dg.put, hm, if_true, ef, hb, a1, a2, a3, a4, a5, a6, hr, List.foldl_cons, List.foldl_nil, addPart]
  · rw [picked_full (by omega) (by omega) h0 hz]
  · exact ha
  · exact hs
/-- the last part -/
theorem gst_last {r1 r2 f2 : Rws} {s : Int} (G : GSt g rows parts fin ahead first size) (hm : h.more = false) (hb : h.off = b) (he : b + pb.size = e) (h0 : 0 < pb.size) (hz : pb.size ≤ 65535) (hr : rows.foldl (fillStep b e) ([], []) = ([(b, e)], r1)) (hr2 : r1.foldl (fillStep e 65535) ([], []) = (f2, r2)) (hs : size + e - b = s) :
    GSt (g.put h pb) r2 (parts ++ [(b, pb)]) (some e) ahead (newFirst b first h) s := by
  obtain ⟨a1, a2, a3, a4, a5, a6⟩ := G
  have ef : h.fin pb = e := by unfold Hd.fin; rw [hb, he]
  refine ⟨?_, ?_, ?_, ?_, ?_, ?_⟩ <;> simp only [Dg.put, hm, Bool.false_eq_true, if_false, ef, hb, a1, a2, a3, a4, a5, a6, hr, hr2, List.foldl_cons, List.foldl_nil, addPart]
  · rw [picked_full (by omega) (by omega) h0 hz]
  · exact hs
end
noncomputable def partHd (n off : Int) (more : Bool) : Hd := ⟨5, 9, 17, n, 60 - off, 0, false, more, off⟩
theorem g1__0 {g : Dg} {pb : Byt} {n e : Int} {ps : List (Int × Byt)} (h1 : 8 < e) (h2 : e ≤ 16) (hz : (0 : Int) + pb.size = 8) (G : GSt g [(0, 65535)] ps none 0 none 0) : GSt (g.put (partHd n 0 true) pb) [(8, 65535)] (ps ++ [(0, pb)]) none 8 (some (partHd n 0 true)) 8 := by
  have hr := gst_more (r1 := [(8, 65535)]) (s := 8) (ah := 8) G (h := partHd n 0 true) (b := 0) (e := 8) rfl rfl hz (by omega) (by omega) (by simp (disch := omega) only [List.foldl_cons, List.foldl_nil, fillAll, fillL, fillR, fillM, fillOut, List.nil_append, List.append_nil, List.cons_append]) (by decide) (by omega)
  exact hr
theorem g1__1 {g : Dg} {pb : Byt} {n e : Int} {ps : List (Int × Byt)} (h1 : 8 < e) (h2 : e ≤ 16) (hz : (8 : Int) + pb.size = e) (G : GSt g [(0, 65535)] ps none 0 none 0) : GSt (g.put (partHd n 8 false) pb) [(0, 8)] (ps ++ [(8, pb)]) (some e) 0 none (e - 8) := by
  have hr := gst_last (r1 := [(0, 8), (e, 65535)]) (r2 := [(0, 8)]) (f2 := [(e, 65535)]) (s := (e - 8)) G (h := partHd n 8 false) (b := 8) rfl rfl hz (by omega) (by omega) (by simp (disch := omega) only [List.foldl_cons, List.foldl_nil, fillAll, fillL, fillR, fillM, fillOut, List.nil_append, List.append_nil, List.cons_append]) (by simp (disch := omega) only [List.foldl_cons, List.foldl_nil, fillAll, fillL, fillR, fillM, fillOut, List.nil_append, List.append_nil, List.cons_append]) (by omega)
  exact hr
theorem g1_0_1 {g : Dg} {pb : Byt} {n e : Int} {ps : List (Int × Byt)} (h1 : 8 < e) (h2 : e ≤ 16) (hz : (8 : Int) + pb.size = e) (G : GSt g [(8, 65535)] ps none 8 (some (partHd n 0 true)) 8) : GSt (g.put (partHd n 8 false) pb) [] (ps ++ [(8, pb)]) (some e) 8 (some (partHd n 0 true)) e := by
  have hr := gst_last (r1 := [(e, 65535)]) (r2 := []) (f2 := [(e, 65535)]) (s := e) G (h := partHd n 8 false) (b := 8) rfl rfl hz (by omega) (by omega) (by simp (disch := omega) only [List.foldl_cons, List.foldl_nil, fillAll, fillL, fillR, fillM, fillOut, List.nil_append, List.append_nil, List.cons_append]) (by simp (disch := omega) only [List.foldl_cons, List.foldl_nil, fillAll, fillL, fillR, fillM, fillOut, List.nil_append, List.append_nil, List.cons_append]) (by omega)
  exact hr
theorem g1_1_0 {g : Dg} {pb : Byt} {n e : Int} {ps : List (Int × Byt)} (h1 : 8 < e) (h2 : e ≤ 16) (hz : (0 : Int) + pb.size = 8) (G : GSt g [(0, 8)] ps (some e) 0 none (e - 8)) : GSt (g.put (partHd n 0 true) pb) [] (ps ++ [(0, pb)]) (some e) 8 (some (partHd n 0 true)) e := by
  have hr := gst_more (r1 := []) (s := e) (ah := 8) G (h := partHd n 0 true) (b := 0) (e := 8) rfl rfl hz (by omega) (by omega) (by simp (disch := omega) only [List.foldl_cons, List.foldl_nil, fillAll, fillL, fillR, fillM, fillOut, List.nil_append, List.append_nil, List.cons_append]) (by decide) (by omega)
  exact hr
theorem g2__0 {g : Dg} {pb : Byt} {n e : Int} {ps : List (Int × Byt)} (h1 : 16 < e) (h2 : e ≤ 24) (hz : (0 : Int) + pb.size = 8) (G : GSt g [(0, 65535)] ps none 0 none 0) : GSt (g.put (partHd n 0 true) pb) [(8, 65535)] (ps ++ [(0, pb)]) none 8 (some (partHd n 0 true)) 8 := by
  have hr := gst_more (r1 := [(8, 65535)]) (s := 8) (ah := 8) G (h := partHd n 0 true) (b := 0) (e := 8) rfl rfl hz (by omega) (by omega) (by simp (disch := omega) only [List.foldl_cons, List.foldl_nil, fillAll, fillL, fillR, fillM, fillOut, List.nil_append, List.append_nil, List.cons_append]) (by decide) (by omega)
  exact hr
theorem g2__1 {g : Dg} {pb : Byt} {n e : Int} {ps : List (Int × Byt)} (h1 : 16 < e) (h2 : e ≤ 24) (hz : (8 : Int) + pb.size = 16) (G : GSt g [(0, 65535)] ps none 0 none 0) : GSt (g.put (partHd n 8 true) pb) [(0, 8), (16, 65535)] (ps ++ [(8, pb)]) none 16 none 8 := by
  have hr := gst_more (r1 := [(0, 8), (16, 65535)]) (s := 8) (ah := 16) G (h := partHd n 8 true) (b := 8) (e := 16) rfl rfl hz (by omega) (by omega) (by simp (disch := omega) only [List.foldl_cons, List.foldl_nil, fillAll, fillL, fillR, fillM, fillOut, List.nil_append, List.append_nil, List.cons_append]) (by decide) (by omega)
  exact hr
theorem g2__2 {g : Dg} {pb : Byt} {n e : Int} {ps : List (Int × Byt)} (h1 : 16 < e) (h2 : e ≤ 24) (hz : (16 : Int) + pb.size = e) (G : GSt g [(0, 65535)] ps none 0 none 0) : GSt (g.put (partHd n 16 false) pb) [(0, 16)] (ps ++ [(16, pb)]) (some e) 0 none (e - 16) := by
  have hr := gst_last (r1 := [(0, 16), (e, 65535)]) (r2 := [(0, 16)]) (f2 := [(e, 65535)]) (s := (e - 16)) G (h := partHd n 16 false) (b := 16) rfl rfl hz (by omega) (by omega) (by simp (disch := omega) only [List.foldl_cons, List.foldl_nil, fillAll, fillL, fillR, fillM, fillOut, List.nil_append, List.append_nil, List.cons_append]) (by simp (disch := omega) only [List.foldl_cons, List.foldl_nil, fillAll, fillL, fillR, fillM, fillOut, List.nil_append, List.append_nil, List.cons_append]) (by omega)
  exact hr
theorem g2_0_1 {g : Dg} {pb : Byt} {n e : Int} {ps : List (Int × Byt)} (h1 : 16 < e) (h2 : e ≤ 24) (hz : (8 : Int) + pb.size = 16) (G : GSt g [(8, 65535)] ps none 8 (some (partHd n 0 true)) 8) : GSt (g.put (partHd n 8 true) pb) [(16, 65535)] (ps ++ [(8, pb)]) none 16 (some (partHd n 0 true)) 16 := by
  have hr := gst_more (r1 := [(16, 65535)]) (s := 16) (ah := 16) G (h := partHd n 8 true) (b := 8) (e := 16) rfl rfl hz (by omega) (by omega) (by simp (disch := omega) only [List.foldl_cons, List.foldl_nil, fillAll, fillL, fillR, fillM, fillOut, List.nil_append, List.append_nil, List.cons_append]) (by decide) (by omega)
  exact hr
theorem g2_0_2 {g : Dg} {pb : Byt} {n e : Int} {ps : List (Int × Byt)} (h1 : 16 < e) (h2 : e ≤ 24) (hz : (16 : Int) + pb.size = e) (G : GSt g [(8, 65535)] ps none 8 (some (partHd n 0 true)) 8) : GSt (g.put (partHd n 16 false) pb) [(8, 16)] (ps ++ [(16, pb)]) (some e) 8 (some (partHd n 0 true)) (e - 8) := by
  have hr := gst_last (r1 := [(8, 16), (e, 65535)]) (r2 := [(8, 16)]) (f2 := [(e, 65535)]) (s := (e - 8)) G (h := partHd n 16 false) (b := 16) rfl rfl hz (by omega) (by omega) (by simp (disch := omega) only [List.foldl_cons, List.foldl_nil, fillAll, fillL, fillR, fillM, fillOut, List.nil_append, List.append_nil, List.cons_append]) (by simp (disch := omega) only [List.foldl_cons, List.foldl_nil, fillAll, fillL, fillR, fillM, fillOut, List.nil_append, List.append_nil, List.cons_append]) (by omega)
  exact hr
theorem g2_1_0 {g : Dg} {pb : Byt} {n e : Int} {ps : List (Int × Byt)} (h1 : 16 < e) (h2 : e ≤ 24) (hz : (0 : Int) + pb.size = 8) (G : GSt g [(0, 8), (16, 65535)] ps none 16 none 8) : GSt (g.put (partHd n 0 true) pb) [(16, 65535)] (ps ++ [(0, pb)]) none 16 (some (partHd n 0 true)) 16 := by
  have hr := gst_more (r1 := [(16, 65535)]) (s := 16) (ah := 16) G (h := partHd n 0 true) (b := 0) (e := 8) rfl rfl hz (by omega) (by omega) (by simp (disch := omega) only [List.foldl_cons, List.foldl_nil, fillAll, fillL, fillR, fillM, fillOut, List.nil_append, List.append_nil, List.cons_append]) (by decide) (by omega)
  exact hr
theorem g2_1_2 {g : Dg} {pb : Byt} {n e : Int} {ps : List (Int × Byt)} (h1 : 16 < e) (h2 : e ≤ 24) (hz : (16 : Int) + pb.size = e) (G : GSt g [(0, 8), (16, 65535)] ps none 16 none 8) : GSt (g.put (partHd n 16 false) pb) [(0, 8)] (ps ++ [(16, pb)]) (some e) 16 none (e - 8) := by
  have hr := gst_last (r1 := [(0, 8), (e, 65535)]) (r2 := [(0, 8)]) (f2 := [(e, 65535)]) (s := (e - 8)) G (h := partHd n 16 false) (b := 16) rfl rfl hz (by omega) (by omega) (by simp (disch := omega) only [List.foldl_cons, List.foldl_nil, fillAll, fillL, fillR, fillM, fillOut, List.nil_append, List.append_nil, List.cons_append]) (by simp (disch := omega) only [List.foldl_cons, List.foldl_nil, fillAll, fillL, fillR, fillM, fillOut, List.nil_append, List.append_nil, List.cons_append]) (by omega)
  exact hr
theorem g2_2_0 {g : Dg} {pb : Byt} {n e : Int} {ps : List (Int × Byt)} (h1 : 16 < e) (h2 : e ≤ 24) (hz : (0 : Int) + pb.size = 8) (G : GSt g [(0, 16)] ps (some e) 0 none (e - 16)) : GSt (g.put (partHd n 0 true) pb) [(8, 16)] (ps ++ [(0, pb)]) (some e) 8 (some (partHd n 0 true)) (e - 8) := by
  have hr := gst_more (r1 := [(8, 16)]) (s := (e - 8)) (ah := 8) G (h := partHd n 0 true) (b := 0) (e := 8) rfl rfl hz (by omega) (by omega) (by simp (disch := omega) only [List.foldl_cons, List.foldl_nil, fillAll, fillL, fillR, fillM, fillOut, List.nil_append, List.append_nil, List.cons_append]) (by decide) (by omega)
  exact hr
theorem g2_2_1 {g : Dg} {pb : Byt} {n e : Int} {ps : List (Int × Byt)} (h1 : 16 < e) (h2 : e ≤ 24) (hz : (8 : Int) + pb.size = 16) (G : GSt g [(0, 16)] ps (some e) 0 none (e - 16)) : GSt (g.put (partHd n 8 true) pb) [(0, 8)] (ps ++ [(8, pb)]) (some e) 16 none (e - 8) := by
  have hr := gst_more (r1 := [(0, 8)]) (s := (e - 8)) (ah := 16) G (h := partHd n 8 true) (b := 8) (e := 16) rfl rfl hz (by omega) (by omega) (by simp (disch := omega) only [List.foldl_cons, List.foldl_nil, fillAll, fillL, fillR, fillM, fillOut, List.nil_append, List.append_nil, List.cons_append]) (by decide) (by omega)
  exact hr
theorem g2_01_2 {g : Dg} {pb : Byt} {n e : Int} {ps : List (Int × Byt)} (h1 : 16 < e) (h2 : e ≤ 24) (hz : (16 : Int) + pb.size = e) (G : GSt g [(16, 65535)] ps none 16 (some (partHd n 0 true)) 16) : GSt (g.put (partHd n 16 false) pb) [] (ps ++ [(16, pb)]) (some e) 16 (some (partHd n 0 true)) e := by
  have hr := gst_last (r1 := [(e, 65535)]) (r2 := []) (f2 := [(e, 65535)]) (s := e) G (h := partHd n 16 false) (b := 16) rfl rfl hz (by omega) (by omega) (by simp (disch := omega) only [List.foldl_cons, List.foldl_nil, fillAll, fillL, fillR, fillM, fillOut, List.nil_append, List.append_nil, List.cons_append]) (by simp (disch := omega) only [List.foldl_cons, List.foldl_nil, fillAll, fillL, fillR, fillM, fillOut, List.nil_append, List.append_nil, List.cons_append]) (by omega)
  exact hr
theorem g2_02_1 {g : Dg} {pb : Byt} {n e : Int} {ps : List (Int × Byt)} (h1 : 16 < e) (h2 : e ≤ 24) (hz : (8 : Int) + pb.size = 16) (G : GSt g [(8, 16)] ps (some e) 8 (some (partHd n 0 true)) (e - 8)) : GSt (g.put (partHd n 8 true) pb) [] (ps ++ [(8, pb)]) (some e) 16 (some (partHd n 0 true)) e := by
  have hr := gst_more (r1 := []) (s := e) (ah := 16) G (h := partHd n 8 true) (b := 8) (e := 16) rfl rfl hz (by omega) (by omega) (by simp (disch := omega) only [List.foldl_cons, List.foldl_nil, fillAll, fillL, fillR, fillM, fillOut, List.nil_append, List.append_nil, List.cons_append]) (by decide) (by omega)
  exact hr
theorem g2_12_0 {g : Dg} {pb : Byt} {n e : Int} {ps : List (Int × Byt)} (h1 : 16 < e) (h2 : e ≤ 24) (hz : (0 : Int) + pb.size = 8) (G : GSt g [(0, 8)] ps (some e) 16 none (e - 8)) : GSt (g.put (partHd n 0 true) pb) [] (ps ++ [(0, pb)]) (some e) 16 (some (partHd n 0 true)) e := by
  have hr := gst_more (r1 := []) (s := e) (ah := 16) G (h := partHd n 0 true) (b := 0) (e := 8) rfl rfl hz (by omega) (by omega) (by simp (disch := omega) only [List.foldl_cons, List.foldl_nil, fillAll, fillL, fillR, fillM, fillOut, List.nil_append, List.append_nil, List.cons_append]) (by decide) (by omega)
  exact hr


set_option genInjectivity false in
set_option genSizeOf false in
structure Dat where
  n : Int
  many : Nat
  b : Nat → Byt
  e : Int
structure Dat.Ok (D : Dat) : Prop where
  many : D.many ≤ 2
  full : ∀ i, i < D.many → (D.b i).size = 8
  lo : 8 * (D.many : Int) < D.e
  hi : D.e ≤ 8 * (D.many : Int) + 8
  last : 8 * (D.many : Int) + ((D.b D.many).size : Int) = D.e
noncomputable def offOf : Nat → Int
  | 0 => 0
  | 1 => 8
  | _ => 16
noncomputable def Dat.hd (D : Dat) (i : Nat) : Hd := partHd D.n (offOf i) (decide (i < D.many))
noncomputable def Dat.whole (D : Dat) : Byt := match D.many with
  | 0 => D.b 0
  | 1 => D.b 0 ++ D.b 1
  | _ => D.b 0 ++ D.b 1 ++ D.b 2
inductive GR (D : Dat) : List Nat → Dg → Prop
  | a1_0 {g : Dg} : D.many = 1 → GSt g [(8, 65535)] [(0, D.b 0)] none 8 (some (partHd D.n 0 true)) 8 → GR D [0] g
  | a1_1 {g : Dg} : D.many = 1 → GSt g [(0, 8)] [(8, D.b 1)] (some D.e) 0 none (D.e - 8) → GR D [1] g
  | a2_0 {g : Dg} : D.many = 2 → GSt g [(8, 65535)] [(0, D.b 0)] none 8 (some (partHd D.n 0 true)) 8 → GR D [0] g
  | a2_1 {g : Dg} : D.many = 2 → GSt g [(0, 8), (16, 65535)] [(8, D.b 1)] none 16 none 8 → GR D [1] g
  | a2_2 {g : Dg} : D.many = 2 → GSt g [(0, 16)] [(16, D.b 2)] (some D.e) 0 none (D.e - 16) → GR D [2] g
  | a2_01 {g : Dg} : D.many = 2 → GSt g [(16, 65535)] [(0, D.b 0), (8, D.b 1)] none 16 (some (partHd D.n 0 true)) 16 → GR D [0, 1] g
  | a2_02 {g : Dg} : D.many = 2 → GSt g [(8, 16)] [(0, D.b 0), (16, D.b 2)] (some D.e) 8 (some (partHd D.n 0 true)) (D.e - 8) → GR D [0, 2] g
  | a2_10 {g : Dg} : D.many = 2 → GSt g [(16, 65535)] [(8, D.b 1), (0, D.b 0)] none 16 (some (partHd D.n 0 true)) 16 → GR D [1, 0] g
  | a2_12 {g : Dg} : D.many = 2 → GSt g [(0, 8)] [(8, D.b 1), (16, D.b 2)] (some D.e) 16 none (D.e - 8) → GR D [1, 2] g
  | a2_20 {g : Dg} : D.many = 2 → GSt g [(8, 16)] [(16, D.b 2), (0, D.b 0)] (some D.e) 8 (some (partHd D.n 0 true)) (D.e - 8) → GR D [2, 0] g
  | a2_21 {g : Dg} : D.many = 2 → GSt g [(0, 8)] [(16, D.b 2), (8, D.b 1)] (some D.e) 16 none (D.e - 8) → GR D [2, 1] g

noncomputable def outOf (D : Dat) (r : List Nat) : Option (Hd × Byt) := if r.length = D.many + 1 then some (wholeHd (D.hd 0), D.whole) else none
noncomputable def PostR (prog : Program) (w : World) (wd : Addr) (D : Dat) (ys : List (List Int × Addr × Value)) (pre kn : List (Addr × Obj)) (r : List Nat) (post : List (Addr × Obj)) : Prop :=
  if r.length ≤ D.many then ∃ g, GR D r g ∧ AliveP prog w wd D.n ys pre kn g post else DeadP prog w wd ys pre post
noncomputable def cellsOf (P : Params) : Option Own → List (Addr × Obj)
  | none => []
  | some o => o.cells P
noncomputable def SlotAt (P : Params) (tl : List (Addr × Obj)) (D : Dat) (r : List Nat) : Option Own → Prop
  | none => r = [] ∨ D.many < r.length
  | some o => OwnAt P tl D.n o ∧ GR D r o.g
noncomputable def entOf (n : Int) : Option Own → List (List Int × Addr × Value)
  | none => []
  | some o => [o.entry n]
noncomputable def WaitOf (xs ys : List (List Int × Addr × Value)) (n : Int) : Option Own → Prop
  | none => xs = ys
  | some o => Ins xs ys (o.entry n)
theorem Grows.imp {P Q : List (Addr × Obj) → Prop} {post : List (Addr × Obj)} (h : ∀ p, P p → Q p) (g : Grows P post) : Grows Q post := let ⟨a, b, c, d, e⟩ := g; ⟨a, b, c, h _ d, e⟩
theorem DelC.imp {KK : Params → Frag} {w : World} {lay hh : Addr} {pb : Byt} {ta : Bool} {now : Int} {mu pre : List (Addr × Obj)} {o : Option (Hd × Byt)} {P Q : List (Addr × Obj) → Prop} (h : ∀ p, P p → Q p) (d : DelC KK w lay hh pb ta now mu pre o P) : DelC KK w lay hh pb ta now mu pre o Q := by
  refine ⟨?_⟩
  intro pp loose mean mg mb dp un gd cn cs a ccd cl outer A₀ base h₀ L m s Q E F tp tn B Fr9 X N hap T hkk hd hu ret
  exact d.use B Fr9 X N hap T hkk hd hu fun l post h' tk' g => ret l post h' tk' (h _ g)
theorem ne_nil_of {pb : Byt} (h : 0 < pb.size) : pb ≠ #[] := fun e => by rw [e] at h; exact Nat.lt_irrefl _ h
theorem fmod8 {pb : Byt} (h : pb.size = 8) : Int.fmod (pb.size : Int) 8 = 0 := by rw [h]; decide
theorem postR_alive {prog : Program} {w : World} {wd : Addr} {D : Dat} {ys : List (List Int × Addr × Value)} {pre kn post : List (Addr × Obj)} {r : List Nat} {g : Dg} (hl : r.length ≤ D.many) (hg : GR D r g) (h : AliveP prog w wd D.n ys pre kn g post) : PostR prog w wd D ys pre kn r post := by
  unfold PostR; rw [if_pos hl]; exact ⟨g, hg, h⟩
theorem postR_dead {prog : Program} {w : World} {wd : Addr} {D : Dat} {ys : List (List Int × Addr × Value)} {pre kn post : List (Addr × Obj)} {r : List Nat} (hl : ¬ r.length ≤ D.many) (h : DeadP prog w wd ys pre post) : PostR prog w wd D ys pre kn r post := by
  unfold PostR; rw [if_neg hl]; exact h


noncomputable def TrB (g : Dg) (h : Hd) (pb : Byt) : Prop := PutOk g h pb ∧ 0 ≤ (g.put h pb).size ∧ (g.put h pb).size ≤ 24 ∧ 0 ≤ h.off ∧ h.off + pb.size ≤ 65515 ∧ (∀ y, (g.put h pb).fin = some y → y ≤ 65515) ∧ g.rows.length ≤ 50 ∧ g.parts.length + g.rows.length ≤ 1000
section
variable {g : Dg} {n off : Int} {pb : Byt} {rows rows' : Rws} {parts parts' : List (Int × Byt)} {fin fin' : Option Int} {ahead ahead' size size' : Int} {first first' : Option Hd}
theorem tr_m (G : GSt g rows parts fin ahead first size) (G' : GSt (g.put (partHd n off true) pb) rows' parts' fin' ahead' first' size') (hz : pb.size = 8) (hx : ∀ y, fin = some y → off + 8 < y) (h0 : 0 ≤ size') (h1 : size' ≤ 24) (ho : 0 ≤ off) (ho2 : off ≤ 16) (hf : ∀ y, fin' = some y → y ≤ 65515) (hr : rows.length ≤ 2) (hp : parts.length ≤ 2) : TrB g (partHd n off true) pb :=
  ⟨.inl ⟨rfl, ne_nil_of (by omega), fmod8 hz, fun y hy => by rw [G.fin] at hy; have := hx y hy; show off + (pb.size : Int) < y; omega⟩, by rw [G'.size]; exact h0, by rw [G'.size]; exact h1, ho, by show off + (pb.size : Int) ≤ 65515; omega, fun y hy => hf y (by rw [← G'.fin]; exact hy), by rw [G.rows]; omega, by rw [G.rows, G.parts]; omega⟩
theorem tr_l {r : Rws} {a2 : Int} (G : GSt g rows parts fin ahead first size) (G' : GSt (g.put (partHd n off false) pb) rows' parts' fin' ahead' first' size') (hs : 0 < pb.size) (h8 : pb.size ≤ 8) (hfin : fin = none) (hr0 : rows = r ++ [(a2, 65535)]) (ha2 : a2 ≤ off) (hah : ahead ≤ off) (hoff : off ≠ 0) (h0 : 0 ≤ size') (h1 : size' ≤ 24) (ho : 0 ≤ off) (ho2 : off ≤ 16) (hf : ∀ y, fin' = some y → y ≤ 65515) (hr : rows.length ≤ 2) (hp : parts.length ≤ 2) : TrB g (partHd n off false) pb :=
  ⟨.inr ⟨rfl, hoff, G.fin.trans hfin, ⟨r, a2, G.rows.trans hr0, by show a2 ≤ off + (pb.size : Int); omega⟩, by rw [G.ahead]; show ¬ (ahead ≥ off + (pb.size : Int) ∧ off + (pb.size : Int) > 0); omega⟩, by rw [G'.size]; exact h0, by rw [G'.size]; exact h1, ho, by show off + (pb.size : Int) ≤ 65515; omega, fun y hy => hf y (by rw [← G'.fin]; exact hy), by rw [G.rows]; omega, by rw [G.rows, G.parts]; omega⟩
end
section
variable {e : Int} {t : Nat}
theorem lo1 (h : 8 * ((1 : Nat) : Int) < e) : 8 < e := by omega
theorem lo2 (h : 8 * ((2 : Nat) : Int) < e) : 16 < e := by omega
theorem hi1 (h : e ≤ 8 * ((1 : Nat) : Int) + 8) : e ≤ 16 := by omega
theorem hi2 (h : e ≤ 8 * ((2 : Nat) : Int) + 8) : e ≤ 24 := by omega
theorem la1 (h : 8 * ((1 : Nat) : Int) + (t : Int) = e) : 8 + (t : Int) = e := by omega
theorem la2 (h : 8 * ((2 : Nat) : Int) + (t : Int) = e) : 16 + (t : Int) = e := by omega
theorem zz0 (h : t = 8) : (0 : Int) + (t : Int) = 8 := by omega
theorem zz8 (h : t = 8) : (8 : Int) + (t : Int) = 16 := by omega
theorem pos1 (h : 8 < e) (k : 8 + (t : Int) = e) : 0 < t := by omega
theorem pos2 (h : 16 < e) (k : 16 + (t : Int) = e) : 0 < t := by omega
theorem le81 (h : e ≤ 16) (k : 8 + (t : Int) = e) : t ≤ 8 := by omega
theorem le82 (h : e ≤ 24) (k : 16 + (t : Int) = e) : t ≤ 8 := by omega
theorem bnd1 (h : 8 < e) (k : e ≤ 16) : 0 ≤ e ∧ e ≤ 24 ∧ 0 ≤ e - 8 ∧ e - 8 ≤ 24 := have k' : e ≤ 24 := Int.le_trans k (by decide); ⟨Int.le_of_lt (Int.lt_trans (by decide) h), k', Int.sub_nonneg_of_le (Int.le_of_lt h), Int.le_trans (Int.sub_le_self e (by decide)) k'⟩
theorem bnd2 (h : 16 < e) (k : e ≤ 24) : 0 ≤ e ∧ e ≤ 24 ∧ 0 ≤ e - 8 ∧ e - 8 ≤ 24 ∧ 0 ≤ e - 16 ∧ e - 16 ≤ 24 := ⟨Int.le_of_lt (Int.lt_trans (by decide) h), k, Int.sub_nonneg_of_le (Int.le_of_lt (Int.lt_trans (by decide) h)), Int.le_trans (Int.sub_le_self e (by decide)) k, Int.sub_nonneg_of_le (Int.le_of_lt h), Int.le_trans (Int.sub_le_self e (by decide)) k⟩
theorem fin_le (h : e ≤ 24) : ∀ y, some e = some y → y ≤ 65515 := fun y hy => by cases hy; omega
theorem fin_no {P : Int → Prop} : ∀ y, (none : Option Int) = some y → P y := fun _ hy => nomatch hy
theorem fin_lt {k o : Int} (h : k < e) (ho : o + 8 ≤ k) : ∀ y, some e = some y → o + 8 < y := fun y hy => by cases hy; omega
theorem octs_to {a b : List (Int × Byt)} {v : Byt} (h : a = b) (k : Octs b v) : Octs a v := h ▸ k
theorem all_to {a b : List (Int × Byt)} (h : a = b) (k : ∀ p ∈ b, p.2.size ≤ 65535) : ∀ p ∈ a, p.2.size ≤ 65535 := h ▸ k
theorem rows_to {a b : Rws} (h : a = b) (k : b ≠ []) : a ≠ [] := h ▸ k
theorem sz_8 (h : t = 8) : t ≤ 65535 := by omega
theorem sz_l (h : t ≤ 8) : t ≤ 65535 := by omega
end
theorem gnew {D : Dat} {i : Nat} (hok : D.Ok) (hm : D.many ≠ 0) (hi : i ≤ D.many) : TrB (Dg.new 1) (D.hd i) (D.b i) ∧ GR D [i] ((Dg.new 1).put (D.hd i) (D.b i)) ∧ (((Dg.new 1).put (D.hd i) (D.b i)).fin = none ∨ ((Dg.new 1).put (D.hd i) (D.b i)).first = none) := by
  obtain ⟨n, many, b, e⟩ := D
  rcases qcm hok.many with h | h | h
  · exact absurd h hm
  · dsimp only at h
    subst h
    have k1 := lo1 hok.lo
    have k2 := hi1 hok.hi
    have bd := bnd1 k1 k2
    rcases qc2 hi rfl with rfl | rfl
    · have G' := g1__0 (n := n) (e := e) (pb := b 0) k1 k2 (zz0 (hok.full 0 (Nat.le_of_ble_eq_true rfl))) (gst_new 1)
      exact ⟨tr_m (gst_new 1) G' (hok.full 0 (Nat.le_of_ble_eq_true rfl)) fin_no (by decide) (by decide) (by decide) (by decide) fin_no (by decide) (by simp only [List.length_cons, List.length_nil]; decide), .a1_0 rfl G', (.inl G'.fin)⟩
    · have G' := g1__1 (n := n) (e := e) (pb := b 1) k1 k2 (la1 hok.last) (gst_new 1)
      exact ⟨tr_l (r := []) (gst_new 1) G' (pos1 k1 (la1 hok.last)) (le81 k2 (la1 hok.last)) rfl rfl (by decide) (by decide) (by decide) bd.2.2.1 bd.2.2.2 (by decide) (by decide) (fin_le bd.2.1) (by decide) (by simp only [List.length_cons, List.length_nil]; decide), .a1_1 rfl G', (.inr G'.first)⟩
  · dsimp only at h
    subst h
    have k1 := lo2 hok.lo
    have k2 := hi2 hok.hi
    have bd := bnd2 k1 k2
    rcases qc3 hi rfl with rfl | rfl | rfl
    · have G' := g2__0 (n := n) (e := e) (pb := b 0) k1 k2 (zz0 (hok.full 0 (Nat.le_of_ble_eq_true rfl))) (gst_new 1)
      exact ⟨tr_m (gst_new 1) G' (hok.full 0 (Nat.le_of_ble_eq_true rfl)) fin_no (by decide) (by decide) (by decide) (by decide) fin_no (by decide) (by simp only [List.length_cons, List.length_nil]; decide), .a2_0 rfl G', (.inl G'.fin)⟩
    · have G' := g2__1 (n := n) (e := e) (pb := b 1) k1 k2 (zz8 (hok.full 1 (Nat.le_of_ble_eq_true rfl))) (gst_new 1)
      exact ⟨tr_m (gst_new 1) G' (hok.full 1 (Nat.le_of_ble_eq_true rfl)) fin_no (by decide) (by decide) (by decide) (by decide) fin_no (by decide) (by simp only [List.length_cons, List.length_nil]; decide), .a2_1 rfl G', (.inl G'.fin)⟩
    · have G' := g2__2 (n := n) (e := e) (pb := b 2) k1 k2 (la2 hok.last) (gst_new 1)
      exact ⟨tr_l (r := []) (gst_new 1) G' (pos2 k1 (la2 hok.last)) (le82 k2 (la2 hok.last)) rfl rfl (by decide) (by decide) (by decide) bd.2.2.2.2.1 bd.2.2.2.2.2 (by decide) (by decide) (fin_le bd.2.1) (by decide) (by simp only [List.length_cons, List.length_nil]; decide), .a2_2 rfl G', (.inr G'.first)⟩
theorem gold {D : Dat} {r : List Nat} {i : Nat} {g : Dg} (hok : D.Ok) (hg : GR D r g) (hi : i ≤ D.many) (hni : i ∉ r) : TrB g (D.hd i) (D.b i) ∧ ((r.length + 1 ≤ D.many ∧ GR D (r ++ [i]) (g.put (D.hd i) (D.b i)) ∧ (g.put (D.hd i) (D.b i)).rows ≠ []) ∨ (r.length = D.many ∧ (g.put (D.hd i) (D.b i)).done ∧ (g.put (D.hd i) (D.b i)).first = some (D.hd 0) ∧ Octs (g.put (D.hd i) (D.b i)).parts D.whole ∧ ∀ p ∈ (g.put (D.hd i) (D.b i)).parts, p.2.size ≤ 65535)) := by
  obtain ⟨n, many, b, e⟩ := D
  cases hg with
  | a1_0 hm hG =>
    dsimp only at hm
    subst hm
    have k1 := lo1 hok.lo
    have k2 := hi1 hok.hi
    have bd := bnd1 k1 k2
    rcases qc2_0 hi rfl (fun e => hni (e ▸ .head _)) with rfl
    · have G' := g1_0_1 (n := n) (e := e) (pb := b 1) k1 k2 (la1 hok.last) hG
      exact ⟨tr_l (r := []) hG G' (pos1 k1 (la1 hok.last)) (le81 k2 (la1 hok.last)) rfl rfl (by decide) (by decide) (by decide) bd.1 bd.2.1 (by decide) (by decide) (fin_le bd.2.1) (by decide) (by simp only [List.length_cons, List.length_nil]; decide), .inr ⟨rfl, ⟨⟨_, G'.fin⟩, ⟨_, G'.first⟩, G'.rows⟩, G'.first, octs_to G'.parts .p01, all_to G'.parts (List.forall_mem_cons.mpr ⟨(sz_8 (hok.full 0 (Nat.le_of_ble_eq_true rfl))), List.forall_mem_cons.mpr ⟨(sz_l (le81 k2 (la1 hok.last))), List.forall_mem_nil _⟩⟩)⟩⟩
  | a1_1 hm hG =>
    dsimp only at hm
    subst hm
    have k1 := lo1 hok.lo
    have k2 := hi1 hok.hi
    have bd := bnd1 k1 k2
    rcases qc2_1 hi rfl (fun e => hni (e ▸ .head _)) with rfl
    · have G' := g1_1_0 (n := n) (e := e) (pb := b 0) k1 k2 (zz0 (hok.full 0 (Nat.le_of_ble_eq_true rfl))) hG
      exact ⟨tr_m hG G' (hok.full 0 (Nat.le_of_ble_eq_true rfl)) (fin_lt k1 (by decide)) bd.1 bd.2.1 (by decide) (by decide) (fin_le bd.2.1) (by decide) (by simp only [List.length_cons, List.length_nil]; decide), .inr ⟨rfl, ⟨⟨_, G'.fin⟩, ⟨_, G'.first⟩, G'.rows⟩, G'.first, octs_to G'.parts .p10, all_to G'.parts (List.forall_mem_cons.mpr ⟨(sz_l (le81 k2 (la1 hok.last))), List.forall_mem_cons.mpr ⟨(sz_8 (hok.full 0 (Nat.le_of_ble_eq_true rfl))), List.forall_mem_nil _⟩⟩)⟩⟩
  | a2_0 hm hG =>
    dsimp only at hm
    subst hm
    have k1 := lo2 hok.lo
    have k2 := hi2 hok.hi
    have bd := bnd2 k1 k2
    rcases qc3_0 hi rfl (fun e => hni (e ▸ .head _)) with rfl | rfl
    · have G' := g2_0_1 (n := n) (e := e) (pb := b 1) k1 k2 (zz8 (hok.full 1 (Nat.le_of_ble_eq_true rfl))) hG
      exact ⟨tr_m hG G' (hok.full 1 (Nat.le_of_ble_eq_true rfl)) fin_no (by decide) (by decide) (by decide) (by decide) fin_no (by decide) (by simp only [List.length_cons, List.length_nil]; decide), .inl ⟨Nat.le_of_ble_eq_true rfl, .a2_01 rfl G', rows_to G'.rows (List.cons_ne_nil _ _)⟩⟩
    · have G' := g2_0_2 (n := n) (e := e) (pb := b 2) k1 k2 (la2 hok.last) hG
      exact ⟨tr_l (r := []) hG G' (pos2 k1 (la2 hok.last)) (le82 k2 (la2 hok.last)) rfl rfl (by decide) (by decide) (by decide) bd.2.2.1 bd.2.2.2.1 (by decide) (by decide) (fin_le bd.2.1) (by decide) (by simp only [List.length_cons, List.length_nil]; decide), .inl ⟨Nat.le_of_ble_eq_true rfl, .a2_02 rfl G', rows_to G'.rows (List.cons_ne_nil _ _)⟩⟩
  | a2_1 hm hG =>
    dsimp only at hm
    subst hm
    have k1 := lo2 hok.lo
    have k2 := hi2 hok.hi
    have bd := bnd2 k1 k2
    rcases qc3_1 hi rfl (fun e => hni (e ▸ .head _)) with rfl | rfl
    · have G' := g2_1_0 (n := n) (e := e) (pb := b 0) k1 k2 (zz0 (hok.full 0 (Nat.le_of_ble_eq_true rfl))) hG
      exact ⟨tr_m hG G' (hok.full 0 (Nat.le_of_ble_eq_true rfl)) fin_no (by decide) (by decide) (by decide) (by decide) fin_no (by decide) (by simp only [List.length_cons, List.length_nil]; decide), .inl ⟨Nat.le_of_ble_eq_true rfl, .a2_10 rfl G', rows_to G'.rows (List.cons_ne_nil _ _)⟩⟩
    · have G' := g2_1_2 (n := n) (e := e) (pb := b 2) k1 k2 (la2 hok.last) hG
      exact ⟨tr_l (r := [(0, 8)]) hG G' (pos2 k1 (la2 hok.last)) (le82 k2 (la2 hok.last)) rfl rfl (by decide) (by decide) (by decide) bd.2.2.1 bd.2.2.2.1 (by decide) (by decide) (fin_le bd.2.1) (by decide) (by simp only [List.length_cons, List.length_nil]; decide), .inl ⟨Nat.le_of_ble_eq_true rfl, .a2_12 rfl G', rows_to G'.rows (List.cons_ne_nil _ _)⟩⟩
  | a2_2 hm hG =>
    dsimp only at hm
    subst hm
    have k1 := lo2 hok.lo
    have k2 := hi2 hok.hi
    have bd := bnd2 k1 k2
    rcases qc3_2 hi rfl (fun e => hni (e ▸ .head _)) with rfl | rfl
    · have G' := g2_2_0 (n := n) (e := e) (pb := b 0) k1 k2 (zz0 (hok.full 0 (Nat.le_of_ble_eq_true rfl))) hG
      exact ⟨tr_m hG G' (hok.full 0 (Nat.le_of_ble_eq_true rfl)) (fin_lt k1 (by decide)) bd.2.2.1 bd.2.2.2.1 (by decide) (by decide) (fin_le bd.2.1) (by decide) (by simp only [List.length_cons, List.length_nil]; decide), .inl ⟨Nat.le_of_ble_eq_true rfl, .a2_20 rfl G', rows_to G'.rows (List.cons_ne_nil _ _)⟩⟩
    · have G' := g2_2_1 (n := n) (e := e) (pb := b 1) k1 k2 (zz8 (hok.full 1 (Nat.le_of_ble_eq_true rfl))) hG
      exact ⟨tr_m hG G' (hok.full 1 (Nat.le_of_ble_eq_true rfl)) (fin_lt k1 (by decide)) bd.2.2.1 bd.2.2.2.1 (by decide) (by decide) (fin_le bd.2.1) (by decide) (by simp only [List.length_cons, List.length_nil]; decide), .inl ⟨Nat.le_of_ble_eq_true rfl, .a2_21 rfl G', rows_to G'.rows (List.cons_ne_nil _ _)⟩⟩
  | a2_01 hm hG =>
    dsimp only at hm
    subst hm
    have k1 := lo2 hok.lo
    have k2 := hi2 hok.hi
    have bd := bnd2 k1 k2
    rcases qc3_01 hi rfl ⟨fun e => hni (e ▸ .head _), fun e => hni (e ▸ .tail _ (.head _))⟩ with rfl
    · have G' := g2_01_2 (n := n) (e := e) (pb := b 2) k1 k2 (la2 hok.last) hG
      exact ⟨tr_l (r := []) hG G' (pos2 k1 (la2 hok.last)) (le82 k2 (la2 hok.last)) rfl rfl (by decide) (by decide) (by decide) bd.1 bd.2.1 (by decide) (by decide) (fin_le bd.2.1) (by decide) (by simp only [List.length_cons, List.length_nil]; decide), .inr ⟨rfl, ⟨⟨_, G'.fin⟩, ⟨_, G'.first⟩, G'.rows⟩, G'.first, octs_to G'.parts .p012, all_to G'.parts (List.forall_mem_cons.mpr ⟨(sz_8 (hok.full 0 (Nat.le_of_ble_eq_true rfl))), List.forall_mem_cons.mpr ⟨(sz_8 (hok.full 1 (Nat.le_of_ble_eq_true rfl))), List.forall_mem_cons.mpr ⟨(sz_l (le82 k2 (la2 hok.last))), List.forall_mem_nil _⟩⟩⟩)⟩⟩
  | a2_02 hm hG =>
    dsimp only at hm
    subst hm
    have k1 := lo2 hok.lo
    have k2 := hi2 hok.hi
    have bd := bnd2 k1 k2
    rcases qc3_02 hi rfl ⟨fun e => hni (e ▸ .head _), fun e => hni (e ▸ .tail _ (.head _))⟩ with rfl
    · have G' := g2_02_1 (n := n) (e := e) (pb := b 1) k1 k2 (zz8 (hok.full 1 (Nat.le_of_ble_eq_true rfl))) hG
      exact ⟨tr_m hG G' (hok.full 1 (Nat.le_of_ble_eq_true rfl)) (fin_lt k1 (by decide)) bd.1 bd.2.1 (by decide) (by decide) (fin_le bd.2.1) (by decide) (by simp only [List.length_cons, List.length_nil]; decide), .inr ⟨rfl, ⟨⟨_, G'.fin⟩, ⟨_, G'.first⟩, G'.rows⟩, G'.first, octs_to G'.parts .p021, all_to G'.parts (List.forall_mem_cons.mpr ⟨(sz_8 (hok.full 0 (Nat.le_of_ble_eq_true rfl))), List.forall_mem_cons.mpr ⟨(sz_l (le82 k2 (la2 hok.last))), List.forall_mem_cons.mpr ⟨(sz_8 (hok.full 1 (Nat.le_of_ble_eq_true rfl))), List.forall_mem_nil _⟩⟩⟩)⟩⟩
  | a2_10 hm hG =>
    dsimp only at hm
    subst hm
    have k1 := lo2 hok.lo
    have k2 := hi2 hok.hi
    have bd := bnd2 k1 k2
    rcases qc3_10 hi rfl ⟨fun e => hni (e ▸ .head _), fun e => hni (e ▸ .tail _ (.head _))⟩ with rfl
    · have G' := g2_01_2 (n := n) (e := e) (pb := b 2) k1 k2 (la2 hok.last) hG
      exact ⟨tr_l (r := []) hG G' (pos2 k1 (la2 hok.last)) (le82 k2 (la2 hok.last)) rfl rfl (by decide) (by decide) (by decide) bd.1 bd.2.1 (by decide) (by decide) (fin_le bd.2.1) (by decide) (by simp only [List.length_cons, List.length_nil]; decide), .inr ⟨rfl, ⟨⟨_, G'.fin⟩, ⟨_, G'.first⟩, G'.rows⟩, G'.first, octs_to G'.parts .p102, all_to G'.parts (List.forall_mem_cons.mpr ⟨(sz_8 (hok.full 1 (Nat.le_of_ble_eq_true rfl))), List.forall_mem_cons.mpr ⟨(sz_8 (hok.full 0 (Nat.le_of_ble_eq_true rfl))), List.forall_mem_cons.mpr ⟨(sz_l (le82 k2 (la2 hok.last))), List.forall_mem_nil _⟩⟩⟩)⟩⟩
  | a2_12 hm hG =>
    dsimp only at hm
    subst hm
    have k1 := lo2 hok.lo
    have k2 := hi2 hok.hi
    have bd := bnd2 k1 k2
    rcases qc3_12 hi rfl ⟨fun e => hni (e ▸ .head _), fun e => hni (e ▸ .tail _ (.head _))⟩ with rfl
    · have G' := g2_12_0 (n := n) (e := e) (pb := b 0) k1 k2 (zz0 (hok.full 0 (Nat.le_of_ble_eq_true rfl))) hG
      exact ⟨tr_m hG G' (hok.full 0 (Nat.le_of_ble_eq_true rfl)) (fin_lt k1 (by decide)) bd.1 bd.2.1 (by decide) (by decide) (fin_le bd.2.1) (by decide) (by simp only [List.length_cons, List.length_nil]; decide), .inr ⟨rfl, ⟨⟨_, G'.fin⟩, ⟨_, G'.first⟩, G'.rows⟩, G'.first, octs_to G'.parts .p120, all_to G'.parts (List.forall_mem_cons.mpr ⟨(sz_8 (hok.full 1 (Nat.le_of_ble_eq_true rfl))), List.forall_mem_cons.mpr ⟨(sz_l (le82 k2 (la2 hok.last))), List.forall_mem_cons.mpr ⟨(sz_8 (hok.full 0 (Nat.le_of_ble_eq_true rfl))), List.forall_mem_nil _⟩⟩⟩)⟩⟩
  | a2_20 hm hG =>
    dsimp only at hm
    subst hm
    have k1 := lo2 hok.lo
    have k2 := hi2 hok.hi
    have bd := bnd2 k1 k2
    rcases qc3_20 hi rfl ⟨fun e => hni (e ▸ .head _), fun e => hni (e ▸ .tail _ (.head _))⟩ with rfl
    · have G' := g2_02_1 (n := n) (e := e) (pb := b 1) k1 k2 (zz8 (hok.full 1 (Nat.le_of_ble_eq_true rfl))) hG
      exact ⟨tr_m hG G' (hok.full 1 (Nat.le_of_ble_eq_true rfl)) (fin_lt k1 (by decide)) bd.1 bd.2.1 (by decide) (by decide) (fin_le bd.2.1) (by decide) (by simp only [List.length_cons, List.length_nil]; decide), .inr ⟨rfl, ⟨⟨_, G'.fin⟩, ⟨_, G'.first⟩, G'.rows⟩, G'.first, octs_to G'.parts .p201, all_to G'.parts (List.forall_mem_cons.mpr ⟨(sz_l (le82 k2 (la2 hok.last))), List.forall_mem_cons.mpr ⟨(sz_8 (hok.full 0 (Nat.le_of_ble_eq_true rfl))), List.forall_mem_cons.mpr ⟨(sz_8 (hok.full 1 (Nat.le_of_ble_eq_true rfl))), List.forall_mem_nil _⟩⟩⟩)⟩⟩
  | a2_21 hm hG =>
    dsimp only at hm
    subst hm
    have k1 := lo2 hok.lo
    have k2 := hi2 hok.hi
    have bd := bnd2 k1 k2
    rcases qc3_21 hi rfl ⟨fun e => hni (e ▸ .head _), fun e => hni (e ▸ .tail _ (.head _))⟩ with rfl
    · have G' := g2_12_0 (n := n) (e := e) (pb := b 0) k1 k2 (zz0 (hok.full 0 (Nat.le_of_ble_eq_true rfl))) hG
      exact ⟨tr_m hG G' (hok.full 0 (Nat.le_of_ble_eq_true rfl)) (fin_lt k1 (by decide)) bd.1 bd.2.1 (by decide) (by decide) (fin_le bd.2.1) (by decide) (by simp only [List.length_cons, List.length_nil]; decide), .inr ⟨rfl, ⟨⟨_, G'.fin⟩, ⟨_, G'.first⟩, G'.rows⟩, G'.first, octs_to G'.parts .p210, all_to G'.parts (List.forall_mem_cons.mpr ⟨(sz_l (le82 k2 (la2 hok.last))), List.forall_mem_cons.mpr ⟨(sz_8 (hok.full 1 (Nat.le_of_ble_eq_true rfl))), List.forall_mem_cons.mpr ⟨(sz_8 (hok.full 0 (Nat.le_of_ble_eq_true rfl))), List.forall_mem_nil _⟩⟩⟩)⟩⟩
theorem outOf_no {D : Dat} {r : List Nat} {i : Nat} (h : r.length + 1 ≤ D.many) : outOf D (r ++ [i]) = none := if_neg (by rw [List.length_append]; simp only [List.length_cons, List.length_nil]; omega)
theorem outOf_so {D : Dat} {r : List Nat} {i : Nat} (h : r.length = D.many) : outOf D (r ++ [i]) = some (wholeHd (D.hd 0), D.whole) := if_pos (by rw [List.length_append, h]; rfl)
theorem alive_len {D : Dat} {r : List Nat} {i : Nat} (h : r.length + 1 ≤ D.many) : (r ++ [i]).length ≤ D.many := by rw [List.length_append]; exact h
theorem dead_len {D : Dat} {r : List Nat} {i : Nat} (h : r.length = D.many) : ¬ (r ++ [i]).length ≤ D.many := by rw [List.length_append, h]; exact Nat.not_succ_le_self _
theorem zo_le {a b : Int} (h : a ≤ 24) (k : b ≤ 100) : a + b ≤ 999 := by omega
theorem done_abs {G : Prop} {g : Dg} (h : g.done) (k : g.fin = none ∨ g.first = none ∨ g.rows ≠ []) : G := by
  obtain ⟨⟨x, a⟩, ⟨y, b⟩, c⟩ := h
  rcases k with k | k | k
  · exact nomatch a.symm.trans k
  · exact nomatch b.symm.trans k
  · exact absurd c k


noncomputable abbrev lotTup (hh : Addr) (b : Byt) (tb : Tok) : Obj := { cls := .type "tuple", data := .seq #[Value.ref hh, Value.bytes b tb] }
noncomputable abbrev Row := Bool × Nat × Bool
inductive RowsAt (P : Params) (tl : List (Addr × Obj)) (D : Bool → Dat) : List Value → List Row → Prop
  | nil : RowsAt P tl D [] []
  | cons {t hh : Addr} {tn tb : Tok} {c : Bool} {i : Nat} {ta : Bool} {vs : List Value} {rs : List Row} : (t, ({ cls := .type "tuple", data := .seq #[Value.int (D c).n tn, Value.ref hh, Value.bytes ((D c).b i) tb, Value.bool ta] } : Obj)) ∈ tl → HdAt P tl hh ((D c).hd i) → RowsAt P tl D vs rs → RowsAt P tl D (.ref t :: vs) ((c, i, ta) :: rs)
theorem RowsAt.length {P : Params} {tl : List (Addr × Obj)} {D : Bool → Dat} : ∀ {vs : List Value} {rs : List Row}, RowsAt P tl D vs rs → vs.length = rs.length := by
  intro _ _ h9
  induction h9 with
  | nil => exact rfl
  | cons _ _ k ih9 => exact by rw [List.length_cons, List.length_cons, ih9]
theorem RowsAt.mono {P : Params} {tl tl' : List (Addr × Obj)} {D : Bool → Dat} (hs : ∀ p ∈ tl, p ∈ tl') : ∀ {vs : List Value} {rs : List Row}, RowsAt P tl D vs rs → RowsAt P tl' D vs rs := by
  intro _ _ h9
  induction h9 with
  | nil => exact .nil
  | cons h k r ih9 => exact .cons (hs _ h) (k.mono hs) ih9
theorem RowsAt.get {P : Params} {tl : List (Addr × Obj)} {D : Bool → Dat} {vs : List Value} {rs : List Row} (h : RowsAt P tl D vs rs) : ∀ {k : Nat} {v : Value}, vs[k]? = some v → ∃ t hh tn tb c i ta, v = .ref t ∧ (t, ({ cls := .type "tuple", data := .seq #[Value.int (D c).n tn, Value.ref hh, Value.bytes ((D c).b i) tb, Value.bool ta] } : Obj)) ∈ tl ∧ HdAt P tl hh ((D c).hd i) ∧ rs[k]? = some (c, i, ta) := by
  induction h with
  | nil => intro k v e; simp at e
  | cons hm hH _ ih =>
    intro k v e
    cases k with
    | zero => simp only [List.getElem?_cons_zero, Option.some.injEq] at e; subst e; exact ⟨_, _, _, _, _, _, _, rfl, hm, hH, rfl⟩
    | succ k => simp only [List.getElem?_cons_succ] at e ⊢; exact ih e
noncomputable def rcv (rs : List Row) (c : Bool) : List Nat := (rs.filter fun q => q.1 == c).map (·.2.1)
theorem rcv_snoc (rs : List Row) (c : Bool) (q : Row) : rcv (rs ++ [q]) c = rcv rs c ++ (if q.1 = c then [q.2.1] else []) := by
  unfold rcv
  rw [List.filter_append, List.map_append]
  congr 1
  by_cases h : q.1 = c
  · rw [if_pos h, List.filter_cons_of_pos (by simpa using h)]; rfl
  · rw [if_neg h, List.filter_cons_of_neg (by simpa using h)]; rfl
theorem nodup_len : ∀ (m : Nat) (l : List Nat), l.Nodup → (∀ x ∈ l, x < m) → l.length ≤ m
  | 0, l, _, h => by
    cases l with
    | nil => simp
    | cons a l => exact absurd (h a (.head _)) (Nat.not_lt_zero _)
  | m + 1, l, hn, h => by
    by_cases hm : m ∈ l
    · have h1 := nodup_len m (l.erase m) (hn.erase m) fun x hx => by
        have h2 := h x (List.mem_of_mem_erase hx)
        have h3 : x ≠ m := fun e => (hn.not_mem_erase) (e ▸ hx)
        omega
      rw [List.length_erase_of_mem hm] at h1
      omega
    · have h1 := nodup_len m l hn fun x hx => by
        have h2 := h x hx
        have h3 : x ≠ m := fun e => hm (e ▸ hx)
        omega
      omega
structure RowsOk (D : Bool → Dat) (rs : List Row) : Prop where
  nd : ∀ c, (rcv rs c).Nodup
  le : ∀ c, ∀ i ∈ rcv rs c, i ≤ (D c).many
theorem rcv_take {D : Bool → Dat} {rs : List Row} (ok : RowsOk D rs) {k : Nat} {q : Row} (hq : rs[k]? = some q) :
    rcv (rs.take (k + 1)) q.1 = rcv (rs.take k) q.1 ++ [q.2.1] ∧ rcv (rs.take (k + 1)) (!q.1) = rcv (rs.take k) (!q.1) ∧ q.2.1 ≤ (D q.1).many ∧ q.2.1 ∉ rcv (rs.take k) q.1 ∧ (rcv (rs.take k) q.1).length ≤ (D q.1).many ∧ ∀ j ∈ rcv (rs.take k) q.1, j ≤ (D q.1).many := by
  have e : rs.take (k + 1) = rs.take k ++ [q] := by rw [List.take_add_one, hq]; rfl
  have e1 : rcv (rs.take (k + 1)) q.1 = rcv (rs.take k) q.1 ++ [q.2.1] := by rw [e, rcv_snoc, if_pos rfl]
  have e2 : rcv (rs.take (k + 1)) (!q.1) = rcv (rs.take k) (!q.1) := by rw [e, rcv_snoc, if_neg (by cases q.1 <;> simp)]; simp
  have hsub : (rcv (rs.take (k + 1)) q.1).Sublist (rcv rs q.1) := by
    unfold rcv
    exact (List.Sublist.filter _ (List.take_sublist _ _)).map _
  have hn : (rcv (rs.take k) q.1 ++ [q.2.1]).Nodup := e1 ▸ (ok.nd q.1).sublist hsub
  have hle : ∀ j ∈ rcv (rs.take k) q.1 ++ [q.2.1], j ≤ (D q.1).many := fun j hj => ok.le q.1 j (hsub.subset (e1 ▸ hj))
  have h1 := nodup_len ((D q.1).many + 1) _ hn fun x hx => Nat.lt_succ_of_le (hle x hx)
  have hni : q.2.1 ∉ rcv (rs.take k) q.1 := fun hm => by
    rw [List.nodup_append] at hn
    exact hn.2.2 _ hm _ (List.mem_singleton.mpr rfl) rfl
  refine ⟨e1, e2, hle _ (by simp), hni, ?_, fun j hj => hle j (by simp [hj])⟩
  simp only [List.length_append, List.length_cons, List.length_nil] at h1
  omega


theorem valueAt_cons {k0 k : Int} {v : Value} {kvs : List (Int × Value)} : valueAt ((k0, v) :: kvs) k = if k0 = k then some v else valueAt kvs k := by
  unfold valueAt
  by_cases h : k0 = k
  · rw [if_pos h, List.find?_cons_of_pos (by simpa using h)]; rfl
  · rw [if_neg h, List.find?_cons_of_neg (by simpa using h)]
theorem offOf_inj {i j : Nat} (hi : i ≤ 2) (hj : j ≤ 2) (e : offOf i = offOf j) : i = j := by
  rcases qcm hi with rfl | rfl | rfl <;> rcases qcm hj with rfl | rfl | rfl <;> first | rfl | (exact absurd e (by decide))
inductive LotKv (P : Params) (D : Dat) (tl : List (Addr × Obj)) : List Nat → List (Int × Value) → Prop
  | nil : LotKv P D tl [] []
  | cons {t hh : Addr} {tb : Tok} {i : Nat} {r : List Nat} {kvs : List (Int × Value)} : (t, lotTup hh (D.b i) tb) ∈ tl → HdAt P tl hh (D.hd i) → LotKv P D tl r kvs → LotKv P D tl (i :: r) ((offOf i, .ref t) :: kvs)
section
variable {P : Params} {D : Dat} {tl tl' : List (Addr × Obj)}
theorem LotKv.mono (hs : ∀ p ∈ tl, p ∈ tl') : ∀ {r : List Nat} {kvs : List (Int × Value)}, LotKv P D tl r kvs → LotKv P D tl' r kvs := by
  intro _ _ h9
  induction h9 with
  | nil => exact .nil
  | cons h k r ih9 => exact .cons (hs _ h) (k.mono hs) ih9
theorem LotKv.snoc {t hh : Addr} {tb : Tok} {i : Nat} (h : (t, lotTup hh (D.b i) tb) ∈ tl) (hH : HdAt P tl hh (D.hd i)) : ∀ {r : List Nat} {kvs : List (Int × Value)}, LotKv P D tl r kvs → LotKv P D tl (r ++ [i]) (kvs ++ [(offOf i, .ref t)]) := by
  intro _ _ h9
  induction h9 with
  | nil => exact .cons h hH .nil
  | cons h' k r ih9 => exact .cons h' k ih9
theorem LotKv.keys : ∀ {r : List Nat} {kvs : List (Int × Value)}, LotKv P D tl r kvs → kvs.map (·.1) = r.map offOf := by
  intro _ _ h9
  induction h9 with
  | nil => exact rfl
  | cons _ _ r ih9 => exact by rw [List.map_cons, List.map_cons, ih9]
theorem LotKv.length {r : List Nat} {kvs : List (Int × Value)} (h : LotKv P D tl r kvs) : kvs.length = r.length := by
  have e := congrArg List.length h.keys
  simpa using e
theorem LotKv.none {i : Nat} (hi : i ≤ 2) : ∀ {r : List Nat} {kvs : List (Int × Value)}, LotKv P D tl r kvs → (∀ j ∈ r, j ≤ 2) → i ∉ r → valueAt kvs (offOf i) = Option.none := by
  intro _ _ h9
  induction h9 with
  | nil => intro _ _; rfl
  | @cons t hh tb j r kvs _ _ k ih9 =>
    intro hle hn
    rw [valueAt_cons, if_neg (fun e => hn (by rw [offOf_inj (hle j (.head _)) hi e]; exact .head _))]
    exact ih9 (fun x hx => hle x (.tail _ hx)) fun hx => hn (.tail _ hx)
theorem LotKv.some {i : Nat} (hi : i ≤ 2) : ∀ {r : List Nat} {kvs : List (Int × Value)}, LotKv P D tl r kvs → (∀ j ∈ r, j ≤ 2) → i ∈ r → ∃ t hh tb, valueAt kvs (offOf i) = Option.some (.ref t) ∧ (t, lotTup hh (D.b i) tb) ∈ tl ∧ HdAt P tl hh (D.hd i) := by
  intro _ _ h9
  induction h9 with
  | nil => intro _ h; cases h
  | @cons t hh tb j r kvs h1 h2 k ih9 =>
    intro hle h
    by_cases e : j = i
    · subst e
      exact ⟨t, hh, tb, by rw [valueAt_cons, if_pos rfl], h1, h2⟩
    · have hne : offOf j ≠ offOf i := fun e' => e (offOf_inj (hle j (.head _)) hi e')
      obtain ⟨a, b, c, d⟩ := ih9 (fun x hx => hle x (.tail _ hx)) ((List.mem_cons.mp h).resolve_left fun x => e x.symm)
      exact ⟨a, b, c, by rw [valueAt_cons, if_neg hne]; exact d.1, d.2⟩
theorem stored_new {kvs : List (Int × Value)} {k : Int} {v : Value} (h : k ∉ kvs.map (·.1)) : stored kvs k v = kvs ++ [(k, v)] := by
  unfold stored
  rw [if_neg]
  intro h2
  rw [List.any_eq_true] at h2
  obtain ⟨x, hx, e⟩ := h2
  exact h (List.mem_map.mpr ⟨x, hx, by simpa using e⟩)
theorem LotKv.stored_eq {i : Nat} {r : List Nat} {kvs : List (Int × Value)} {v : Value} (h : LotKv P D tl r kvs) (hi : i ≤ 2) (hle : ∀ j ∈ r, j ≤ 2) (hn : i ∉ r) : stored kvs (offOf i) v = kvs ++ [(offOf i, v)] := by
  refine stored_new ?_
  rw [h.keys]
  intro hm
  obtain ⟨j, hj, e⟩ := List.mem_map.mp hm
  exact hn (offOf_inj (hle j hj) hi e ▸ hj)
theorem perm2 {r : List Nat} (hn : r.Nodup) (hl : r.length = 2) (hle : ∀ j ∈ r, j ≤ 1) : r = [0, 1] ∨ r = [1, 0] := by
  obtain ⟨a, b, rfl⟩ : ∃ a b, r = [a, b] := match r, hl with | [a, b], _ => ⟨a, b, rfl⟩
  have h1 := Nat.lt_succ_of_le (hle a (.head _))
  have h2 := Nat.lt_succ_of_le (hle b (.tail _ (.head _)))
  exact (by decide : ∀ a : Fin 2, ∀ b : Fin 2, [a.1, b.1].Nodup → [a.1, b.1] = [0, 1] ∨ [a.1, b.1] = [1, 0]) ⟨a, h1⟩ ⟨b, h2⟩ hn
theorem perm3 {r : List Nat} (hn : r.Nodup) (hl : r.length = 3) (hle : ∀ j ∈ r, j ≤ 2) : r = [0, 1, 2] ∨ r = [0, 2, 1] ∨ r = [1, 0, 2] ∨ r = [1, 2, 0] ∨ r = [2, 0, 1] ∨ r = [2, 1, 0] := by
  obtain ⟨a, b, c, rfl⟩ : ∃ a b c, r = [a, b, c] := match r, hl with | [a, b, c], _ => ⟨a, b, c, rfl⟩
  have h1 := Nat.lt_succ_of_le (hle a (.head _))
  have h2 := Nat.lt_succ_of_le (hle b (.tail _ (.head _)))
  have h3 := Nat.lt_succ_of_le (hle c (.tail _ (.tail _ (.head _))))
  exact (by decide : ∀ a : Fin 3, ∀ b : Fin 3, ∀ c : Fin 3, [a.1, b.1, c.1].Nodup → [a.1, b.1, c.1] = [0, 1, 2] ∨ [a.1, b.1, c.1] = [0, 2, 1] ∨ [a.1, b.1, c.1] = [1, 0, 2] ∨ [a.1, b.1, c.1] = [1, 2, 0] ∨ [a.1, b.1, c.1] = [2, 0, 1] ∨ [a.1, b.1, c.1] = [2, 1, 0]) ⟨a, h1⟩ ⟨b, h2⟩ ⟨c, h3⟩ hn
/-- what a lot says of a datagram of which parts lack -/
theorem lot_lack {Q : Prop} {r : List Nat} {kv : List (Int × Value)} (ok : D.Ok) (hL : LotKv P D tl r kv) (hn : r.Nodup) (hle : ∀ j ∈ r, j ≤ D.many) (hl : r.length ≤ D.many)
    (k2 : valueAt kv 0 = none → Q)
    (k3 : ∀ t0 h0 c0, valueAt kv 0 = some (.ref t0) → (t0, lotTup h0 (D.b 0) c0) ∈ tl → HdAt P tl h0 (D.hd 0) → (D.hd 0).more = true → (D.b 0).size = 8 → valueAt kv 8 = none → Q)
    (k5 : ∀ t0 h0 c0 t1 h1 c1, valueAt kv 0 = some (.ref t0) → (t0, lotTup h0 (D.b 0) c0) ∈ tl → HdAt P tl h0 (D.hd 0) → (D.hd 0).more = true → (D.b 0).size = 8 →
      valueAt kv 8 = some (.ref t1) → (t1, lotTup h1 (D.b 1) c1) ∈ tl → HdAt P tl h1 (D.hd 1) → (D.hd 1).more = true → (D.b 1).size = 8 → valueAt kv 16 = none → Q) : Q := by
  have hm := ok.many
  have h2 : ∀ j ∈ r, j ≤ 2 := fun j hj => Nat.le_trans (hle j hj) hm
  by_cases h0 : 0 ∈ r
  · have hpos : 0 < D.many := by
      have : 0 < r.length := List.length_pos_of_mem h0
      omega
    obtain ⟨t0, a0, c0, e0, m0, x0⟩ := hL.some (by decide) h2 h0
    have hm0 : (D.hd 0).more = true := by show decide (0 < D.many) = true; simpa using hpos
    by_cases h1 : 1 ∈ r
    · have hpos1 : 1 < D.many := by
        have h3 : 2 ≤ r.length := by
          have : [0, 1].length ≤ r.length := (List.Nodup.length_le_of_subset (by decide) (by intro x hx; simp at hx; rcases hx with rfl | rfl <;> assumption))
          simpa using this
        omega
      obtain ⟨t1, a1, c1, e1, m1, x1⟩ := hL.some (i := 1) (by decide) h2 h1
      have hm1 : (D.hd 1).more = true := by show decide (1 < D.many) = true; simpa using hpos1
      have h2n : 2 ∉ r := fun hx => by
        have : [0, 1, 2].length ≤ r.length := (List.Nodup.length_le_of_subset (by decide) (by intro x hx; simp at hx; rcases hx with rfl | rfl | rfl <;> assumption))
        simp at this
        omega
      exact k5 _ _ _ _ _ _ e0 m0 x0 hm0 (ok.full 0 hpos) e1 m1 x1 hm1 (ok.full 1 hpos1) (hL.none (i := 2) (by decide) h2 h2n)
    · exact k3 _ _ _ e0 m0 x0 hm0 (ok.full 0 hpos) (hL.none (i := 1) (by decide) h2 h1)
  · exact k2 (hL.none (i := 0) (by decide) h2 h0)
/-- of one of which all parts came -/
theorem lot_all {Q : Prop} {r : List Nat} {kv : List (Int × Value)} (ok : D.Ok) (hL : LotKv P D tl r kv) (hn : r.Nodup) (hle : ∀ j ∈ r, j ≤ D.many) (hl : r.length = D.many + 1)
    (k1 : ∀ t0 h0 c0, D.whole = D.b 0 → (D.b 0).size ≤ 8 → kv.map (·.1) = [0] → valueAt kv 0 = some (.ref t0) → (t0, lotTup h0 (D.b 0) c0) ∈ tl → HdAt P tl h0 (D.hd 0) → (D.hd 0).more = false → Q)
    (k4 : ∀ t0 h0 c0 t1 h1 c1, D.whole = D.b 0 ++ D.b 1 → (D.b 1).size ≤ 8 → (kv.map (·.1) = [0, 8] ∨ kv.map (·.1) = [8, 0]) → valueAt kv 0 = some (.ref t0) → (t0, lotTup h0 (D.b 0) c0) ∈ tl → HdAt P tl h0 (D.hd 0) → (D.hd 0).more = true → (D.b 0).size = 8 →
      valueAt kv 8 = some (.ref t1) → (t1, lotTup h1 (D.b 1) c1) ∈ tl → HdAt P tl h1 (D.hd 1) → (D.hd 1).more = false → Q)
    (k6 : ∀ t0 h0 c0 t1 h1 c1 t2 h2 c2, D.whole = D.b 0 ++ D.b 1 ++ D.b 2 → (D.b 2).size ≤ 8 → (kv.map (·.1) = [0, 8, 16] ∨ kv.map (·.1) = [0, 16, 8] ∨ kv.map (·.1) = [8, 0, 16] ∨ kv.map (·.1) = [8, 16, 0] ∨ kv.map (·.1) = [16, 0, 8] ∨ kv.map (·.1) = [16, 8, 0]) → valueAt kv 0 = some (.ref t0) → (t0, lotTup h0 (D.b 0) c0) ∈ tl → HdAt P tl h0 (D.hd 0) → (D.hd 0).more = true → (D.b 0).size = 8 →
      valueAt kv 8 = some (.ref t1) → (t1, lotTup h1 (D.b 1) c1) ∈ tl → HdAt P tl h1 (D.hd 1) → (D.hd 1).more = true → (D.b 1).size = 8 → valueAt kv 16 = some (.ref t2) → (t2, lotTup h2 (D.b 2) c2) ∈ tl → HdAt P tl h2 (D.hd 2) → (D.hd 2).more = false → Q) : Q := by
  have hm := ok.many
  have h2 : ∀ j ∈ r, j ≤ 2 := fun j hj => Nat.le_trans (hle j hj) hm
  have hk := hL.keys
  have hlast := ok.last
  have hhi := ok.hi
  rcases (by omega : D.many = 0 ∨ D.many = 1 ∨ D.many = 2) with hm | hm | hm
  · have hr : r = [0] := by
      match r, hl with
      | [a], _ => have := hle a (by simp); congr; omega
      | [], h => simp at h
      | _ :: _ :: _, h => simp at h; omega
    subst hr
    obtain ⟨t0, a0, c0, e0, m0, x0⟩ := hL.some (i := 0) (by decide) h2 (by simp)
    rw [hm] at hlast hhi
    refine k1 _ _ _ ?_ (by omega) hk e0 m0 x0 ?_
    · unfold Dat.whole; rw [hm]; rfl
    · show decide (0 < D.many) = false; rw [hm]; rfl
  · have hp := perm2 hn (by omega) fun j hj => by have := hle j hj; omega
    have i0 : 0 ∈ r := by rcases hp with rfl | rfl <;> simp
    have i1 : 1 ∈ r := by rcases hp with rfl | rfl <;> simp
    obtain ⟨t0, a0, c0, e0, m0, x0⟩ := hL.some (i := 0) (by decide) h2 i0
    obtain ⟨t1, a1, c1, e1, m1, x1⟩ := hL.some (i := 1) (by decide) h2 i1
    rw [hm] at hlast hhi
    refine k4 _ _ _ _ _ _ ?_ (by omega) ?_ e0 m0 x0 ?_ (ok.full 0 (by omega)) e1 m1 x1 ?_
    · unfold Dat.whole; rw [hm]; rfl
    · rcases hp with rfl | rfl
      · exact .inl hk
      · exact .inr hk
    · show decide (0 < D.many) = true; rw [hm]; rfl
    · show decide (1 < D.many) = false; rw [hm]; rfl
  · have hp := perm3 hn (by omega) h2
    have i0 : 0 ∈ r := by rcases hp with rfl | rfl | rfl | rfl | rfl | rfl <;> simp
    have i1 : 1 ∈ r := by rcases hp with rfl | rfl | rfl | rfl | rfl | rfl <;> simp
    have i2 : 2 ∈ r := by rcases hp with rfl | rfl | rfl | rfl | rfl | rfl <;> simp
    obtain ⟨t0, a0, c0, e0, m0, x0⟩ := hL.some (i := 0) (by decide) h2 i0
    obtain ⟨t1, a1, c1, e1, m1, x1⟩ := hL.some (i := 1) (by decide) h2 i1
    obtain ⟨t2, a2, c2, e2, m2, x2⟩ := hL.some (i := 2) (by decide) h2 i2
    rw [hm] at hlast hhi
    refine k6 _ _ _ _ _ _ _ _ _ ?_ (by omega) ?_ e0 m0 x0 ?_ (ok.full 0 (by omega)) e1 m1 x1 ?_ (ok.full 1 (by omega)) e2 m2 x2 ?_
    · unfold Dat.whole; rw [hm]; rfl
    · rcases hp with rfl | rfl | rfl | rfl | rfl | rfl
      · exact .inl hk
      · exact .inr (.inl hk)
      · exact .inr (.inr (.inl hk))
      · exact .inr (.inr (.inr (.inl hk)))
      · exact .inr (.inr (.inr (.inr (.inl hk))))
      · exact .inr (.inr (.inr (.inr (.inr hk))))
    · show decide (0 < D.many) = true; rw [hm]; rfl
    · show decide (1 < D.many) = true; rw [hm]; rfl
    · show decide (2 < D.many) = false; rw [hm]; rfl
end


noncomputable abbrev Led := List (Addr × Obj)
noncomputable def Nd (a : Led) : Prop := (a.map (·.1)).Nodup
noncomputable def Dj (a b : Led) : Prop := ∀ p ∈ a, ∀ q ∈ b, p.1 ≠ q.1
theorem Dj.symm {a b : Led} (h : Dj a b) : Dj b a := fun p hp q hq => Ne.symm (h q hq p hp)
theorem Dj.app {a b c : Led} (h : Dj a c) (k : Dj b c) : Dj (a ++ b) c := fun p hp q hq => (List.mem_append.mp hp).elim (fun x => h p x q hq) fun x => k p x q hq
theorem Dj.appr {a b c : Led} (h : Dj a b) (k : Dj a c) : Dj a (b ++ c) := fun p hp q hq => (List.mem_append.mp hq).elim (fun x => h p hp q x) fun x => k p hp q x
theorem Dj.l {a b c : Led} (h : Dj a (b ++ c)) : Dj a b := fun p hp q hq => h p hp q (List.mem_append.mpr (.inl hq))
theorem Dj.r {a b c : Led} (h : Dj a (b ++ c)) : Dj a c := fun p hp q hq => h p hp q (List.mem_append.mpr (.inr hq))
theorem Dj.cons {p : Addr × Obj} {a c : Led} (h : ∀ q ∈ c, q.1 ≠ p.1) (k : Dj a c) : Dj (p :: a) c := fun x hx q hq => by
  rcases List.mem_cons.mp hx with rfl | hx
  · exact Ne.symm (h q hq)
  · exact k x hx q hq
theorem Dj.nil {c : Led} : Dj [] c := fun p hp => by cases hp
theorem Dj.tail {p : Addr × Obj} {a c : Led} (h : Dj (p :: a) c) : Dj a c := fun x hx => h x (.tail _ hx)
theorem Dj.head {p : Addr × Obj} {a c : Led} (h : Dj (p :: a) c) : ∀ q ∈ c, q.1 ≠ p.1 := fun q hq => Ne.symm (h p (.head _) q hq)
theorem nd_cons {p : Addr × Obj} {a : Led} : Nd (p :: a) ↔ (∀ q ∈ a, q.1 ≠ p.1) ∧ Nd a := by
  unfold Nd
  rw [List.map_cons, List.nodup_cons]
  constructor
  · rintro ⟨h1, h2⟩
    exact ⟨fun q hq e => h1 (e ▸ List.mem_map_of_mem hq), h2⟩
  · rintro ⟨h1, h2⟩
    refine ⟨fun hm => ?_, h2⟩
    obtain ⟨q, hq, e⟩ := List.mem_map.mp hm
    exact h1 q hq e
/-- what may change, piece by piece, and what stands -/
structure SepF (wd hd cx : Addr) (c1 c2 l1 l2 fz : Led) : Prop where
  wh : hd ≠ wd
  xw : cx ≠ wd
  xh : cx ≠ hd
  xa : ∀ p ∈ c1 ++ (c2 ++ (l1 ++ (l2 ++ fz))), p.1 ≠ cx
  wa : ∀ p ∈ c1 ++ (c2 ++ (l1 ++ (l2 ++ fz))), p.1 ≠ wd
  ha : ∀ p ∈ c1 ++ (c2 ++ (l1 ++ (l2 ++ fz))), p.1 ≠ hd
  n1 : Nd c1
  n2 : Nd c2
  m1 : Nd l1
  m2 : Nd l2
  d1 : Dj c1 (c2 ++ (l1 ++ (l2 ++ fz)))
  d2 : Dj c2 (l1 ++ (l2 ++ fz))
  d3 : Dj l1 (l2 ++ fz)
  d4 : Dj l2 fz
theorem allApp {a b : Led} {x : Addr} : (∀ p ∈ a ++ b, p.1 ≠ x) ↔ (∀ p ∈ a, p.1 ≠ x) ∧ ∀ p ∈ b, p.1 ≠ x := List.forall_mem_append
theorem SepF.swap {wd hd cx : Addr} {c1 c2 l1 l2 fz : Led} (h : SepF wd hd cx c1 c2 l1 l2 fz) : SepF wd hd cx c2 c1 l2 l1 fz := by
  obtain ⟨wh, xw, xh, xa, wa, ha, n1, n2, m1, m2, d1, d2, d3, d4⟩ := h
  have sh : ∀ p : Addr × Obj, p ∈ c2 ++ (c1 ++ (l2 ++ (l1 ++ fz))) → p ∈ c1 ++ (c2 ++ (l1 ++ (l2 ++ fz))) := fun p hp => by
    simp only [List.mem_append] at hp ⊢
    rcases hp with h | h | h | h | h <;> simp [h]
  exact ⟨wh, xw, xh, fun p hp => xa p (sh p hp), fun p hp => wa p (sh p hp), fun p hp => ha p (sh p hp), n2, n1, m2, m1, .appr d1.l.symm (.appr d2.r.l (.appr d2.l d2.r.r)), .appr d1.r.r.l (.appr d1.r.l d1.r.r.r), .appr d3.l.symm d4, d3.r⟩
theorem SepF.turn {wd hd cx : Addr} {c1 c2 l1 l2 fz : Led} {wo ho oc : Obj} (h : SepF wd hd cx c1 c2 l1 l2 fz) : Sep ((wd, wo) :: c1) ((c2 ++ fz) ++ ((hd, ho) :: (cx, oc) :: (l1 ++ l2))) := by
  obtain ⟨wh, xw, xh, xa, wa, ha, n1, n2, m1, m2, d1, d2, d3, d4⟩ := h
  simp only [allApp] at wa ha xa
  refine ⟨nd_cons.mpr ⟨wa.1, n1⟩, ?_⟩
  have k : Dj ((wd, wo) :: c1) ((c2 ++ fz) ++ ((hd, ho) :: (cx, oc) :: (l1 ++ l2))) := by
    refine .cons ?_ (.appr (.appr d1.l d1.r.r.r) ?_)
    · rw [allApp, allApp]
      refine ⟨⟨wa.2.1, wa.2.2.2.2⟩, ?_⟩
      intro q hq
      rcases List.mem_cons.mp hq with rfl | hq
      · exact wh
      rcases List.mem_cons.mp hq with rfl | hq
      · exact xw
      · exact (allApp.mpr ⟨wa.2.2.1, wa.2.2.2.1⟩) q hq
    · exact Dj.symm (.cons ha.1 (.cons xa.1 (.app d1.r.l.symm d1.r.r.l.symm)))
  exact fun q hq p hp => Ne.symm (k q hq p hp)
theorem SepF.turn0 {wd hd cx : Addr} {c1 c2 l1 l2 fz : Led} {wo : Obj} (h : SepF wd hd cx c1 c2 l1 l2 fz) : Sep ((wd, wo) :: c1) (c2 ++ fz) := by
  have k := h.turn (wo := wo) (ho := wo) (oc := wo)
  exact ⟨k.1, fun q hq p hp => k.2 q hq p (List.mem_append.mpr (.inl hp))⟩
theorem SepF.mupre {wd hd cx : Addr} {c1 c2 l1 l2 fz : Led} {wo : Obj} (h : SepF wd hd cx c1 c2 l1 l2 fz) : (∀ p ∈ ((wd, wo) :: c1) ++ (c2 ++ fz), p.1 ≠ hd) ∧ (∀ p ∈ ((wd, wo) :: c1) ++ (c2 ++ fz), p.1 ≠ cx) ∧ Dj (l1 ++ l2) (((wd, wo) :: c1) ++ (c2 ++ fz)) := by
  obtain ⟨wh, xw, xh, xa, wa, ha, n1, n2, m1, m2, d1, d2, d3, d4⟩ := h
  simp only [allApp] at wa ha xa
  refine ⟨?_, ?_, ?_⟩
  · rw [allApp, allApp]
    refine ⟨?_, ha.2.1, ha.2.2.2.2⟩
    intro q hq
    rcases List.mem_cons.mp hq with rfl | hq
    · exact Ne.symm wh
    · exact ha.1 q hq
  · rw [allApp, allApp]
    refine ⟨?_, xa.2.1, xa.2.2.2.2⟩
    intro q hq
    rcases List.mem_cons.mp hq with rfl | hq
    · exact Ne.symm xw
    · exact xa.1 q hq
  · refine Dj.symm (.app (.cons (allApp.mpr ⟨wa.2.2.1, wa.2.2.2.1⟩) (.appr d1.r.l d1.r.r.l)) (.app (.appr d2.l d2.r.l) (.appr d3.r.symm d4.symm)))
/-- after a turn: new the call's own, fr the datagram's, t the lot's tuple, la the lot -/
theorem SepF.next {wd hd cx la t : Addr} {c1 c1' c2 l1 l2 fz fr new : Led} {wo wo' ho oc lo lo' ot : Obj} (h : SepF wd hd cx c1 c2 l1 l2 fz)
    (hs : Sep ((wd, wo') :: c1') (fr ++ (c2 ++ fz))) (hf : Dj fr (c2 ++ fz)) (hg : Dj new ((((wd, wo') :: c1') ++ (fr ++ (c2 ++ fz)))))
    (hF : FreshOf ((wd, wo) :: c1) (c2 ++ fz) ((hd, ho) :: (cx, oc) :: (l1 ++ l2)) (new ++ (((wd, wo') :: c1') ++ (fr ++ (c2 ++ fz)))))
    (hla : ∀ p ∈ (new ++ (((wd, wo') :: c1') ++ (fr ++ (c2 ++ fz)))) ++ ((hd, ho) :: (cx, oc) :: l2), p.1 ≠ la) (ht : ∀ p ∈ (new ++ (((wd, wo') :: c1') ++ (fr ++ (c2 ++ fz)))) ++ ((hd, ho) :: (cx, oc) :: ((la, lo) :: l2)), p.1 ≠ t) :
    SepF wd hd cx c1' c2 [(la, lo')] l2 ((t, ot) :: (new ++ (fr ++ fz))) := by
  have hmp := h.mupre (wo := wo)
  have e1 : ∀ p ∈ new ++ (((wd, wo') :: c1') ++ (fr ++ (c2 ++ fz))), p.1 ≠ hd := hF (hd, ho) (.head _) hmp.1
  have e0 : ∀ p ∈ new ++ (((wd, wo') :: c1') ++ (fr ++ (c2 ++ fz))), p.1 ≠ cx := hF (cx, oc) (.tail _ (.head _)) hmp.2.1
  have e2 : Dj l2 (new ++ (((wd, wo') :: c1') ++ (fr ++ (c2 ++ fz)))) := fun q hq p hp => Ne.symm (hF q (.tail _ (.tail _ (List.mem_append.mpr (.inr hq)))) (fun x hx => Ne.symm (hmp.2.2 q (List.mem_append.mpr (.inr hq)) x hx)) p hp)
  obtain ⟨wh, xw, xh, xa, wa, ha, n1, n2, m1, m2, d1, d2, d3, d4⟩ := h
  have hs1 := nd_cons.mp hs.1
  have hs2 : Dj ((wd, wo') :: c1') (fr ++ (c2 ++ fz)) := fun q hq p hp => Ne.symm (hs.2 q hq p hp)
  simp only [allApp, List.forall_mem_cons] at wa ha xa hla ht e1 e0
  obtain ⟨⟨la1, ⟨la2, la3⟩, la4, la5, la6⟩, la7, lax, la8⟩ := hla
  obtain ⟨⟨t1, ⟨t2, t3⟩, t4, t5, t6⟩, t7, tx, t8, t9⟩ := ht
  obtain ⟨h1, ⟨h2, h3⟩, h4, h5, h6⟩ := e1
  obtain ⟨x1, ⟨x2, x3⟩, x4, x5, x6⟩ := e0
  have w0 := hs2.head
  simp only [allApp] at w0
  have g1 := hg.l
  have g2 := hg.r
  refine ⟨wh, xw, xh, ?_, ?_, ?_, hs1.2, n2, by simp [Nd], m2, ?_, ?_, ?_, ?_⟩
  · simp only [allApp, List.forall_mem_cons, List.not_mem_nil, false_implies, implies_true, and_true]
    exact ⟨x3, xa.2.1, Ne.symm lax, xa.2.2.2.1, Ne.symm tx, x1, x4, xa.2.2.2.2⟩
  · simp only [allApp, List.forall_mem_cons, List.not_mem_nil, false_implies, implies_true, and_true]
    exact ⟨hs1.1, wa.2.1, Ne.symm la2, wa.2.2.2.1, Ne.symm t2, g1.symm.head, w0.1, wa.2.2.2.2⟩
  · simp only [allApp, List.forall_mem_cons, List.not_mem_nil, false_implies, implies_true, and_true]
    exact ⟨h3, ha.2.1, Ne.symm la7, ha.2.2.2.1, Ne.symm t7, h1, h4, ha.2.2.2.2⟩
  · refine .appr hs2.tail.r.l (.appr (Dj.symm (.cons la3 .nil)) (.appr e2.r.l.symm.tail ?_))
    exact Dj.symm (.cons t3 (.app g1.symm.tail.symm (.app hs2.tail.l.symm hs2.tail.r.r.symm)))
  · refine .appr (Dj.symm (.cons la5 .nil)) (.appr d2.r.l ?_)
    exact Dj.symm (.cons t5 (.app g2.r.l (.app hf.l d2.r.r.symm)))
  · refine .cons ?_ .nil
    simp only [allApp, List.forall_mem_cons]
    exact ⟨la8, Ne.symm t8, la1, la4, la6⟩
  · exact Dj.symm (.cons t9 (.app e2.l.symm (.app e2.r.r.l.symm d4.symm)))


set_option genInjectivity false in
set_option genSizeOf false in
structure Stt where
  wo : Obj
  ho : Obj
  oc : Obj
  xs : List (List Int × Addr × Value)
  hs : List (Int × Value)
  ow : Option Own
  ow2 : Option Own
  lt : Option (Addr × Obj)
  lt2 : Option (Addr × Obj)
  fz : Led
noncomputable def Stt.swap (S : Stt) : Stt := ⟨S.wo, S.ho, S.oc, S.xs, S.hs, S.ow2, S.ow, S.lt2, S.lt, S.fz⟩
noncomputable def Stt.led (P : Params) (wd hd cx : Addr) (S : Stt) : Led := (((wd, S.wo) :: cellsOf P S.ow) ++ (cellsOf P S.ow2 ++ S.fz)) ++ ((hd, S.ho) :: (cx, S.oc) :: (S.lt.toList ++ S.lt2.toList))
noncomputable def LotAt (prog : Program) (w : World) (P : Params) (tl : Led) (D : Dat) (r : List Nat) (hs : List (Int × Value)) : Option (Addr × Obj) → Prop
  | none => r = [] ∧ valueAt hs D.n = none
  | some (la, lo) => (la == sysModules) = false ∧ valueAt hs D.n = some (.ref la) ∧ ∃ kvs, lo.IsDictOf (PySem.intKind prog w) kvs ∧ LotKv P D tl r kvs
structure Stt.Ok (prog : Program) (w : World) (wd hd cx : Addr) (base : Led) (D D2 : Dat) (r r2 : List Nat) (k : Nat) (S : Stt) : Prop where
  cell : ∃ v, S.oc.data = .cell v
  sep : SepF wd hd cx (cellsOf w.params S.ow) (cellsOf w.params S.ow2) S.lt.toList S.lt2.toList S.fz
  base : ∀ p ∈ base, p ∈ S.fz
  ww : WObj prog w S.wo S.xs
  wait : WaitOf S.xs (entOf D2.n S.ow2) D.n S.ow
  h : S.ho.IsDictOf (PySem.intKind prog w) S.hs
  hl : S.hs.length ≤ k
  s1 : SlotAt w.params S.fz D r S.ow
  s2 : SlotAt w.params S.fz D2 r2 S.ow2
  l1 : LotAt prog w w.params S.fz D r S.hs S.lt
  l2 : LotAt prog w w.params S.fz D2 r2 S.hs S.lt2
section
variable {prog : Program} {w : World} {P : Params} {wd hd cx : Addr} {base : Led} {D D2 : Dat} {r r2 : List Nat} {k : Nat} {S : Stt}
theorem waitOf_swap {xs : List (List Int × Addr × Value)} {n n2 : Int} : ∀ {o o2 : Option Own}, WaitOf xs (entOf n2 o2) n o → WaitOf xs (entOf n o) n2 o2
  | none, none, h => h
  | none, some _, h => .inl h
  | some _, none, h => by rcases h with h | h <;> exact h
  | some _, some _, h => by
    rcases h with h | h
    · exact .inr h
    · exact .inl h
theorem Stt.Ok.swap (h : S.Ok prog w wd hd cx base D D2 r r2 k) : S.swap.Ok prog w wd hd cx base D2 D r2 r k :=
  ⟨h.cell, h.sep.swap, h.base, h.ww, waitOf_swap h.wait, h.h, h.hl, h.s2, h.s1, h.l2, h.l1⟩
theorem Stt.swap_led : ∀ p ∈ S.swap.led P wd hd cx, p ∈ S.led P wd hd cx := by
  intro p hp
  unfold Stt.led Stt.swap at hp
  unfold Stt.led
  simp only [List.mem_append, List.mem_cons] at hp ⊢
  rcases hp with ((h | h) | (h | h)) | (h | (h | (h | h))) <;> simp [h]
theorem gr_size {g : Dg} (ok : D.Ok) (h : GR D r g) : 0 ≤ g.size ∧ g.size ≤ 24 := by
  have h1 := ok.lo
  have h2 := ok.hi
  cases h <;> (rename_i hm hG; rw [hm] at h1 h2; rw [hG.size]; omega)
theorem oth_of {fz : Led} (ok2 : D2.Ok) (hne : D2.n ≠ D.n) : ∀ {o : Option Own}, SlotAt P fz D2 r2 o → ∃ zo, Oth P (cellsOf P o ++ fz) D.n (entOf D2.n o) zo ∧ 0 ≤ zo ∧ zo ≤ 100
  | none, _ => ⟨0, ⟨⟨[], .nil, (fun z hz => by cases hz), rfl⟩, by simp [entOf], fun y hy => by cases hy⟩, by decide, by decide⟩
  | some o, ⟨hO, hg⟩ => by
    obtain ⟨z0, z1⟩ := gr_size ok2 hg
    obtain ⟨x1, x2, x3, x4, hk⟩ := hO.key
    have sub : ∀ p ∈ fz, p ∈ cellsOf P (some o) ++ fz := fun p hp => List.mem_append.mpr (.inr hp)
    refine ⟨o.g.size, ⟨⟨[o.g.size], .cons (sub _ hk) (sub _ hO.dg.di) (List.mem_append.mpr (.inl (.head _))) .nil, ?_, by simp⟩, by simp [entOf], ?_⟩, z0, by omega⟩
    · intro z hz; rw [List.mem_singleton.mp hz]; exact z0
    · intro y hy
      rw [List.mem_singleton.mp hy]
      intro e
      have e2 : D2.n = D.n := by
        have := congrArg (fun l : List Int => l[3]?) (show kyOf D2.n = kyOf D.n from e)
        simpa [kyOf] using this
      exact hne e2
theorem LotAt.mono {tl tl' : Led} {hs : List (Int × Value)} (hsub : ∀ p ∈ tl, p ∈ tl') : ∀ {l : Option (Addr × Obj)}, LotAt prog w P tl D r hs l → LotAt prog w P tl' D r hs l
  | none, h => h
  | some (_, _), ⟨h0, h, kvs, a, b⟩ => ⟨h0, h, kvs, a, b.mono hsub⟩
theorem LotAt.heard {tl : Led} {hs hs' : List (Int × Value)} (e : valueAt hs' D.n = valueAt hs D.n) : ∀ {l : Option (Addr × Obj)}, LotAt prog w P tl D r hs l → LotAt prog w P tl D r hs' l
  | none, h => ⟨h.1, e ▸ h.2⟩
  | some (_, _), ⟨h0, h, x⟩ => ⟨h0, e ▸ h, x⟩
theorem SlotAt.mono {tl tl' : Led} (hsub : ∀ p ∈ tl, p ∈ tl') : ∀ {o : Option Own}, SlotAt P tl D r o → SlotAt P tl' D r o
  | none, h => h
  | some _, ⟨a, b⟩ => ⟨a.mono hsub, b⟩
/-- the state behind a turn -/
theorem Stt.next {i : Nat} {post : Led} {la t hh : Addr} {ho' oc' lo lo' : Obj} {cv : Option Value} {hs' : List (Int × Value)} {kvs : List (Int × Value)} {tb : Tok}
    (h : S.Ok prog w wd hd cx base D D2 r r2 k) (g : Grows (PostR prog w wd D (entOf D2.n S.ow2) (cellsOf w.params S.ow2 ++ S.fz) S.fz (r ++ [i])) post)
    (hF : FreshOf ((wd, S.wo) :: cellsOf w.params S.ow) (cellsOf w.params S.ow2 ++ S.fz) ((hd, S.ho) :: (cx, S.oc) :: (S.lt.toList ++ S.lt2.toList)) post)
    (hla : ∀ p ∈ post ++ ((hd, S.ho) :: (cx, S.oc) :: S.lt2.toList), p.1 ≠ la) (ht : ∀ p ∈ post ++ ((hd, S.ho) :: (cx, S.oc) :: ((la, lo) :: S.lt2.toList)), p.1 ≠ t) (hcv : oc'.data = .cell cv) (hsm : (la == sysModules) = false)
    (hho : ho'.IsDictOf (PySem.intKind prog w) hs') (hhl : hs'.length ≤ k + 1) (hv : valueAt hs' D.n = some (.ref la)) (hv2 : valueAt hs' D2.n = valueAt S.hs D2.n)
    (hlo : lo'.IsDictOf (PySem.intKind prog w) (kvs ++ [(offOf i, .ref t)])) (hkv : LotKv w.params D S.fz r kvs) (hH : HdAt w.params S.fz hh (D.hd i)) :
    ∃ S' : Stt, S'.Ok prog w wd hd cx base D D2 (r ++ [i]) r2 (k + 1) ∧ ∀ p ∈ S'.led w.params wd hd cx, p ∈ (hd, ho') :: (cx, oc') :: (la, lo') :: (t, lotTup hh (D.b i) tb) :: (post ++ S.lt2.toList) := by
  obtain ⟨new, p0, rfl, hP, hnew⟩ := g
  unfold PostR at hP
  have lot : ∀ fr : Led, LotAt prog w w.params ((t, lotTup hh (D.b i) tb) :: (new ++ (fr ++ S.fz))) D (r ++ [i]) hs' (some (la, lo')) := fun fr => by
    refine ⟨hsm, hv, _, hlo, LotKv.snoc (hh := hh) (tb := tb) (.head _) (hH.mono fun p hp => by first | kba_same | simp [hp]) (hkv.mono fun p hp => by first | kba_same | simp [hp])⟩
  by_cases hl : (r ++ [i]).length ≤ D.many
  · rw [if_pos hl] at hP
    obtain ⟨gd, hgr, wo', xs', o, fr, rfl, hW, hI, hO, hg, hsep, hfr⟩ := hP
    have sub : ∀ p ∈ S.fz, p ∈ (t, lotTup hh (D.b i) tb) :: (new ++ (fr ++ S.fz)) := fun p hp => by first | kba_same | simp [hp]
    refine ⟨⟨wo', ho', oc', xs', hs', some o, S.ow2, some (la, lo'), S.lt2, (t, lotTup hh (D.b i) tb) :: (new ++ (fr ++ S.fz))⟩, ⟨⟨cv, hcv⟩, ?_, fun p hp => sub p (h.base p hp), hW, hI, hho, hhl, ?_, h.s2.mono sub, lot fr, (h.l2.mono sub).heard hv2⟩, ?_⟩
    · exact h.sep.next hsep hfr hnew hF hla ht
    · have hO' : OwnAt w.params ((t, lotTup hh (D.b i) tb) :: (new ++ (fr ++ S.fz))) D.n o := by clear sub; exact hO.mono fun p hp => by first | exact (by kcf_all : ∀ p ∈ _, p ∈ _) _ hp | (rcases List.mem_append.mp hp with h | h <;> simp [h])
      exact ⟨hO', hg ▸ hgr⟩
    · dsimp only [Stt.led, cellsOf, Option.toList]
      clear sub; kcf_all
  · rw [if_neg hl] at hP
    obtain ⟨wo', fr, rfl, hW, hsep, hfr⟩ := hP
    have sub : ∀ p ∈ S.fz, p ∈ (t, lotTup hh (D.b i) tb) :: (new ++ (fr ++ S.fz)) := fun p hp => by first | kba_same | simp [hp]
    refine ⟨⟨wo', ho', oc', _, hs', none, S.ow2, some (la, lo'), S.lt2, (t, lotTup hh (D.b i) tb) :: (new ++ (fr ++ S.fz))⟩, ⟨⟨cv, hcv⟩, ?_, fun p hp => sub p (h.base p hp), hW, rfl, hho, hhl, .inr (by omega), h.s2.mono sub, lot fr, (h.l2.mono sub).heard hv2⟩, ?_⟩
    · exact h.sep.next (c1' := []) hsep hfr hnew hF hla ht
    · dsimp only [Stt.led, cellsOf, Option.toList]
      clear sub; kcf_all
end


section
variable {prog : Program} {w : World} {A : Around} {E : Value → Shared → Prop} {s : Shared} {h₀ : Heap} {L d : Addr} {m : Str → Option Value} {news : Led} {g : Obj → Led} {o : Obj} {kvs : List (Int × Value)} {k : Int} {t : Tok} {v dflt : Value}
theorem sd_new {Q : Value → Shared → Prop} (F : Fr h₀ L s.heap m) (N : News h₀ L s.heap news) (U : UpdF d o news g) (hd : o.IsDictOf (PySem.intKind prog w) kvs) (lo : (d == sysModules) = false) (hl : valueAt kvs k = none) (hsz : kvs.length ≤ 16777216)
    (h : ∀ h' o', Fr h₀ L h' m → News h₀ L h' (g o') → o'.IsDictOf (PySem.intKind prog w) (stored kvs k dflt) → Q dflt { s with heap := h', toks := s.toks + 1 }) :
    wpAny (model prog w) A (call (.builtin "dict.setdefault") [.ref d, .int k t, dflt]) Q E s := by
  obtain ⟨pre, post, rfl, hg, x1, x2⟩ := U.split
  have hm := N (d, o) (List.mem_append_right _ (.head _))
  have hD : s.heap.DictOf (PySem.intKind prog w) d kvs := Heap.dictOf_iff.mpr ⟨o, hm.1, hd⟩
  refine call_meetsIn PySem.F.slot_dict_setdefault hD.typeIs PySem.F.entry_dict_setdefault (PySem.F.args_dict_setdefault_3 _ _ _) (kt_meets_setdefault (PySem.intKind prog w) (k := k) d (intKind_is _ _ _ _) lo dflt)
    ⟨kvs, hD, (by rw [sizeLine_eq]; exact hsz), (fun v hv' => by rw [hl] at hv'; cases hv'), fun _ h' hmm hs => ?_⟩
  obtain ⟨o', ho', hd'⟩ := Heap.dictOf_iff.mp hmm
  exact h h' o' (F.change hs hm.2.1 hm.2.2) (hg o' ▸ N.setIn x1 x2 hs ho') hd'
theorem sd_old {Q : Value → Shared → Prop} (N : News h₀ L s.heap news) (hp : (d, o) ∈ news) (hd : o.IsDictOf (PySem.intKind prog w) kvs) (lo : (d == sysModules) = false) (hl : valueAt kvs k = some v) (hsz : kvs.length ≤ 16777216) (h : Q v { s with toks := s.toks + 1 }) :
    wpAny (model prog w) A (call (.builtin "dict.setdefault") [.ref d, .int k t, dflt]) Q E s := by
  have hD := kda_dict N hp hd
  exact call_meetsIn PySem.F.slot_dict_setdefault hD.typeIs PySem.F.entry_dict_setdefault (PySem.F.args_dict_setdefault_3 _ _ _) (kt_meets_setdefault (PySem.intKind prog w) (k := k) d (intKind_is _ _ _ _) lo dflt)
    ⟨kvs, hD, (by rw [sizeLine_eq]; exact hsz), (fun v' hv' => by rw [hl] at hv'; cases hv'; exact h), fun hn => by rw [hl] at hn; cases hn⟩
end
structure TM (prog : Program) (w : World) (wd hd cx : Addr) (base : Led) (D : Bool → Dat) (rows : List Row) (k : Nat) (c : Bool) (i : Nat) (ta : Bool) (S : Stt) (own : Led) : Prop where
  row : rows[k]? = some (c, i, ta)
  ok : S.Ok prog w wd hd cx base (D c) (D !c) (rcv (rows.take k) c) (rcv (rows.take k) (!c)) k
  rok : RowsOk D rows
  off : OwnOff own ((S.led w.params wd hd cx).map (·.1))
  ne : (D c).n ≠ (D !c).n
noncomputable def JR (prog : Program) (w : World) (wd hd cx : Addr) (base : Led) (D : Bool → Dat) (rows : List Row) (stored : List Str) (m₀ : Str → Option Value) (k : Nat) (m : Str → Option Value) (nx : Led) : Prop :=
  ∃ (u : Str → Option Value) (S : Stt), m = stoM stored u m₀ ∧ nx = S.led w.params wd hd cx ∧ S.Ok prog w wd hd cx base (D false) (D true) (rcv (rows.take k) false) (rcv (rows.take k) true) k
section
variable {w : World} {A : Around} {E : Value → Shared → Prop} {s : Shared} {env : Env} {h₀ : Heap} {target : Expr} {body : List Stmt} {Q : Flow → Shared → Prop}
theorem base_led {prog : Program} {wd hd cx : Addr} {base : Led} {D D2 : Dat} {r r2 : List Nat} {k : Nat} {S : Stt} (h : S.Ok prog w wd hd cx base D D2 r r2 k) : ∀ p ∈ base, p ∈ S.led w.params wd hd cx := fun p hp => by
  unfold Stt.led
  have := h.base p hp
  simp [this]
set_option maxHeartbeats 1000000 in
theorem right_loop {KK : Params → Frag} (stored : List Str) {m₀ : Str → Option Value} {news base : Led} {D : Bool → Dat} {rows : List Row} {vs : List Value} {nn : Nat} {rl lay ld wd hd cx : Addr} {LO : Obj} {S0 : Stt}
    (hh : A.handled = none) (F : Fr h₀ env.locals s.heap m₀) (N : News h₀ env.locals s.heap news) (hS0 : S0.Ok Challenge.rw_xw0340_01.row.prog w wd hd cx base (D false) (D true) [] [] 0) (hled : ∀ p ∈ S0.led w.params wd hd cx, p ∈ news) (hl : (rl, listOf vs.toArray nn) ∈ base)
    (hR : RowsAt w.params base D vs rows) (rok : RowsOk D rows) (dok : ∀ c, (D c).Ok) (hne : (D false).n ≠ (D true).n) (ml : (lay, instObj 349 ld) ∈ base) (mld : (ld, LO) ∈ base) (hlen : rows.length ≤ 100)
    (hdel : ∀ (c : Bool) (i : Nat) (ta : Bool) (hh : Addr) (r : List Nat) (S : Stt) (zo : Int), HdAt w.params S.fz hh ((D c).hd i) → i ≤ (D c).many → i ∉ r → r.length ≤ (D c).many → (∀ p ∈ base, p ∈ S.fz) → WObj Challenge.rw_xw0340_01.row.prog w S.wo S.xs →
      Oth w.params (cellsOf w.params S.ow2 ++ S.fz) (D c).n (entOf (D !c).n S.ow2) zo → 0 ≤ zo → zo ≤ 100 → Sep ((wd, S.wo) :: cellsOf w.params S.ow) (cellsOf w.params S.ow2 ++ S.fz) → SlotAt w.params S.fz (D c) r S.ow → WaitOf S.xs (entOf (D !c).n S.ow2) (D c).n S.ow →
      DelC KK w lay hh ((D c).b i) ta 1 ((wd, S.wo) :: cellsOf w.params S.ow) (cellsOf w.params S.ow2 ++ S.fz) (outOf (D c) (r ++ [i])) (Grows (PostR Challenge.rw_xw0340_01.row.prog w wd (D c) (entOf (D !c).n S.ow2) (cellsOf w.params S.ow2 ++ S.fz) S.fz (r ++ [i]))))
    (turn : ∀ (k : Nat) (c : Bool) (i : Nat) (ta : Bool) (t hh : Addr) (tn tb : Tok) (u : Str → Option Value) (S : Stt) (own : Led) (h : Heap) (tk : Nat),
      TM Challenge.rw_xw0340_01.row.prog w wd hd cx base D rows k c i ta S own → k < 100 → (D c).Ok → HdAt w.params S.fz hh ((D c).hd i) →
      DelC KK w lay hh ((D c).b i) ta 1 ((wd, S.wo) :: cellsOf w.params S.ow) (cellsOf w.params S.ow2 ++ S.fz) (outOf (D c) (rcv (rows.take k) c ++ [i])) (Grows (PostR Challenge.rw_xw0340_01.row.prog w wd (D c) (entOf (D !c).n S.ow2) (cellsOf w.params S.ow2 ++ S.fz) S.fz (rcv (rows.take k) c ++ [i]))) →
      Fr h₀ env.locals h (stoM stored u m₀) → News h₀ env.locals h ((t, ({ cls := .type "tuple", data := .seq #[Value.int (D c).n tn, Value.ref hh, Value.bytes ((D c).b i) tb, Value.bool ta] } : Obj)) :: (lay, instObj 349 ld) :: (ld, LO) :: (S.led w.params wd hd cx ++ own)) →
      wpAny (model Challenge.rw_xw0340_01.row.prog w) A (assign target env (.ref t)) (fun _ s₃ => wpAny (model Challenge.rw_xw0340_01.row.prog w) A (execs body env) (TurnPost h₀ env.locals (JR Challenge.rw_xw0340_01.row.prog w wd hd cx base D rows stored m₀ (k + 1)) own { s with heap := h, toks := tk } Q) E s₃) E { s with heap := h, toks := tk })
    (done : ∀ (u : Str → Option Value) (S : Stt) (h : Heap) (tk : Nat), S.Ok Challenge.rw_xw0340_01.row.prog w wd hd cx base (D false) (D true) (rcv rows false) (rcv rows true) rows.length → Fr h₀ env.locals h (stoM stored u m₀) → News h₀ env.locals h (S.led w.params wd hd cx) → Q .next { s with heap := h, toks := tk }) :
    wpAny (model Challenge.rw_xw0340_01.row.prog w) A (pyIter (.ref rl)) (fun it s₂ => TurnsAt Challenge.rw_xw0340_01.row.prog w A h₀ env target body Q E it s₂) E s := by
  refine turns_list (news := S0.led w.params wd hd cx) (JR Challenge.rw_xw0340_01.row.prog w wd hd cx base D rows stored m₀) hh (base_led hS0 _ hl) ?_ F (newsub N hled) ⟨m₀, S0, ?_, rfl, hS0⟩ ?_ ?_
  · rintro k m nx ⟨u, S, rfl, rfl, ok⟩
    exact base_led ok _ hl
  · funext y; simp only [stoM]; split <;> rfl
  · rintro k v m₁ nx h tk own hv ⟨u, S, rfl, rfl, ok⟩ hoff F₁ N₁
    obtain ⟨t, hh', tn, tb, c, i, ta, rfl, hm, hH, hi⟩ := hR.get hv
    have hk : k < rows.length := (List.getElem?_eq_some_iff.mp hi).1
    obtain ⟨e1, e2, hle, hni, hrl, hall⟩ := rcv_take rok hi
    dsimp only at e1 e2 hle hni hrl hall
    have go : ∀ S' : Stt, S'.Ok Challenge.rw_xw0340_01.row.prog w wd hd cx base (D c) (D !c) (rcv (rows.take k) c) (rcv (rows.take k) (!c)) k → (∀ p ∈ S'.led w.params wd hd cx, p ∈ S.led w.params wd hd cx) →
        wpAny (model Challenge.rw_xw0340_01.row.prog w) A (assign target env (.ref t)) (fun _ s₃ => wpAny (model Challenge.rw_xw0340_01.row.prog w) A (execs body env) (TurnPost h₀ env.locals (JR Challenge.rw_xw0340_01.row.prog w wd hd cx base D rows stored m₀ (k + 1)) own { s with heap := h, toks := tk } Q) E s₃) E { s with heap := h, toks := tk } := by
      intro S' ok' hsub
      have hn2 : (D !c).n ≠ (D c).n := by cases c <;> first | exact hne | exact Ne.symm hne
      obtain ⟨zo, hO, hz1, hz2⟩ := oth_of (D := D c) (dok (!c)) hn2 ok'.s2
      have hH' : HdAt w.params S'.fz hh' ((D c).hd i) := hH.mono ok'.base
      have hd' := hdel c i ta hh' _ S' zo hH' hle hni hrl ok'.base ok'.ww hO hz1 hz2 ok'.sep.turn0 ok'.s1 ok'.wait
      refine turn k c i ta t hh' tn tb u S' own h tk ⟨hi, ok', rok, ?_, Ne.symm hn2⟩ (Nat.lt_of_lt_of_le hk hlen) (dok c) hH' hd' F₁ ?_
      · intro q hq b hb
        obtain ⟨z, hz, rfl⟩ := List.mem_map.mp hb
        exact hoff q hq _ (List.mem_map_of_mem (hsub z hz))
      · have hb := base_led ok'
        exact newsC N₁ (List.mem_append_left _ (hsub _ (hb _ hm))) (newsC N₁ (List.mem_append_left _ (hsub _ (hb _ ml))) (newsC N₁ (List.mem_append_left _ (hsub _ (hb _ mld))) fun q hq => (List.mem_append.mp hq).elim (fun h => N₁ _ (List.mem_append_left _ (hsub _ h))) fun h => N₁ _ (List.mem_append_right _ h)))
    cases c with
    | false => exact go S ok fun p hp => hp
    | true => exact go S.swap ok.swap Stt.swap_led
  · rintro m₁ nx h tk ⟨u, S, rfl, rfl, ok⟩ F₁ N₁
    rw [hR.length] at ok
    rw [List.take_length] at ok
    exact done u S h tk ok F₁ N₁
end


theorem la_1 {P0 : Prop} {D : Addr} {a : List (Addr × Obj)} (h : P0 ∧ AllLt D a) : AllLt D a := h.2
theorem la_4 {P0 P1 P2 P3 : Prop} {D : Addr} {a : List (Addr × Obj)} (h : P0 ∧ P1 ∧ P2 ∧ P3 ∧ AllLt D a) : AllLt D a := h.2.2.2.2
theorem la_5 {P0 P1 P2 P3 P4 : Prop} {D : Addr} {a : List (Addr × Obj)} (h : P0 ∧ P1 ∧ P2 ∧ P3 ∧ P4 ∧ AllLt D a) : AllLt D a := h.2.2.2.2.2
theorem la_6 {P0 P1 P2 P3 P4 P5 : Prop} {D : Addr} {a : List (Addr × Obj)} (h : P0 ∧ P1 ∧ P2 ∧ P3 ∧ P4 ∧ P5 ∧ AllLt D a) : AllLt D a := h.2.2.2.2.2.2
theorem la_7 {P0 P1 P2 P3 P4 P5 P6 : Prop} {D : Addr} {a : List (Addr × Obj)} (h : P0 ∧ P1 ∧ P2 ∧ P3 ∧ P4 ∧ P5 ∧ P6 ∧ AllLt D a) : AllLt D a := h.2.2.2.2.2.2.2
theorem la_8 {P0 P1 P2 P3 P4 P5 P6 P7 : Prop} {D : Addr} {a : List (Addr × Obj)} (h : P0 ∧ P1 ∧ P2 ∧ P3 ∧ P4 ∧ P5 ∧ P6 ∧ P7 ∧ AllLt D a) : AllLt D a := h.2.2.2.2.2.2.2.2
theorem la_9 {P0 P1 P2 P3 P4 P5 P6 P7 P8 : Prop} {D : Addr} {a : List (Addr × Obj)} (h : P0 ∧ P1 ∧ P2 ∧ P3 ∧ P4 ∧ P5 ∧ P6 ∧ P7 ∧ P8 ∧ AllLt D a) : AllLt D a := h.2.2.2.2.2.2.2.2.2
theorem la_11 {P0 P1 P2 P3 P4 P5 P6 P7 P8 P9 P10 : Prop} {D : Addr} {a : List (Addr × Obj)} (h : P0 ∧ P1 ∧ P2 ∧ P3 ∧ P4 ∧ P5 ∧ P6 ∧ P7 ∧ P8 ∧ P9 ∧ P10 ∧ AllLt D a) : AllLt D a := h.2.2.2.2.2.2.2.2.2.2.2
theorem la_12 {P0 P1 P2 P3 P4 P5 P6 P7 P8 P9 P10 P11 : Prop} {D : Addr} {a : List (Addr × Obj)} (h : P0 ∧ P1 ∧ P2 ∧ P3 ∧ P4 ∧ P5 ∧ P6 ∧ P7 ∧ P8 ∧ P9 ∧ P10 ∧ P11 ∧ AllLt D a) : AllLt D a := h.2.2.2.2.2.2.2.2.2.2.2.2
theorem la_13 {P0 P1 P2 P3 P4 P5 P6 P7 P8 P9 P10 P11 P12 : Prop} {D : Addr} {a : List (Addr × Obj)} (h : P0 ∧ P1 ∧ P2 ∧ P3 ∧ P4 ∧ P5 ∧ P6 ∧ P7 ∧ P8 ∧ P9 ∧ P10 ∧ P11 ∧ P12 ∧ AllLt D a) : AllLt D a := h.2.2.2.2.2.2.2.2.2.2.2.2.2
section
variable {w : World} {wd hd cx : Addr} {base : Led} {D : Bool → Dat} {rows : List Row} {k : Nat} {c : Bool} {i : Nat} {ta : Bool} {S : Stt} {own : Led}
theorem FreshOf.less {mu pre F F' post : Led} (h : FreshOf mu pre F post) (hs : ∀ p ∈ F', p ∈ F) : FreshOf mu pre F' post := fun q hq => h q (hs q hq)
theorem led_mupre {P : Params} : ∀ p ∈ ((wd, S.wo) :: cellsOf P S.ow) ++ (cellsOf P S.ow2 ++ S.fz), p ∈ S.led P wd hd cx := fun p hp => by
  unfold Stt.led; exact List.mem_append.mpr (.inl hp)
theorem own_fresh (tm : TM Challenge.rw_xw0340_01.row.prog w wd hd cx base D rows k c i ta S own) {q : Addr × Obj} (hq : q ∈ own) : ∀ p ∈ ((wd, S.wo) :: cellsOf w.params S.ow) ++ (cellsOf w.params S.ow2 ++ S.fz), p.1 ≠ q.1 := fun p hp =>
  Ne.symm (tm.off q hq _ (List.mem_map_of_mem (led_mupre p hp)))
theorem lots_own_hd (tm : TM Challenge.rw_xw0340_01.row.prog w wd hd cx base D rows k c i ta S own) : ∀ p ∈ S.lt2.toList ++ own, p.1 ≠ hd := fun p hp => by
  rcases List.mem_append.mp hp with hp | hp
  · exact tm.ok.sep.ha p (by simp [hp])
  · exact tm.off p hp hd (List.mem_map.mpr ⟨(hd, S.ho), by unfold Stt.led; simp, rfl⟩)
theorem lots_own_cx (tm : TM Challenge.rw_xw0340_01.row.prog w wd hd cx base D rows k c i ta S own) : ∀ p ∈ S.lt2.toList ++ own, p.1 ≠ cx := fun p hp => by
  rcases List.mem_append.mp hp with hp | hp
  · exact tm.ok.sep.xa p (by simp [hp])
  · exact tm.off p hp cx (List.mem_map.mpr ⟨(cx, S.oc), by unfold Stt.led; simp, rfl⟩)
theorem lots_own_la (tm : TM Challenge.rw_xw0340_01.row.prog w wd hd cx base D rows k c i ta S own) {la : Addr} {lo : Obj} (hlt : S.lt = some (la, lo)) : ∀ p ∈ S.lt2.toList ++ own, p.1 ≠ la := fun p hp => by
  have hm : (la, lo) ∈ S.lt.toList := by rw [hlt]; simp
  rcases List.mem_append.mp hp with hp | hp
  · exact Ne.symm (tm.ok.sep.d3 (la, lo) hm p (by simp [hp]))
  · exact tm.off p hp la (List.mem_map.mpr ⟨(la, lo), by unfold Stt.led; simp [hlt], rfl⟩)
theorem la_hd (tm : TM Challenge.rw_xw0340_01.row.prog w wd hd cx base D rows k c i ta S own) {la : Addr} {lo : Obj} (hlt : S.lt = some (la, lo)) : la ≠ hd := by
  have hm : (la, lo) ∈ S.lt.toList := by rw [hlt]; simp
  exact tm.ok.sep.ha (la, lo) (by simp [hm])
theorem la_cx (tm : TM Challenge.rw_xw0340_01.row.prog w wd hd cx base D rows k c i ta S own) {la : Addr} {lo : Obj} (hlt : S.lt = some (la, lo)) : la ≠ cx := by
  have hm : (la, lo) ∈ S.lt.toList := by rw [hlt]; simp
  exact tm.ok.sep.xa (la, lo) (by simp [hm])
theorem right_end {s₁ : Shared} {h₀ h' : Heap} {L : Addr} {m₀ m' : Str → Option Value} {stored : List Str} {tk : Nat} {news' post : Led} {la t hh : Addr} {ho' oc' lo lo' : Obj} {cv : Option Value} {hs' : List (Int × Value)} {kvs : List (Int × Value)} {tb : Tok}
    (tm : TM Challenge.rw_xw0340_01.row.prog w wd hd cx base D rows k c i ta S own) (g : Grows (PostR Challenge.rw_xw0340_01.row.prog w wd (D c) (entOf (D !c).n S.ow2) (cellsOf w.params S.ow2 ++ S.fz) S.fz (rcv (rows.take k) c ++ [i])) post) (hF : FreshOf ((wd, S.wo) :: cellsOf w.params S.ow) (cellsOf w.params S.ow2 ++ S.fz) ((hd, S.ho) :: (cx, S.oc) :: (S.lt.toList ++ (S.lt2.toList ++ own))) post)
    (hla : ∀ p ∈ post ++ ((hd, S.ho) :: (cx, S.oc) :: (S.lt2.toList ++ own)), p.1 ≠ la) (ht : ∀ p ∈ post ++ ((hd, S.ho) :: (cx, S.oc) :: ((la, lo) :: (S.lt2.toList ++ own))), p.1 ≠ t) (hcv : oc'.data = .cell cv) (hsm : (la == sysModules) = false)
    (hho : ho'.IsDictOf (PySem.intKind Challenge.rw_xw0340_01.row.prog w) hs') (hhl : hs'.length ≤ k + 1) (hv : valueAt hs' (D c).n = some (.ref la)) (hv2 : valueAt hs' (D !c).n = valueAt S.hs (D !c).n)
    (hlo : lo'.IsDictOf (PySem.intKind Challenge.rw_xw0340_01.row.prog w) (kvs ++ [(offOf i, .ref t)])) (hkv : LotKv w.params (D c) S.fz (rcv (rows.take k) c) kvs) (hH : HdAt w.params S.fz hh ((D c).hd i))
    (F : Fr h₀ L h' m') (N : News h₀ L h' news') (hsub : ∀ p ∈ (hd, ho') :: (cx, oc') :: (la, lo') :: (t, lotTup hh ((D c).b i) tb) :: (post ++ (S.lt2.toList ++ own)), p ∈ news')
    (hm : ∀ z, stored.contains z = false → m' z = m₀ z) :
    TurnEnd h₀ L (JR Challenge.rw_xw0340_01.row.prog w wd hd cx base D rows stored m₀ (k + 1)) own s₁ { s₁ with heap := h', toks := tk } := by
  obtain ⟨e1, e2, -, -, -, -⟩ := rcv_take tm.rok tm.row
  dsimp only at e1 e2
  obtain ⟨S', ok', hled⟩ := Stt.next (tb := tb) (lo := lo) tm.ok g (hF.less fun p hp => by
    first | exact (by kcf_all : ∀ p ∈ _, p ∈ _) _ hp | (simp only [List.mem_cons, List.mem_append] at hp ⊢; rcases hp with h | h | h | h <;> simp [h])) (fun p hp => hla p (by
    first | exact (by kcf_all : ∀ p ∈ _, p ∈ _) _ hp | (simp only [List.mem_cons, List.mem_append] at hp ⊢; rcases hp with h | h | h | h <;> simp [h]))) (fun p hp => ht p (by
    first | exact (by kcf_all : ∀ p ∈ _, p ∈ _) _ hp | (simp only [List.mem_cons, List.mem_append] at hp ⊢; rcases hp with h | h | h | h | h <;> simp [h]))) hcv hsm hho hhl hv hv2 hlo hkv hH
  have hown : OwnOff own ((S'.led w.params wd hd cx).map (·.1)) := by
    intro q hq b hb
    obtain ⟨z, hz, rfl⟩ := List.mem_map.mp hb
    have all : ∀ z ∈ (hd, ho') :: (cx, oc') :: (la, lo') :: (t, lotTup hh ((D c).b i) tb) :: (post ++ S.lt2.toList), q.1 ≠ z.1 := List.forall_mem_cons.mpr ⟨lots_own_hd tm q (List.mem_append_right _ hq), List.forall_mem_cons.mpr ⟨lots_own_cx tm q (List.mem_append_right _ hq), List.forall_mem_cons.mpr ⟨hla q (by kba_same), List.forall_mem_cons.mpr ⟨ht q (by kba_same), List.forall_mem_append.mpr ⟨fun z h1 => Ne.symm (hF q (by kba_same) (own_fresh tm hq) z h1), fun z h1 => tm.off q hq _ (List.mem_map_of_mem (by unfold Stt.led; kba_same))⟩⟩⟩⟩⟩
    exact all z (hled z hz)
  have hn : ∀ p ∈ S'.led w.params wd hd cx, p ∈ news' := fun p hp => hsub p ((by kcf_all : ∀ p ∈ _, p ∈ _) p (hled p hp))
  have ho : ∀ p ∈ own, p ∈ news' := fun p hp => hsub p (by simp [hp])
  have hmm : m' = stoM stored m' m₀ := by
    funext y
    simp only [stoM]
    split
    · rfl
    · exact hm y (Bool.eq_false_iff.mpr ‹¬ _›)
  cases c with
  | false => exact TurnEnd.intro F N ⟨m', S', hmm, rfl, by rw [e1, show rcv (List.take (k + 1) rows) true = _ from e2]; exact ok'⟩ hown hn ho
  | true =>
    refine TurnEnd.intro (nx := S'.swap.led w.params wd hd cx) F N ⟨m', S'.swap, hmm, rfl, by rw [e1, show rcv (List.take (k + 1) rows) false = _ from e2]; exact ok'.swap⟩ ?_ (fun p hp => hn p (Stt.swap_led p hp)) ho
    intro q hq b hb
    obtain ⟨z, hz, rfl⟩ := List.mem_map.mp hb
    exact hown q hq _ (List.mem_map_of_mem (Stt.swap_led z hz))
theorem postR_sub {prog : Program} {D : Dat} {ys : List (List Int × Addr × Value)} {pre kn : Led} {r : List Nat} {post : Led} (g : Grows (PostR prog w wd D ys pre kn r) post) : ∀ p ∈ pre, p ∈ post := by
  obtain ⟨new, p0, rfl, hP, -⟩ := g
  intro p hp
  unfold PostR at hP
  split at hP
  · obtain ⟨g, -, wo', xs', o, fr, rfl, -⟩ := hP
    simp [hp]
  · obtain ⟨wo', fr, rfl, -⟩ := hP
    simp [hp]
end


theorem dlt_sep {w : World} {wd hd cx : Addr} {bs : Led} {D : Bool → Dat} {rows : List Row} {k : Nat} {c : Bool} {i : Nat} {ta : Bool} {S : Stt} {own : Led} (tm : TM Challenge.rw_xw0340_01.row.prog w wd hd cx bs D rows k c i ta S own) : Sep ((wd, S.wo) :: cellsOf w.params S.ow) ((cellsOf w.params S.ow2 ++ S.fz) ++ ((hd, S.ho) :: (cx, S.oc) :: (S.lt.toList ++ (S.lt2.toList ++ own)))) :=
  have hsep := tm.ok.sep.turn (wo := S.wo) (ho := S.ho) (oc := S.oc)
  have hs : ∀ p ∈ (cellsOf w.params S.ow2 ++ S.fz) ++ ((hd, S.ho) :: (cx, S.oc) :: (S.lt.toList ++ (S.lt2.toList ++ own))), p ∈ ((cellsOf w.params S.ow2 ++ S.fz) ++ ((hd, S.ho) :: (cx, S.oc) :: (S.lt.toList ++ S.lt2.toList))) ++ own := by kcf_all
  ⟨hsep.1, fun q hq p hp => (List.mem_append.mp (hs p hp)).elim (hsep.2 q hq p) fun h => Ne.symm (own_fresh tm h q (List.mem_append_left _ hq))⟩
theorem dlt_sub {P : Params} {wd hd cx : Addr} {S : Stt} {own : Led} : ∀ p ∈ ((wd, S.wo) :: cellsOf P S.ow) ++ ((cellsOf P S.ow2 ++ S.fz) ++ ((hd, S.ho) :: (cx, S.oc) :: (S.lt.toList ++ (S.lt2.toList ++ own)))), p ∈ S.led P wd hd cx ++ own := by
  unfold Stt.led
  kcf_all
theorem dlt_tl {post lt g : Led} {a b : Addr × Obj} : ∀ q ∈ post ++ g, q ∈ post ++ (a :: b :: (lt ++ g)) := by kcf_all
theorem dlt_n0 {pp : Program} {loose : List Str} {mean : ExcName → Option Value} {mg mb : Str → Option Value} {dp un : Nat} {gd : Option (List Code)} {cn : Str} {cs : Scope} {a : Addr} {ccd : Value} {cl : List (Str × Addr)} {outer : List Env} {A₀ : Around} {base h₀ : Heap} {L : Addr} {m : Str → Option Value} {news : List (Addr × Obj)} {s : Shared} {Q E : Value → Shared → Prop} {KK : Params → Frag} {w : World} {wd hd cx lay hh hha : Addr} {oh : Obj} {bs : Led} {D : Bool → Dat} {rows : List Row} {k : Nat} {c : Bool} {i : Nat} {ta : Bool} {S : Stt} {own : Led} {tp tn : Tok}
    (tm : TM Challenge.rw_xw0340_01.row.prog w wd hd cx bs D rows k c i ta S own) (hlt : S.lt = none) (m1 : (hh, instObj 74 hha) ∈ S.fz) (m2 : (hha, oh) ∈ S.fz) (hc : DelC KK w lay hh ((D c).b i) ta 1 ((wd, S.wo) :: cellsOf w.params S.ow) (cellsOf w.params S.ow2 ++ S.fz) none (Grows (PostR Challenge.rw_xw0340_01.row.prog w wd (D c) (entOf (D !c).n S.ow2) (cellsOf w.params S.ow2 ++ S.fz) S.fz (rcv (rows.take k) c ++ [i]))))
    (B : Below A₀ base outer h₀) (F : Fr h₀ L s.heap m) (X : (KK w.params).In h₀) (N : News h₀ L s.heap news) (T : Top pp loose mean mg mb h₀) (hk : cs.kind = .function) (hdp : dp < 470) (hu : un < 8700) (hsub : ∀ p ∈ S.led w.params wd hd cx ++ own, p ∈ news)
    (ret : ∀ l n post h' tk', Grows (PostR Challenge.rw_xw0340_01.row.prog w wd (D c) (entOf (D !c).n S.ow2) (cellsOf w.params S.ow2 ++ S.fz) S.fz (rcv (rows.take k) c ++ [i])) post → FreshOf ((wd, S.wo) :: cellsOf w.params S.ow) (cellsOf w.params S.ow2 ++ S.fz) ((hd, S.ho) :: (cx, S.oc) :: (S.lt.toList ++ (S.lt2.toList ++ own))) post → (∀ p ∈ post, p.1 ≠ hd) → (∀ p ∈ (S.lt2.toList ++ own), p.1 ≠ hd) → (∀ p ∈ post, p.1 ≠ cx) → (∀ p ∈ (S.lt2.toList ++ own), p.1 ≠ cx) → Apt l hd → Apt hh hd → Apt hha hd → Apt l cx → Apt hh cx → Apt hha cx → Apt cx hd → (∀ p ∈ S.fz, p ∈ post) → Fr h₀ L h' m → News h₀ L h' ((l, listOf #[] n) :: (hh, instObj 74 hha) :: (hha, oh) :: (hd, S.ho) :: (cx, S.oc) :: (post ++ (S.lt2.toList ++ own))) → Q (.ref l) { s with heap := h', toks := tk' }) :
    wpAny (model Challenge.rw_xw0340_01.row.prog w) (ktrTop dp un gd cn cs L a ccd cl outer) (call (.ref 289) [.ref lay, .ref hh, .bytes ((D c).b i) tp, .bool ta, .int 1 tn]) Q E s := by
  refine DelC.use hc (F := (hd, S.ho) :: (cx, S.oc) :: (S.lt.toList ++ (S.lt2.toList ++ own))) B F X (newsub N fun p hp => hsub p (dlt_sub p hp)) (dlt_sep tm) T hk hdp hu fun l post h' tk' g hT hF F' N' => ?_
  have hmp := tm.ok.sep.mupre (wo := S.wo)
  have hpd : ∀ p ∈ post, p.1 ≠ hd := hF (hd, S.ho) (.head _) hmp.1
  have hpc : ∀ p ∈ post, p.1 ≠ cx := hF (cx, S.oc) (.tail _ (.head _)) hmp.2.1
  have hfz : ∀ p ∈ S.fz, p ∈ post := fun p hp => postR_sub g p (List.mem_append.mpr (.inr hp))
  have h2d := lots_own_hd tm
  have h2c := lots_own_cx tm
  have hch := tm.ok.sep.xh
  obtain ⟨n, ml1⟩ := hT
  exact ret l n post h' tk' g hF hpd h2d hpc h2c (hpd _ ml1) (hpd _ (hfz _ m1)) (hpd _ (hfz _ m2)) (hpc _ ml1) (hpc _ (hfz _ m1)) (hpc _ (hfz _ m2)) hch hfz F' (newsC N' (List.mem_append_left _ ml1) (newsC N' (List.mem_append_left _ (hfz _ m1)) (newsC N' (List.mem_append_left _ (hfz _ m2)) (newsC N' (List.mem_append_right _ (.head _)) (newsC N' (List.mem_append_right _ (.tail _ (.head _))) (fun q hq => N' q (dlt_tl q hq)))))))
theorem dlt_n1 {pp : Program} {loose : List Str} {mean : ExcName → Option Value} {mg mb : Str → Option Value} {dp un : Nat} {gd : Option (List Code)} {cn : Str} {cs : Scope} {a : Addr} {ccd : Value} {cl : List (Str × Addr)} {outer : List Env} {A₀ : Around} {base h₀ : Heap} {L : Addr} {m : Str → Option Value} {news : List (Addr × Obj)} {s : Shared} {Q E : Value → Shared → Prop} {KK : Params → Frag} {w : World} {wd hd cx lay hh hha : Addr} {oh : Obj} {bs : Led} {D : Bool → Dat} {rows : List Row} {k : Nat} {c : Bool} {i : Nat} {ta : Bool} {S : Stt} {own : Led} {tp tn : Tok}
    (tm : TM Challenge.rw_xw0340_01.row.prog w wd hd cx bs D rows k c i ta S own) (hlt : S.lt = none) (m1 : (hh, instObj 74 hha) ∈ S.fz) (m2 : (hha, oh) ∈ S.fz) (hc : DelC KK w lay hh ((D c).b i) ta 1 ((wd, S.wo) :: cellsOf w.params S.ow) (cellsOf w.params S.ow2 ++ S.fz) (some (wholeHd ((D c).hd 0), (D c).whole)) (Grows (PostR Challenge.rw_xw0340_01.row.prog w wd (D c) (entOf (D !c).n S.ow2) (cellsOf w.params S.ow2 ++ S.fz) S.fz (rcv (rows.take k) c ++ [i]))))
    (B : Below A₀ base outer h₀) (F : Fr h₀ L s.heap m) (X : (KK w.params).In h₀) (N : News h₀ L s.heap news) (T : Top pp loose mean mg mb h₀) (hk : cs.kind = .function) (hdp : dp < 470) (hu : un < 8700) (hsub : ∀ p ∈ S.led w.params wd hd cx ++ own, p ∈ news)
    (ret : ∀ l n u nh nha ts tv p1 p2 p3 p4 p5 p6 p7 p8 p9 p10 n1 n2 n3 n4 n5 n6 n9 n10 post h' tk', Grows (PostR Challenge.rw_xw0340_01.row.prog w wd (D c) (entOf (D !c).n S.ow2) (cellsOf w.params S.ow2 ++ S.fz) S.fz (rcv (rows.take k) c ++ [i])) post → FreshOf ((wd, S.wo) :: cellsOf w.params S.ow) (cellsOf w.params S.ow2 ++ S.fz) ((hd, S.ho) :: (cx, S.oc) :: (S.lt.toList ++ (S.lt2.toList ++ own))) post → (∀ p ∈ post, p.1 ≠ hd) → (∀ p ∈ (S.lt2.toList ++ own), p.1 ≠ hd) → (∀ p ∈ post, p.1 ≠ cx) → (∀ p ∈ (S.lt2.toList ++ own), p.1 ≠ cx) → Apt l hd → Apt hh hd → Apt hha hd → Apt u hd → Apt nh hd → Apt nha hd → Apt l cx → Apt hh cx → Apt hha cx → Apt u cx → Apt nh cx → Apt nha cx → Apt cx hd → (∀ p ∈ S.fz, p ∈ post) → Fr h₀ L h' m → News h₀ L h' ((l, listOf #[Value.ref u] n) :: (u, ({ cls := .type "tuple", data := .seq #[Value.str (Str.ofString "local") ts, Value.ref nh, Value.bytes (D c).whole tv, Value.bool ta] } : Obj)) :: (nh, instObj 74 nha) :: (nha, (dictOf [leftact% source p1 (Value.int ((D c).hd 0).src n1), leftact% target p2 (Value.int ((D c).hd 0).tgt n2), leftact% protocol p3 (Value.int ((D c).hd 0).prot n3), leftact% ident p4 (Value.int ((D c).hd 0).ident n4), leftact% ttl p5 (Value.int ((D c).hd 0).ttl n5), leftact% tos p6 (Value.int ((D c).hd 0).tos n6), leftact% dont p7 (Value.bool ((D c).hd 0).dont), leftact% more p8 (Value.bool false), leftact% offset p9 (Value.int 0 n9), leftact% options p10 (Value.bytes #[] n10)] 10)) :: (hh, instObj 74 hha) :: (hha, oh) :: (hd, S.ho) :: (cx, S.oc) :: (post ++ (S.lt2.toList ++ own))) → Q (.ref l) { s with heap := h', toks := tk' }) :
    wpAny (model Challenge.rw_xw0340_01.row.prog w) (ktrTop dp un gd cn cs L a ccd cl outer) (call (.ref 289) [.ref lay, .ref hh, .bytes ((D c).b i) tp, .bool ta, .int 1 tn]) Q E s := by
  refine DelC.use hc (F := (hd, S.ho) :: (cx, S.oc) :: (S.lt.toList ++ (S.lt2.toList ++ own))) B F X (newsub N fun p hp => hsub p (dlt_sub p hp)) (dlt_sep tm) T hk hdp hu fun l post h' tk' g hT hF F' N' => ?_
  have hmp := tm.ok.sep.mupre (wo := S.wo)
  have hpd : ∀ p ∈ post, p.1 ≠ hd := hF (hd, S.ho) (.head _) hmp.1
  have hpc : ∀ p ∈ post, p.1 ≠ cx := hF (cx, S.oc) (.tail _ (.head _)) hmp.2.1
  have hfz : ∀ p ∈ S.fz, p ∈ post := fun p hp => postR_sub g p (List.mem_append.mpr (.inr hp))
  have h2d := lots_own_hd tm
  have h2c := lots_own_cx tm
  have hch := tm.ok.sep.xh
  obtain ⟨n, u, nh, ts, tv, ml1, mu1, hH⟩ := hT
  obtain ⟨nha, p1, p2, p3, p4, p5, p6, p7, p8, p9, p10, n1, n2, n3, n4, n5, n6, n9, n10, mn1, mn2⟩ := hH
  exact ret l n u nh nha ts tv p1 p2 p3 p4 p5 p6 p7 p8 p9 p10 n1 n2 n3 n4 n5 n6 n9 n10 post h' tk' g hF hpd h2d hpc h2c (hpd _ ml1) (hpd _ (hfz _ m1)) (hpd _ (hfz _ m2)) (hpd _ mu1) (hpd _ mn1) (hpd _ mn2) (hpc _ ml1) (hpc _ (hfz _ m1)) (hpc _ (hfz _ m2)) (hpc _ mu1) (hpc _ mn1) (hpc _ mn2) hch hfz F' (newsC N' (List.mem_append_left _ ml1) (newsC N' (List.mem_append_left _ mu1) (newsC N' (List.mem_append_left _ mn1) (newsC N' (List.mem_append_left _ mn2) (newsC N' (List.mem_append_left _ (hfz _ m1)) (newsC N' (List.mem_append_left _ (hfz _ m2)) (newsC N' (List.mem_append_right _ (.head _)) (newsC N' (List.mem_append_right _ (.tail _ (.head _))) (fun q hq => N' q (dlt_tl q hq))))))))))
theorem dlt_o0 {pp : Program} {loose : List Str} {mean : ExcName → Option Value} {mg mb : Str → Option Value} {dp un : Nat} {gd : Option (List Code)} {cn : Str} {cs : Scope} {a : Addr} {ccd : Value} {cl : List (Str × Addr)} {outer : List Env} {A₀ : Around} {base h₀ : Heap} {L : Addr} {m : Str → Option Value} {news : List (Addr × Obj)} {s : Shared} {Q E : Value → Shared → Prop} {KK : Params → Frag} {w : World} {wd hd cx lay hh hha la : Addr} {oh lo : Obj} {bs : Led} {D : Bool → Dat} {rows : List Row} {k : Nat} {c : Bool} {i : Nat} {ta : Bool} {S : Stt} {own : Led} {tp tn : Tok}
    (tm : TM Challenge.rw_xw0340_01.row.prog w wd hd cx bs D rows k c i ta S own) (hlt : S.lt = some (la, lo)) (m1 : (hh, instObj 74 hha) ∈ S.fz) (m2 : (hha, oh) ∈ S.fz) (hc : DelC KK w lay hh ((D c).b i) ta 1 ((wd, S.wo) :: cellsOf w.params S.ow) (cellsOf w.params S.ow2 ++ S.fz) none (Grows (PostR Challenge.rw_xw0340_01.row.prog w wd (D c) (entOf (D !c).n S.ow2) (cellsOf w.params S.ow2 ++ S.fz) S.fz (rcv (rows.take k) c ++ [i]))))
    (B : Below A₀ base outer h₀) (F : Fr h₀ L s.heap m) (X : (KK w.params).In h₀) (N : News h₀ L s.heap news) (T : Top pp loose mean mg mb h₀) (hk : cs.kind = .function) (hdp : dp < 470) (hu : un < 8700) (hsub : ∀ p ∈ S.led w.params wd hd cx ++ own, p ∈ news)
    (ret : ∀ l n post h' tk', Grows (PostR Challenge.rw_xw0340_01.row.prog w wd (D c) (entOf (D !c).n S.ow2) (cellsOf w.params S.ow2 ++ S.fz) S.fz (rcv (rows.take k) c ++ [i])) post → FreshOf ((wd, S.wo) :: cellsOf w.params S.ow) (cellsOf w.params S.ow2 ++ S.fz) ((hd, S.ho) :: (cx, S.oc) :: (S.lt.toList ++ (S.lt2.toList ++ own))) post → (∀ p ∈ post, p.1 ≠ hd) → (∀ p ∈ (S.lt2.toList ++ own), p.1 ≠ hd) → (∀ p ∈ post, p.1 ≠ cx) → (∀ p ∈ (S.lt2.toList ++ own), p.1 ≠ cx) → (∀ p ∈ post, p.1 ≠ la) → (∀ p ∈ (S.lt2.toList ++ own), p.1 ≠ la) → (∀ p ∈ post ++ ((hd, S.ho) :: (cx, S.oc) :: (S.lt2.toList ++ own)), p.1 ≠ la) → Apt l hd → Apt hh hd → Apt hha hd → Apt l cx → Apt hh cx → Apt hha cx → Apt cx hd → Apt l la → Apt hh la → Apt hha la → Apt hd la → Apt la hd → Apt cx la → Apt la cx → (∀ p ∈ S.fz, p ∈ post) → Fr h₀ L h' m → News h₀ L h' ((l, listOf #[] n) :: (hh, instObj 74 hha) :: (hha, oh) :: (hd, S.ho) :: (cx, S.oc) :: (la, lo) :: (post ++ (S.lt2.toList ++ own))) → Q (.ref l) { s with heap := h', toks := tk' }) :
    wpAny (model Challenge.rw_xw0340_01.row.prog w) (ktrTop dp un gd cn cs L a ccd cl outer) (call (.ref 289) [.ref lay, .ref hh, .bytes ((D c).b i) tp, .bool ta, .int 1 tn]) Q E s := by
  refine DelC.use hc (F := (hd, S.ho) :: (cx, S.oc) :: (S.lt.toList ++ (S.lt2.toList ++ own))) B F X (newsub N fun p hp => hsub p (dlt_sub p hp)) (dlt_sep tm) T hk hdp hu fun l post h' tk' g hT hF F' N' => ?_
  have hmp := tm.ok.sep.mupre (wo := S.wo)
  have hpd : ∀ p ∈ post, p.1 ≠ hd := hF (hd, S.ho) (.head _) hmp.1
  have hpc : ∀ p ∈ post, p.1 ≠ cx := hF (cx, S.oc) (.tail _ (.head _)) hmp.2.1
  have hfz : ∀ p ∈ S.fz, p ∈ post := fun p hp => postR_sub g p (List.mem_append.mpr (.inr hp))
  have h2d := lots_own_hd tm
  have h2c := lots_own_cx tm
  have hch := tm.ok.sep.xh
  have hml : (la, lo) ∈ S.lt.toList := hlt ▸ .head _
  have hpl : ∀ p ∈ post, p.1 ≠ la := hF (la, lo) (.tail _ (.tail _ (List.mem_append_left _ hml))) fun p hp => Ne.symm (hmp.2.2 (la, lo) (List.mem_append_left _ hml) p hp)
  have h2l := lots_own_la tm hlt
  have hla := la_hd tm hlt
  have hlc := la_cx tm hlt
  have hall : ∀ p ∈ post ++ ((hd, S.ho) :: (cx, S.oc) :: (S.lt2.toList ++ own)), p.1 ≠ la := List.forall_mem_append.mpr ⟨hpl, List.forall_mem_cons.mpr ⟨Ne.symm hla, List.forall_mem_cons.mpr ⟨Ne.symm hlc, h2l⟩⟩⟩
  obtain ⟨n, ml1⟩ := hT
  exact ret l n post h' tk' g hF hpd h2d hpc h2c hpl h2l hall (hpd _ ml1) (hpd _ (hfz _ m1)) (hpd _ (hfz _ m2)) (hpc _ ml1) (hpc _ (hfz _ m1)) (hpc _ (hfz _ m2)) hch (hpl _ ml1) (hpl _ (hfz _ m1)) (hpl _ (hfz _ m2)) (Ne.symm hla) hla (Ne.symm hlc) hlc hfz F' (newsC N' (List.mem_append_left _ ml1) (newsC N' (List.mem_append_left _ (hfz _ m1)) (newsC N' (List.mem_append_left _ (hfz _ m2)) (newsC N' (List.mem_append_right _ (.head _)) (newsC N' (List.mem_append_right _ (.tail _ (.head _))) (newsC N' (List.mem_append_right _ (.tail _ (.tail _ (List.mem_append_left _ hml)))) (fun q hq => N' q (dlt_tl q hq))))))))
theorem dlt_o1 {pp : Program} {loose : List Str} {mean : ExcName → Option Value} {mg mb : Str → Option Value} {dp un : Nat} {gd : Option (List Code)} {cn : Str} {cs : Scope} {a : Addr} {ccd : Value} {cl : List (Str × Addr)} {outer : List Env} {A₀ : Around} {base h₀ : Heap} {L : Addr} {m : Str → Option Value} {news : List (Addr × Obj)} {s : Shared} {Q E : Value → Shared → Prop} {KK : Params → Frag} {w : World} {wd hd cx lay hh hha la : Addr} {oh lo : Obj} {bs : Led} {D : Bool → Dat} {rows : List Row} {k : Nat} {c : Bool} {i : Nat} {ta : Bool} {S : Stt} {own : Led} {tp tn : Tok}
    (tm : TM Challenge.rw_xw0340_01.row.prog w wd hd cx bs D rows k c i ta S own) (hlt : S.lt = some (la, lo)) (m1 : (hh, instObj 74 hha) ∈ S.fz) (m2 : (hha, oh) ∈ S.fz) (hc : DelC KK w lay hh ((D c).b i) ta 1 ((wd, S.wo) :: cellsOf w.params S.ow) (cellsOf w.params S.ow2 ++ S.fz) (some (wholeHd ((D c).hd 0), (D c).whole)) (Grows (PostR Challenge.rw_xw0340_01.row.prog w wd (D c) (entOf (D !c).n S.ow2) (cellsOf w.params S.ow2 ++ S.fz) S.fz (rcv (rows.take k) c ++ [i]))))
    (B : Below A₀ base outer h₀) (F : Fr h₀ L s.heap m) (X : (KK w.params).In h₀) (N : News h₀ L s.heap news) (T : Top pp loose mean mg mb h₀) (hk : cs.kind = .function) (hdp : dp < 470) (hu : un < 8700) (hsub : ∀ p ∈ S.led w.params wd hd cx ++ own, p ∈ news)
    (ret : ∀ l n u nh nha ts tv p1 p2 p3 p4 p5 p6 p7 p8 p9 p10 n1 n2 n3 n4 n5 n6 n9 n10 post h' tk', Grows (PostR Challenge.rw_xw0340_01.row.prog w wd (D c) (entOf (D !c).n S.ow2) (cellsOf w.params S.ow2 ++ S.fz) S.fz (rcv (rows.take k) c ++ [i])) post → FreshOf ((wd, S.wo) :: cellsOf w.params S.ow) (cellsOf w.params S.ow2 ++ S.fz) ((hd, S.ho) :: (cx, S.oc) :: (S.lt.toList ++ (S.lt2.toList ++ own))) post → (∀ p ∈ post, p.1 ≠ hd) → (∀ p ∈ (S.lt2.toList ++ own), p.1 ≠ hd) → (∀ p ∈ post, p.1 ≠ cx) → (∀ p ∈ (S.lt2.toList ++ own), p.1 ≠ cx) → (∀ p ∈ post, p.1 ≠ la) → (∀ p ∈ (S.lt2.toList ++ own), p.1 ≠ la) → (∀ p ∈ post ++ ((hd, S.ho) :: (cx, S.oc) :: (S.lt2.toList ++ own)), p.1 ≠ la) → Apt l hd → Apt hh hd → Apt hha hd → Apt u hd → Apt nh hd → Apt nha hd → Apt l cx → Apt hh cx → Apt hha cx → Apt u cx → Apt nh cx → Apt nha cx → Apt cx hd → Apt l la → Apt hh la → Apt hha la → Apt u la → Apt nh la → Apt nha la → Apt hd la → Apt la hd → Apt cx la → Apt la cx → (∀ p ∈ S.fz, p ∈ post) → Fr h₀ L h' m → News h₀ L h' ((l, listOf #[Value.ref u] n) :: (u, ({ cls := .type "tuple", data := .seq #[Value.str (Str.ofString "local") ts, Value.ref nh, Value.bytes (D c).whole tv, Value.bool ta] } : Obj)) :: (nh, instObj 74 nha) :: (nha, (dictOf [leftact% source p1 (Value.int ((D c).hd 0).src n1), leftact% target p2 (Value.int ((D c).hd 0).tgt n2), leftact% protocol p3 (Value.int ((D c).hd 0).prot n3), leftact% ident p4 (Value.int ((D c).hd 0).ident n4), leftact% ttl p5 (Value.int ((D c).hd 0).ttl n5), leftact% tos p6 (Value.int ((D c).hd 0).tos n6), leftact% dont p7 (Value.bool ((D c).hd 0).dont), leftact% more p8 (Value.bool false), leftact% offset p9 (Value.int 0 n9), leftact% options p10 (Value.bytes #[] n10)] 10)) :: (hh, instObj 74 hha) :: (hha, oh) :: (hd, S.ho) :: (cx, S.oc) :: (la, lo) :: (post ++ (S.lt2.toList ++ own))) → Q (.ref l) { s with heap := h', toks := tk' }) :
    wpAny (model Challenge.rw_xw0340_01.row.prog w) (ktrTop dp un gd cn cs L a ccd cl outer) (call (.ref 289) [.ref lay, .ref hh, .bytes ((D c).b i) tp, .bool ta, .int 1 tn]) Q E s := by
  refine DelC.use hc (F := (hd, S.ho) :: (cx, S.oc) :: (S.lt.toList ++ (S.lt2.toList ++ own))) B F X (newsub N fun p hp => hsub p (dlt_sub p hp)) (dlt_sep tm) T hk hdp hu fun l post h' tk' g hT hF F' N' => ?_
  have hmp := tm.ok.sep.mupre (wo := S.wo)
  have hpd : ∀ p ∈ post, p.1 ≠ hd := hF (hd, S.ho) (.head _) hmp.1
  have hpc : ∀ p ∈ post, p.1 ≠ cx := hF (cx, S.oc) (.tail _ (.head _)) hmp.2.1
  have hfz : ∀ p ∈ S.fz, p ∈ post := fun p hp => postR_sub g p (List.mem_append.mpr (.inr hp))
  have h2d := lots_own_hd tm
  have h2c := lots_own_cx tm
  have hch := tm.ok.sep.xh
  have hml : (la, lo) ∈ S.lt.toList := hlt ▸ .head _
  have hpl : ∀ p ∈ post, p.1 ≠ la := hF (la, lo) (.tail _ (.tail _ (List.mem_append_left _ hml))) fun p hp => Ne.symm (hmp.2.2 (la, lo) (List.mem_append_left _ hml) p hp)
  have h2l := lots_own_la tm hlt
  have hla := la_hd tm hlt
  have hlc := la_cx tm hlt
  have hall : ∀ p ∈ post ++ ((hd, S.ho) :: (cx, S.oc) :: (S.lt2.toList ++ own)), p.1 ≠ la := List.forall_mem_append.mpr ⟨hpl, List.forall_mem_cons.mpr ⟨Ne.symm hla, List.forall_mem_cons.mpr ⟨Ne.symm hlc, h2l⟩⟩⟩
  obtain ⟨n, u, nh, ts, tv, ml1, mu1, hH⟩ := hT
  obtain ⟨nha, p1, p2, p3, p4, p5, p6, p7, p8, p9, p10, n1, n2, n3, n4, n5, n6, n9, n10, mn1, mn2⟩ := hH
  exact ret l n u nh nha ts tv p1 p2 p3 p4 p5 p6 p7 p8 p9 p10 n1 n2 n3 n4 n5 n6 n9 n10 post h' tk' g hF hpd h2d hpc h2c hpl h2l hall (hpd _ ml1) (hpd _ (hfz _ m1)) (hpd _ (hfz _ m2)) (hpd _ mu1) (hpd _ mn1) (hpd _ mn2) (hpc _ ml1) (hpc _ (hfz _ m1)) (hpc _ (hfz _ m2)) (hpc _ mu1) (hpc _ mn1) (hpc _ mn2) hch (hpl _ ml1) (hpl _ (hfz _ m1)) (hpl _ (hfz _ m2)) (hpl _ mu1) (hpl _ mn1) (hpl _ mn2) (Ne.symm hla) hla (Ne.symm hlc) hlc hfz F' (newsC N' (List.mem_append_left _ ml1) (newsC N' (List.mem_append_left _ mu1) (newsC N' (List.mem_append_left _ mn1) (newsC N' (List.mem_append_left _ mn2) (newsC N' (List.mem_append_left _ (hfz _ m1)) (newsC N' (List.mem_append_left _ (hfz _ m2)) (newsC N' (List.mem_append_right _ (.head _)) (newsC N' (List.mem_append_right _ (.tail _ (.head _))) (newsC N' (List.mem_append_right _ (.tail _ (.tail _ (List.mem_append_left _ hml)))) (fun q hq => N' q (dlt_tl q hq)))))))))))


structure RMark (w : World) (wd lay ld rl : Addr) (wo LO : Obj) (bs : Led) (D : Bool → Dat) (rows : List Row) (vs : List Value) (nn : Nat) : Prop where
  hW : WObj Challenge.rw_xw0340_01.row.prog w wo []
  hl : (rl, listOf vs.toArray nn) ∈ bs
  hR : RowsAt w.params bs D vs rows
  rok : RowsOk D rows
  dok : ∀ c, (D c).Ok
  hne : (D false).n ≠ (D true).n
  ml : (lay, instObj 349 ld) ∈ bs
  mld : (ld, LO) ∈ bs
  hlen : rows.length ≤ 100
  sep : ∀ p ∈ bs, p.1 ≠ wd
theorem st0 {w : World} {wd lay ld rl hd cx : Addr} {wo LO ho oc : Obj} {cv : Option Value} {bs : Led} {D : Bool → Dat} {rows : List Row} {vs : List Value} {nn : Nat} (mk : RMark w wd lay ld rl wo LO bs D rows vs nn) (hne : hd ≠ wd) (hb : ∀ p ∈ bs, p.1 ≠ hd) (hxw : cx ≠ wd) (hxh : cx ≠ hd) (hxb : ∀ p ∈ bs, p.1 ≠ cx) (hcv : oc.data = .cell cv) (hho : ho.IsDictOf (PySem.intKind Challenge.rw_xw0340_01.row.prog w) []) :
    (⟨wo, ho, oc, [], [], none, none, none, none, bs⟩ : Stt).Ok Challenge.rw_xw0340_01.row.prog w wd hd cx bs (D false) (D true) [] [] 0 :=
  ⟨⟨cv, hcv⟩, ⟨hne, hxw, hxh, by simpa [cellsOf] using hxb, by simpa [cellsOf] using mk.sep, by simpa [cellsOf] using hb, by simp [Nd, cellsOf], by simp [Nd, cellsOf], by simp [Nd], by simp [Nd], .nil, .nil, .nil, .nil⟩, fun p hp => hp, mk.hW, rfl, hho, by simp, .inl rfl, .inl rfl, ⟨rfl, rfl⟩, ⟨rfl, rfl⟩⟩


theorem execs_split (n : Nat) : ∀ (body : List Stmt) (env : Env), execs body env = (execs (body.take n) env >>= fun f => match f with | .next => execs (body.drop n) env | f => pure f) := by
  induction n with
  | zero => intro body env; simp [PySem.execs_nil]
  | succ n ih =>
    intro body env
    cases body with
    | nil => simp [PySem.execs_nil]
    | cons st rest =>
      rw [List.take_succ_cons, List.drop_succ_cons, PySem.execs_cons, PySem.execs_cons, bind_assoc]
      congr 1; funext f
      cases f <;> simp [← ih]
theorem execs_cut {M : Model} {A : Around} {E : Value → Shared → Prop} {s : Shared} {env : Env} {body : List Stmt} {Q Z : Flow → Shared → Prop} (n : Nat) (h : wpAny M A (execs (body.take n) env) Z E s) (hz : ∀ f s', Z f s' → (match f with | .next => wpAny M A (execs (body.drop n) env) Q E s' | f => Q f s')) : wpAny M A (execs body env) Q E s := by
  rw [execs_split n]
  exact wpAny_bind (wpAny_mono h (fun f s' hz' => by
    have := hz f s' hz'
    cases f <;> first | exact this | exact wpAny_pure this) fun _ _ e => e)
noncomputable def FinR (sto : List Str) (h₀ : Heap) (L : Addr) (s : Shared) (mz : Str → Option Value) (need : Led) (Z : Flow → Shared → Prop) : Prop := ∀ (m' : Str → Option Value) (h' : Heap) (tk' : Nat), (∀ z, sto.contains z = false → m' z = mz z) → Fr h₀ L h' m' → News h₀ L h' need → Z .next { s with heap := h', toks := tk' }
theorem FinR.use {sto : List Str} {h₀ : Heap} {L : Addr} {s : Shared} {mz : Str → Option Value} {need news : Led} {Z : Flow → Shared → Prop} (h : FinR sto h₀ L s mz need Z) {m' : Str → Option Value} {h' : Heap} {tk' : Nat} (F : Fr h₀ L h' m') (N : News h₀ L h' news) (hs : ∀ p ∈ need, p ∈ news) (hm : ∀ z, sto.contains z = false → m' z = mz z) : Z .next { s with heap := h', toks := tk' } := h m' h' tk' hm F (newsub N hs)
noncomputable def FinN0 (sto : List Str) (h₀ : Heap) (L : Addr) (s : Shared) (u m₀ : Str → Option Value) (w : World) (wd hd cx : Addr) (D : Bool → Dat) (rows : List Row) (k : Nat) (c : Bool) (i : Nat) (ta : Bool) (S : Stt) (own : Led) (hh : Addr) (Z : Flow → Shared → Prop) : Prop := (∀ (h' : Heap) (tk' : Nat) (mz : Str → Option Value) (la : Addr) (t' tl : Addr) (nl : Nat) (tb' : Tok) (post : Led) (ho' oc' lo' : Obj), Grows (PostR Challenge.rw_xw0340_01.row.prog w wd (D c) (entOf (D !c).n S.ow2) (cellsOf w.params S.ow2 ++ S.fz) S.fz (rcv (rows.take k) c ++ [i])) post → FreshOf ((wd, S.wo) :: cellsOf w.params S.ow) (cellsOf w.params S.ow2 ++ S.fz) ((hd, S.ho) :: (cx, S.oc) :: (S.lt.toList ++ (S.lt2.toList ++ own))) post → (∀ p ∈ post ++ (S.lt2.toList ++ own), p.1 ≠ la) → (hd ≠ la) → (cx ≠ la) → (la == sysModules) = false → (∀ p ∈ post ++ (S.lt2.toList ++ own), p.1 ≠ t') → (hd ≠ t') → (cx ≠ t') → (la ≠ t') → oc'.data = .cell (some (.ref la)) → ho'.IsDictOf (PySem.intKind Challenge.rw_xw0340_01.row.prog w) (stored S.hs (D c).n (.ref la)) → lo'.IsDictOf (PySem.intKind Challenge.rw_xw0340_01.row.prog w) (stored [] ((D c).hd i).off (.ref t')) → mz (Str.ofString "told") = some (.ref tl) → mz (Str.ofString "to_all") = some (.bool ta) → (∀ z, sto.contains z = false → mz z = stoM sto u m₀ z) → Fr h₀ L h' mz → News h₀ L h' ((tl, listOf #[] nl) :: (hd, ho') :: (cx, oc') :: (la, lo') :: (t', lotTup hh ((D c).b i) tb') :: (post ++ (S.lt2.toList ++ own))) → Z .next { s with heap := h', toks := tk' })
theorem FinN0.use {sto : List Str} {h₀ : Heap} {L : Addr} {s : Shared} {u m₀ : Str → Option Value} {w : World} {wd hd cx : Addr} {D : Bool → Dat} {rows : List Row} {k : Nat} {c : Bool} {i : Nat} {ta : Bool} {S : Stt} {own : Led} {hh : Addr} {Z : Flow → Shared → Prop} {news : Led} (hf : FinN0 sto h₀ L s u m₀ w wd hd cx D rows k c i ta S own hh Z)
  : (∀ (h' : Heap) (tk' : Nat) (mz : Str → Option Value) (la : Addr) (t' tl : Addr) (nl : Nat) (tb' : Tok) (post : Led) (ho' oc' lo' : Obj), Grows (PostR Challenge.rw_xw0340_01.row.prog w wd (D c) (entOf (D !c).n S.ow2) (cellsOf w.params S.ow2 ++ S.fz) S.fz (rcv (rows.take k) c ++ [i])) post → FreshOf ((wd, S.wo) :: cellsOf w.params S.ow) (cellsOf w.params S.ow2 ++ S.fz) ((hd, S.ho) :: (cx, S.oc) :: (S.lt.toList ++ (S.lt2.toList ++ own))) post → (∀ p ∈ post ++ (S.lt2.toList ++ own), p.1 ≠ la) → (hd ≠ la) → (cx ≠ la) → (la == sysModules) = false → (∀ p ∈ post ++ (S.lt2.toList ++ own), p.1 ≠ t') → (hd ≠ t') → (cx ≠ t') → (la ≠ t') → oc'.data = .cell (some (.ref la)) → ho'.IsDictOf (PySem.intKind Challenge.rw_xw0340_01.row.prog w) (stored S.hs (D c).n (.ref la)) → lo'.IsDictOf (PySem.intKind Challenge.rw_xw0340_01.row.prog w) (stored [] ((D c).hd i).off (.ref t')) → mz (Str.ofString "told") = some (.ref tl) → mz (Str.ofString "to_all") = some (.bool ta) → (∀ z, sto.contains z = false → mz z = stoM sto u m₀ z) → Fr h₀ L h' mz → News h₀ L h' news → (∀ p ∈ (tl, listOf #[] nl) :: (hd, ho') :: (cx, oc') :: (la, lo') :: (t', lotTup hh ((D c).b i) tb') :: (post ++ (S.lt2.toList ++ own)), p ∈ news) → Z .next { s with heap := h', toks := tk' }) := by
  intro h' tk' mz la t' tl nl tb' post ho' oc' lo' x0 x1 x2 x3 x4 x5 x6 x7 x8 x9 x10 x11 x12 x13 x14 x15 F N hs
  exact hf h' tk' mz la t' tl nl tb' post ho' oc' lo' x0 x1 x2 x3 x4 x5 x6 x7 x8 x9 x10 x11 x12 x13 x14 x15 F (newsub N hs)
noncomputable def FinN1 (sto : List Str) (h₀ : Heap) (L : Addr) (s : Shared) (u m₀ : Str → Option Value) (w : World) (wd hd cx : Addr) (D : Bool → Dat) (rows : List Row) (k : Nat) (c : Bool) (i : Nat) (ta : Bool) (S : Stt) (own : Led) (hh : Addr) (Z : Flow → Shared → Prop) : Prop := (∀ (h' : Heap) (tk' : Nat) (mz : Str → Option Value) (la : Addr) (t' tl : Addr) (nl : Nat) (tb' : Tok) (post : Led) (ho' oc' lo' : Obj) (tu tr : Addr) (w1 w2 v1 v2 v3 v4 v5 v6 v9 v10 : Tok), Grows (PostR Challenge.rw_xw0340_01.row.prog w wd (D c) (entOf (D !c).n S.ow2) (cellsOf w.params S.ow2 ++ S.fz) S.fz (rcv (rows.take k) c ++ [i])) post → FreshOf ((wd, S.wo) :: cellsOf w.params S.ow) (cellsOf w.params S.ow2 ++ S.fz) ((hd, S.ho) :: (cx, S.oc) :: (S.lt.toList ++ (S.lt2.toList ++ own))) post → (∀ p ∈ post ++ (S.lt2.toList ++ own), p.1 ≠ la) → (hd ≠ la) → (cx ≠ la) → (la == sysModules) = false → (∀ p ∈ post ++ (S.lt2.toList ++ own), p.1 ≠ t') → (hd ≠ t') → (cx ≠ t') → (la ≠ t') → oc'.data = .cell (some (.ref la)) → ho'.IsDictOf (PySem.intKind Challenge.rw_xw0340_01.row.prog w) (stored S.hs (D c).n (.ref la)) → lo'.IsDictOf (PySem.intKind Challenge.rw_xw0340_01.row.prog w) (stored [] ((D c).hd i).off (.ref t')) → mz (Str.ofString "told") = some (.ref tl) → mz (Str.ofString "to_all") = some (.bool ta) → (∀ z, sto.contains z = false → mz z = stoM sto u m₀ z) → Fr h₀ L h' mz → News h₀ L h' ((tl, listOf #[Value.ref tu] nl) :: (tu, ({ cls := .type "tuple", data := .seq #[Value.str (Str.ofString "local") w1, Value.ref tr, Value.bytes (D c).whole w2, Value.bool ta] } : Obj)) :: (tr, ({ cls := .type "tuple", data := .seq #[Value.int ((D c).hd 0).src v1, Value.int ((D c).hd 0).tgt v2, Value.int ((D c).hd 0).prot v3, Value.int ((D c).hd 0).ident v4, Value.int ((D c).hd 0).ttl v5, Value.int ((D c).hd 0).tos v6, Value.bool ((D c).hd 0).dont, Value.bool false, Value.int 0 v9, Value.bytes #[] v10] } : Obj)) :: (hd, ho') :: (cx, oc') :: (la, lo') :: (t', lotTup hh ((D c).b i) tb') :: (post ++ (S.lt2.toList ++ own))) → Z .next { s with heap := h', toks := tk' })
theorem FinN1.use {sto : List Str} {h₀ : Heap} {L : Addr} {s : Shared} {u m₀ : Str → Option Value} {w : World} {wd hd cx : Addr} {D : Bool → Dat} {rows : List Row} {k : Nat} {c : Bool} {i : Nat} {ta : Bool} {S : Stt} {own : Led} {hh : Addr} {Z : Flow → Shared → Prop} {news : Led} (hf : FinN1 sto h₀ L s u m₀ w wd hd cx D rows k c i ta S own hh Z)
  : (∀ (h' : Heap) (tk' : Nat) (mz : Str → Option Value) (la : Addr) (t' tl : Addr) (nl : Nat) (tb' : Tok) (post : Led) (ho' oc' lo' : Obj) (tu tr : Addr) (w1 w2 v1 v2 v3 v4 v5 v6 v9 v10 : Tok), Grows (PostR Challenge.rw_xw0340_01.row.prog w wd (D c) (entOf (D !c).n S.ow2) (cellsOf w.params S.ow2 ++ S.fz) S.fz (rcv (rows.take k) c ++ [i])) post → FreshOf ((wd, S.wo) :: cellsOf w.params S.ow) (cellsOf w.params S.ow2 ++ S.fz) ((hd, S.ho) :: (cx, S.oc) :: (S.lt.toList ++ (S.lt2.toList ++ own))) post → (∀ p ∈ post ++ (S.lt2.toList ++ own), p.1 ≠ la) → (hd ≠ la) → (cx ≠ la) → (la == sysModules) = false → (∀ p ∈ post ++ (S.lt2.toList ++ own), p.1 ≠ t') → (hd ≠ t') → (cx ≠ t') → (la ≠ t') → oc'.data = .cell (some (.ref la)) → ho'.IsDictOf (PySem.intKind Challenge.rw_xw0340_01.row.prog w) (stored S.hs (D c).n (.ref la)) → lo'.IsDictOf (PySem.intKind Challenge.rw_xw0340_01.row.prog w) (stored [] ((D c).hd i).off (.ref t')) → mz (Str.ofString "told") = some (.ref tl) → mz (Str.ofString "to_all") = some (.bool ta) → (∀ z, sto.contains z = false → mz z = stoM sto u m₀ z) → Fr h₀ L h' mz → News h₀ L h' news → (∀ p ∈ (tl, listOf #[Value.ref tu] nl) :: (tu, ({ cls := .type "tuple", data := .seq #[Value.str (Str.ofString "local") w1, Value.ref tr, Value.bytes (D c).whole w2, Value.bool ta] } : Obj)) :: (tr, ({ cls := .type "tuple", data := .seq #[Value.int ((D c).hd 0).src v1, Value.int ((D c).hd 0).tgt v2, Value.int ((D c).hd 0).prot v3, Value.int ((D c).hd 0).ident v4, Value.int ((D c).hd 0).ttl v5, Value.int ((D c).hd 0).tos v6, Value.bool ((D c).hd 0).dont, Value.bool false, Value.int 0 v9, Value.bytes #[] v10] } : Obj)) :: (hd, ho') :: (cx, oc') :: (la, lo') :: (t', lotTup hh ((D c).b i) tb') :: (post ++ (S.lt2.toList ++ own)), p ∈ news) → Z .next { s with heap := h', toks := tk' }) := by
  intro h' tk' mz la t' tl nl tb' post ho' oc' lo' tu tr w1 w2 v1 v2 v3 v4 v5 v6 v9 v10 x0 x1 x2 x3 x4 x5 x6 x7 x8 x9 x10 x11 x12 x13 x14 x15 F N hs
  exact hf h' tk' mz la t' tl nl tb' post ho' oc' lo' tu tr w1 w2 v1 v2 v3 v4 v5 v6 v9 v10 x0 x1 x2 x3 x4 x5 x6 x7 x8 x9 x10 x11 x12 x13 x14 x15 F (newsub N hs)
noncomputable def FinO0 (sto : List Str) (h₀ : Heap) (L : Addr) (s : Shared) (u m₀ : Str → Option Value) (w : World) (wd hd cx : Addr) (D : Bool → Dat) (rows : List Row) (k : Nat) (c : Bool) (i : Nat) (ta : Bool) (S : Stt) (own : Led) (hh : Addr) (la : Addr) (kvs : List (Int × Value)) (Z : Flow → Shared → Prop) : Prop := (∀ (h' : Heap) (tk' : Nat) (mz : Str → Option Value) (t' tl : Addr) (nl : Nat) (tb' : Tok) (post : Led) (ho' oc' lo' : Obj), Grows (PostR Challenge.rw_xw0340_01.row.prog w wd (D c) (entOf (D !c).n S.ow2) (cellsOf w.params S.ow2 ++ S.fz) S.fz (rcv (rows.take k) c ++ [i])) post → FreshOf ((wd, S.wo) :: cellsOf w.params S.ow) (cellsOf w.params S.ow2 ++ S.fz) ((hd, S.ho) :: (cx, S.oc) :: (S.lt.toList ++ (S.lt2.toList ++ own))) post → (∀ p ∈ post ++ ((hd, S.ho) :: (cx, S.oc) :: (S.lt2.toList ++ own)), p.1 ≠ la) → (∀ p ∈ post ++ (S.lt2.toList ++ own), p.1 ≠ t') → (hd ≠ t') → (cx ≠ t') → (la ≠ t') → oc'.data = .cell (some (.ref la)) → ho' = S.ho → lo'.IsDictOf (PySem.intKind Challenge.rw_xw0340_01.row.prog w) (stored kvs ((D c).hd i).off (.ref t')) → mz (Str.ofString "told") = some (.ref tl) → mz (Str.ofString "to_all") = some (.bool ta) → (∀ z, sto.contains z = false → mz z = stoM sto u m₀ z) → Fr h₀ L h' mz → News h₀ L h' ((tl, listOf #[] nl) :: (hd, ho') :: (cx, oc') :: (la, lo') :: (t', lotTup hh ((D c).b i) tb') :: (post ++ (S.lt2.toList ++ own))) → Z .next { s with heap := h', toks := tk' })
theorem FinO0.use {sto : List Str} {h₀ : Heap} {L : Addr} {s : Shared} {u m₀ : Str → Option Value} {w : World} {wd hd cx : Addr} {D : Bool → Dat} {rows : List Row} {k : Nat} {c : Bool} {i : Nat} {ta : Bool} {S : Stt} {own : Led} {hh : Addr} {la : Addr} {kvs : List (Int × Value)} {Z : Flow → Shared → Prop} {news : Led} (hf : FinO0 sto h₀ L s u m₀ w wd hd cx D rows k c i ta S own hh la kvs Z)
  : (∀ (h' : Heap) (tk' : Nat) (mz : Str → Option Value) (t' tl : Addr) (nl : Nat) (tb' : Tok) (post : Led) (ho' oc' lo' : Obj), Grows (PostR Challenge.rw_xw0340_01.row.prog w wd (D c) (entOf (D !c).n S.ow2) (cellsOf w.params S.ow2 ++ S.fz) S.fz (rcv (rows.take k) c ++ [i])) post → FreshOf ((wd, S.wo) :: cellsOf w.params S.ow) (cellsOf w.params S.ow2 ++ S.fz) ((hd, S.ho) :: (cx, S.oc) :: (S.lt.toList ++ (S.lt2.toList ++ own))) post → (∀ p ∈ post ++ ((hd, S.ho) :: (cx, S.oc) :: (S.lt2.toList ++ own)), p.1 ≠ la) → (∀ p ∈ post ++ (S.lt2.toList ++ own), p.1 ≠ t') → (hd ≠ t') → (cx ≠ t') → (la ≠ t') → oc'.data = .cell (some (.ref la)) → ho' = S.ho → lo'.IsDictOf (PySem.intKind Challenge.rw_xw0340_01.row.prog w) (stored kvs ((D c).hd i).off (.ref t')) → mz (Str.ofString "told") = some (.ref tl) → mz (Str.ofString "to_all") = some (.bool ta) → (∀ z, sto.contains z = false → mz z = stoM sto u m₀ z) → Fr h₀ L h' mz → News h₀ L h' news → (∀ p ∈ (tl, listOf #[] nl) :: (hd, ho') :: (cx, oc') :: (la, lo') :: (t', lotTup hh ((D c).b i) tb') :: (post ++ (S.lt2.toList ++ own)), p ∈ news) → Z .next { s with heap := h', toks := tk' }) := by
  intro h' tk' mz t' tl nl tb' post ho' oc' lo' x0 x1 x2 x3 x4 x5 x6 x7 x8 x9 x10 x11 x12 F N hs
  exact hf h' tk' mz t' tl nl tb' post ho' oc' lo' x0 x1 x2 x3 x4 x5 x6 x7 x8 x9 x10 x11 x12 F (newsub N hs)
noncomputable def FinO1 (sto : List Str) (h₀ : Heap) (L : Addr) (s : Shared) (u m₀ : Str → Option Value) (w : World) (wd hd cx : Addr) (D : Bool → Dat) (rows : List Row) (k : Nat) (c : Bool) (i : Nat) (ta : Bool) (S : Stt) (own : Led) (hh : Addr) (la : Addr) (kvs : List (Int × Value)) (Z : Flow → Shared → Prop) : Prop := (∀ (h' : Heap) (tk' : Nat) (mz : Str → Option Value) (t' tl : Addr) (nl : Nat) (tb' : Tok) (post : Led) (ho' oc' lo' : Obj) (tu tr : Addr) (w1 w2 v1 v2 v3 v4 v5 v6 v9 v10 : Tok), Grows (PostR Challenge.rw_xw0340_01.row.prog w wd (D c) (entOf (D !c).n S.ow2) (cellsOf w.params S.ow2 ++ S.fz) S.fz (rcv (rows.take k) c ++ [i])) post → FreshOf ((wd, S.wo) :: cellsOf w.params S.ow) (cellsOf w.params S.ow2 ++ S.fz) ((hd, S.ho) :: (cx, S.oc) :: (S.lt.toList ++ (S.lt2.toList ++ own))) post → (∀ p ∈ post ++ ((hd, S.ho) :: (cx, S.oc) :: (S.lt2.toList ++ own)), p.1 ≠ la) → (∀ p ∈ post ++ (S.lt2.toList ++ own), p.1 ≠ t') → (hd ≠ t') → (cx ≠ t') → (la ≠ t') → oc'.data = .cell (some (.ref la)) → ho' = S.ho → lo'.IsDictOf (PySem.intKind Challenge.rw_xw0340_01.row.prog w) (stored kvs ((D c).hd i).off (.ref t')) → mz (Str.ofString "told") = some (.ref tl) → mz (Str.ofString "to_all") = some (.bool ta) → (∀ z, sto.contains z = false → mz z = stoM sto u m₀ z) → Fr h₀ L h' mz → News h₀ L h' ((tl, listOf #[Value.ref tu] nl) :: (tu, ({ cls := .type "tuple", data := .seq #[Value.str (Str.ofString "local") w1, Value.ref tr, Value.bytes (D c).whole w2, Value.bool ta] } : Obj)) :: (tr, ({ cls := .type "tuple", data := .seq #[Value.int ((D c).hd 0).src v1, Value.int ((D c).hd 0).tgt v2, Value.int ((D c).hd 0).prot v3, Value.int ((D c).hd 0).ident v4, Value.int ((D c).hd 0).ttl v5, Value.int ((D c).hd 0).tos v6, Value.bool ((D c).hd 0).dont, Value.bool false, Value.int 0 v9, Value.bytes #[] v10] } : Obj)) :: (hd, ho') :: (cx, oc') :: (la, lo') :: (t', lotTup hh ((D c).b i) tb') :: (post ++ (S.lt2.toList ++ own))) → Z .next { s with heap := h', toks := tk' })
theorem FinO1.use {sto : List Str} {h₀ : Heap} {L : Addr} {s : Shared} {u m₀ : Str → Option Value} {w : World} {wd hd cx : Addr} {D : Bool → Dat} {rows : List Row} {k : Nat} {c : Bool} {i : Nat} {ta : Bool} {S : Stt} {own : Led} {hh : Addr} {la : Addr} {kvs : List (Int × Value)} {Z : Flow → Shared → Prop} {news : Led} (hf : FinO1 sto h₀ L s u m₀ w wd hd cx D rows k c i ta S own hh la kvs Z)
  : (∀ (h' : Heap) (tk' : Nat) (mz : Str → Option Value) (t' tl : Addr) (nl : Nat) (tb' : Tok) (post : Led) (ho' oc' lo' : Obj) (tu tr : Addr) (w1 w2 v1 v2 v3 v4 v5 v6 v9 v10 : Tok), Grows (PostR Challenge.rw_xw0340_01.row.prog w wd (D c) (entOf (D !c).n S.ow2) (cellsOf w.params S.ow2 ++ S.fz) S.fz (rcv (rows.take k) c ++ [i])) post → FreshOf ((wd, S.wo) :: cellsOf w.params S.ow) (cellsOf w.params S.ow2 ++ S.fz) ((hd, S.ho) :: (cx, S.oc) :: (S.lt.toList ++ (S.lt2.toList ++ own))) post → (∀ p ∈ post ++ ((hd, S.ho) :: (cx, S.oc) :: (S.lt2.toList ++ own)), p.1 ≠ la) → (∀ p ∈ post ++ (S.lt2.toList ++ own), p.1 ≠ t') → (hd ≠ t') → (cx ≠ t') → (la ≠ t') → oc'.data = .cell (some (.ref la)) → ho' = S.ho → lo'.IsDictOf (PySem.intKind Challenge.rw_xw0340_01.row.prog w) (stored kvs ((D c).hd i).off (.ref t')) → mz (Str.ofString "told") = some (.ref tl) → mz (Str.ofString "to_all") = some (.bool ta) → (∀ z, sto.contains z = false → mz z = stoM sto u m₀ z) → Fr h₀ L h' mz → News h₀ L h' news → (∀ p ∈ (tl, listOf #[Value.ref tu] nl) :: (tu, ({ cls := .type "tuple", data := .seq #[Value.str (Str.ofString "local") w1, Value.ref tr, Value.bytes (D c).whole w2, Value.bool ta] } : Obj)) :: (tr, ({ cls := .type "tuple", data := .seq #[Value.int ((D c).hd 0).src v1, Value.int ((D c).hd 0).tgt v2, Value.int ((D c).hd 0).prot v3, Value.int ((D c).hd 0).ident v4, Value.int ((D c).hd 0).ttl v5, Value.int ((D c).hd 0).tos v6, Value.bool ((D c).hd 0).dont, Value.bool false, Value.int 0 v9, Value.bytes #[] v10] } : Obj)) :: (hd, ho') :: (cx, oc') :: (la, lo') :: (t', lotTup hh ((D c).b i) tb') :: (post ++ (S.lt2.toList ++ own)), p ∈ news) → Z .next { s with heap := h', toks := tk' }) := by
  intro h' tk' mz t' tl nl tb' post ho' oc' lo' tu tr w1 w2 v1 v2 v3 v4 v5 v6 v9 v10 x0 x1 x2 x3 x4 x5 x6 x7 x8 x9 x10 x11 x12 F N hs
  exact hf h' tk' mz t' tl nl tb' post ho' oc' lo' tu tr w1 w2 v1 v2 v3 v4 v5 v6 v9 v10 x0 x1 x2 x3 x4 x5 x6 x7 x8 x9 x10 x11 x12 F (newsub N hs)
theorem hd_mem {m : Bool} {H0 : Hd} (y : H0.more = m) {P : Params} {l : Led} {a0 : Addr} {e01 e02 e03 e04 e05 e06 e07 e08 e09 e010 f01 f02 f03 f04 f05 f06 f09 f00 : Tok} (q : (a0, hdObj P H0 e01 e02 e03 e04 e05 e06 e07 e08 e09 e010 f01 f02 f03 f04 f05 f06 f09 f00) ∈ l) : (a0, (dictOf [⟨PyData.keyHash P (Str.ofString "source"), Value.str (Str.ofString "source") e01, Value.int H0.src f01⟩, ⟨PyData.keyHash P (Str.ofString "target"), Value.str (Str.ofString "target") e02, Value.int H0.tgt f02⟩, ⟨PyData.keyHash P (Str.ofString "protocol"), Value.str (Str.ofString "protocol") e03, Value.int H0.prot f03⟩, ⟨PyData.keyHash P (Str.ofString "ident"), Value.str (Str.ofString "ident") e04, Value.int H0.ident f04⟩, ⟨PyData.keyHash P (Str.ofString "ttl"), Value.str (Str.ofString "ttl") e05, Value.int H0.ttl f05⟩, ⟨PyData.keyHash P (Str.ofString "tos"), Value.str (Str.ofString "tos") e06, Value.int H0.tos f06⟩, ⟨PyData.keyHash P (Str.ofString "dont"), Value.str (Str.ofString "dont") e07, Value.bool H0.dont⟩, ⟨PyData.keyHash P (Str.ofString "more"), Value.str (Str.ofString "more") e08, Value.bool m⟩, ⟨PyData.keyHash P (Str.ofString "offset"), Value.str (Str.ofString "offset") e09, Value.int H0.off f09⟩, ⟨PyData.keyHash P (Str.ofString "options"), Value.str (Str.ofString "options") e010, Value.bytes #[] f00⟩] 10)) ∈ l := by
  unfold hdObj at q
  rw [y] at q
  exact q
theorem p2a : [(0 : Int), 8].Perm [0, 8] := by decide
theorem p2b : [(8 : Int), 0].Perm [0, 8] := by decide
theorem p3a : [(0 : Int), 8, 16].Perm [0, 8, 16] := by decide
theorem p3b : [(0 : Int), 16, 8].Perm [0, 8, 16] := by decide
theorem p3c : [(8 : Int), 0, 16].Perm [0, 8, 16] := by decide
theorem p3d : [(8 : Int), 16, 0].Perm [0, 8, 16] := by decide
theorem p3e : [(16 : Int), 0, 8].Perm [0, 8, 16] := by decide
theorem p3f : [(16 : Int), 8, 0].Perm [0, 8, 16] := by decide
set_option maxHeartbeats 2000000 in
theorem turn_fin0 {target : Expr} {w : World} {A : Around} {E : Value → Shared → Prop} {s : Shared} {env : Env} {h₀ : Heap} {body : List Stmt} {Q : Flow → Shared → Prop} (sto : List Str) {m₀ : Str → Option Value} {wd hd cx : Addr} {bs : Led} {D : Bool → Dat} {rows : List Row} {k : Nat} {c : Bool} {i : Nat} {ta : Bool} {S : Stt} {own post : Led} {la t hh tl : Addr} {ho' oc' lo' : Obj} {hs' kvs : List (Int × Value)} {tb : Tok} {nl : Nat} {mz : Str → Option Value} {h' h : Heap} {tk' tk : Nat}
    (tm : TM Challenge.rw_xw0340_01.row.prog w wd hd cx bs D rows k c i ta S own) (dok : (D c).Ok) (hH : HdAt w.params S.fz hh ((D c).hd i)) (hkv : LotKv w.params (D c) S.fz (rcv (rows.take k) c) kvs) (g : Grows (PostR Challenge.rw_xw0340_01.row.prog w wd (D c) (entOf (D !c).n S.ow2) (cellsOf w.params S.ow2 ++ S.fz) S.fz (rcv (rows.take k) c ++ [i])) post) (hF : FreshOf ((wd, S.wo) :: cellsOf w.params S.ow) (cellsOf w.params S.ow2 ++ S.fz) ((hd, S.ho) :: (cx, S.oc) :: (S.lt.toList ++ (S.lt2.toList ++ own))) post)
    (hla : ∀ p ∈ post ++ ((hd, S.ho) :: (cx, S.oc) :: (S.lt2.toList ++ own)), p.1 ≠ la) (ht : ∀ p ∈ post ++ (S.lt2.toList ++ own), p.1 ≠ t) (ht1 : hd ≠ t) (ht2 : cx ≠ t) (ht3 : la ≠ t) (hcv : oc'.data = .cell (some (.ref la))) (hsm : (la == sysModules) = false)
    (hho : ho'.IsDictOf (PySem.intKind Challenge.rw_xw0340_01.row.prog w) hs') (hhl : hs'.length ≤ k + 1) (hv : valueAt hs' (D c).n = some (.ref la)) (hv2 : valueAt hs' (D !c).n = valueAt S.hs (D !c).n)
    (hst : lo'.IsDictOf (PySem.intKind Challenge.rw_xw0340_01.row.prog w) (stored kvs ((D c).hd i).off (.ref t))) (mt : mz (Str.ofString "told") = some (.ref tl)) (mta : mz (Str.ofString "to_all") = some (.bool ta)) (hm : ∀ z, sto.contains z = false → mz z = m₀ z)
    (he' : (rcv (rows.take k) c ++ [i]).length ≤ (D c).many) (F : Fr h₀ env.locals h' mz) (N : News h₀ env.locals h' ((tl, listOf #[] nl) :: (hd, ho') :: (cx, oc') :: (la, lo') :: (t, lotTup hh ((D c).b i) tb) :: (post ++ (S.lt2.toList ++ own))))
    (rk2 : ∀ (Z : Flow → Shared → Prop) (ta : Bool) (kv : List (Int × Value)) (la tl : Addr) (lo oc : Obj) (nl : Nat) (mz : Str → Option Value) (need : Led) (h : Heap) (tk : Nat), mz (Str.ofString "told") = some (.ref tl) → mz (Str.ofString "to_all") = some (.bool ta) → oc.data = .cell (some (.ref la)) → (la == sysModules) = false → lo.IsDictOf (PySem.intKind Challenge.rw_xw0340_01.row.prog w) kv → kv.length ≤ 3 → valueAt kv 0 = none → FinR sto h₀ env.locals s mz ((cx, oc) :: (la, lo) :: need) Z → Fr h₀ env.locals h mz → News h₀ env.locals h ((tl, listOf #[] nl) :: (cx, oc) :: (la, lo) :: need) → wpAny (model Challenge.rw_xw0340_01.row.prog w) A (execs (body.drop 3) env) Z E { s with heap := h, toks := tk })
    (rk3 : ∀ (Z : Flow → Shared → Prop) (ta : Bool) (kv : List (Int × Value)) (la tl : Addr) (lo oc : Obj) (nl : Nat) (H0 : Hd) (b0 : Byt) (t0 h0 : Addr) (c0 : Tok) (a0 : Addr) (e01 e02 e03 e04 e05 e06 e07 e08 e09 e010 f01 f02 f03 f04 f05 f06 f09 f00 : Tok) (mz : Str → Option Value) (need : Led) (h : Heap) (tk : Nat), mz (Str.ofString "told") = some (.ref tl) → mz (Str.ofString "to_all") = some (.bool ta) → oc.data = .cell (some (.ref la)) → (la == sysModules) = false → lo.IsDictOf (PySem.intKind Challenge.rw_xw0340_01.row.prog w) kv → kv.length ≤ 3 → valueAt kv 0 = some (.ref t0) → b0.size = 8 → valueAt kv 8 = none → FinR sto h₀ env.locals s mz ((cx, oc) :: (la, lo) :: need) Z → Fr h₀ env.locals h mz → News h₀ env.locals h ((tl, listOf #[] nl) :: (t0, lotTup h0 b0 c0) :: (h0, instObj 74 a0) :: (a0, (dictOf [leftact% source e01 (Value.int H0.src f01), leftact% target e02 (Value.int H0.tgt f02), leftact% protocol e03 (Value.int H0.prot f03), leftact% ident e04 (Value.int H0.ident f04), leftact% ttl e05 (Value.int H0.ttl f05), leftact% tos e06 (Value.int H0.tos f06), leftact% dont e07 (Value.bool H0.dont), leftact% more e08 (Value.bool true), leftact% offset e09 (Value.int H0.off f09), leftact% options e010 (Value.bytes #[] f00)] 10)) :: (cx, oc) :: (la, lo) :: need) → wpAny (model Challenge.rw_xw0340_01.row.prog w) A (execs (body.drop 3) env) Z E { s with heap := h, toks := tk })
    (rk5 : ∀ (Z : Flow → Shared → Prop) (ta : Bool) (kv : List (Int × Value)) (la tl : Addr) (lo oc : Obj) (nl : Nat) (H0 H1 : Hd) (b0 b1 : Byt) (t0 h0 : Addr) (c0 : Tok) (a0 : Addr) (e01 e02 e03 e04 e05 e06 e07 e08 e09 e010 f01 f02 f03 f04 f05 f06 f09 f00 : Tok) (t1 h1 : Addr) (c1 : Tok) (a1 : Addr) (e11 e12 e13 e14 e15 e16 e17 e18 e19 e110 f11 f12 f13 f14 f15 f16 f19 f10 : Tok) (mz : Str → Option Value) (need : Led) (h : Heap) (tk : Nat), mz (Str.ofString "told") = some (.ref tl) → mz (Str.ofString "to_all") = some (.bool ta) → oc.data = .cell (some (.ref la)) → (la == sysModules) = false → lo.IsDictOf (PySem.intKind Challenge.rw_xw0340_01.row.prog w) kv → kv.length ≤ 3 → valueAt kv 0 = some (.ref t0) → b0.size = 8 → valueAt kv 8 = some (.ref t1) → b1.size = 8 → valueAt kv 16 = none → FinR sto h₀ env.locals s mz ((cx, oc) :: (la, lo) :: need) Z → Fr h₀ env.locals h mz → News h₀ env.locals h ((tl, listOf #[] nl) :: (t0, lotTup h0 b0 c0) :: (h0, instObj 74 a0) :: (a0, (dictOf [leftact% source e01 (Value.int H0.src f01), leftact% target e02 (Value.int H0.tgt f02), leftact% protocol e03 (Value.int H0.prot f03), leftact% ident e04 (Value.int H0.ident f04), leftact% ttl e05 (Value.int H0.ttl f05), leftact% tos e06 (Value.int H0.tos f06), leftact% dont e07 (Value.bool H0.dont), leftact% more e08 (Value.bool true), leftact% offset e09 (Value.int H0.off f09), leftact% options e010 (Value.bytes #[] f00)] 10)) :: (t1, lotTup h1 b1 c1) :: (h1, instObj 74 a1) :: (a1, (dictOf [leftact% source e11 (Value.int H1.src f11), leftact% target e12 (Value.int H1.tgt f12), leftact% protocol e13 (Value.int H1.prot f13), leftact% ident e14 (Value.int H1.ident f14), leftact% ttl e15 (Value.int H1.ttl f15), leftact% tos e16 (Value.int H1.tos f16), leftact% dont e17 (Value.bool H1.dont), leftact% more e18 (Value.bool true), leftact% offset e19 (Value.int H1.off f19), leftact% options e110 (Value.bytes #[] f10)] 10)) :: (cx, oc) :: (la, lo) :: need) → wpAny (model Challenge.rw_xw0340_01.row.prog w) A (execs (body.drop 3) env) Z E { s with heap := h, toks := tk }) :
    wpAny (model Challenge.rw_xw0340_01.row.prog w) A (execs (body.drop 3) env) (TurnPost h₀ env.locals (JR Challenge.rw_xw0340_01.row.prog w wd hd cx bs D rows sto m₀ (k + 1)) own { s with heap := h, toks := tk } Q) E { s with heap := h', toks := tk' } := by
  obtain ⟨-, -, hle, hni, hrl, hall⟩ := rcv_take tm.rok tm.row
  dsimp only at hle hni hrl hall
  have hnd : (rcv (rows.take k) c).Nodup := (tm.rok.nd c).sublist (by unfold rcv; exact (List.Sublist.filter _ (List.take_sublist _ _)).map _)
  have hm2 := dok.many
  have hi2 : i ≤ 2 := Nat.le_trans hle hm2
  have h2 : ∀ j ∈ rcv (rows.take k) c, j ≤ 2 := fun j hj => Nat.le_trans (hall j hj) hm2
  have hst' := hkv.stored_eq (v := Value.ref t) hi2 h2 hni
  have hlo : lo'.IsDictOf (PySem.intKind Challenge.rw_xw0340_01.row.prog w) (kvs ++ [(offOf i, .ref t)]) := by rw [← hst']; exact hst
  have hL : LotKv w.params (D c) ((t, lotTup hh ((D c).b i) tb) :: S.fz) (rcv (rows.take k) c ++ [i]) (kvs ++ [(offOf i, .ref t)]) := LotKv.snoc (tb := tb) (.head _) (hH.mono fun p hp => .tail _ hp) (hkv.mono fun p hp => .tail _ hp)
  have hn' : (rcv (rows.take k) c ++ [i]).Nodup := by
    rw [List.nodup_append]
    exact ⟨hnd, by simp, fun a ha b hb e => hni (by rw [List.mem_singleton.mp hb] at e; exact e ▸ ha)⟩
  have hle' : ∀ j ∈ (rcv (rows.take k) c ++ [i]), j ≤ (D c).many := fun j hj => (List.mem_append.mp hj).elim (hall j) fun x => by rw [List.mem_singleton.mp x]; exact hle
  have hl3 : (rcv (rows.take k) c ++ [i]).length ≤ 3 := by simp only [List.length_append, List.length_cons, List.length_nil]; omega
  have he : (rcv (rows.take k) c ++ [i]).length ≤ (D c).many := he'
  have hsub : ∀ p ∈ (t, lotTup hh ((D c).b i) tb) :: S.fz, p ∈ (tl, listOf #[] nl) :: (hd, ho') :: (cx, oc') :: (la, lo') :: (t, lotTup hh ((D c).b i) tb) :: (post ++ (S.lt2.toList ++ own)) := fun p hp => by
    rcases List.mem_cons.mp hp with rfl | hp
    · simp
    · have := postR_sub g p (List.mem_append.mpr (.inr hp)); simp [this]
  obtain ⟨need, hneed⟩ : ∃ need : Led, need = (hd, ho') :: (t, lotTup hh ((D c).b i) tb) :: (post ++ (S.lt2.toList ++ own)) := ⟨_, rfl⟩
  have ht' : ∀ p ∈ post ++ ((hd, S.ho) :: (cx, S.oc) :: ((la, lo') :: (S.lt2.toList ++ own))), p.1 ≠ t := fun p hp => by
    rcases List.mem_append.mp hp with h | h
    · exact ht p (List.mem_append.mpr (.inl h))
    rcases List.mem_cons.mp h with rfl | h
    · exact ht1
    rcases List.mem_cons.mp h with rfl | h
    · exact ht2
    rcases List.mem_cons.mp h with rfl | h
    · exact ht3
    · exact ht p (List.mem_append.mpr (.inr h))
  have fin : FinR sto h₀ env.locals s mz ((cx, oc') :: (la, lo') :: need) (TurnPost h₀ env.locals (JR Challenge.rw_xw0340_01.row.prog w wd hd cx bs D rows sto m₀ (k + 1)) own { s with heap := h, toks := tk } Q) := by
    intro m'' h'' tk'' hmm F'' N''
    refine right_end (s₁ := { s with heap := h, toks := tk }) (tb := tb) (lo := lo') tm g hF hla ht' hcv hsm hho hhl hv hv2 hlo hkv hH F'' N'' (fun p hp => ?_) fun z hz => (hmm z hz).trans (hm z hz)
    rw [hneed]
    first | exact (by kcf_all : ∀ p ∈ _, p ∈ _) _ hp | (simp only [List.mem_cons, List.mem_append] at hp ⊢; rcases hp with h | h | h | h | h | h | h <;> simp [h])
  have N2 : News h₀ env.locals h' ((t, lotTup hh ((D c).b i) tb) :: S.fz) := fun p hp => N p (hsub p hp)
  have N0 : News h₀ env.locals h' ((cx, oc') :: (la, lo') :: need) := newsC N (.tail _ (.tail _ (.head _))) (newsC N (.tail _ (.tail _ (.tail _ (.head _)))) (hneed ▸ fun p hp => N p ((List.mem_cons.mp hp).elim (fun e => e ▸ .tail _ (.head _)) fun hp => .tail _ (.tail _ (.tail _ (.tail _ (hp)))))))
  have hl3' : (kvs ++ [(offOf i, Value.ref t)]).length ≤ 3 := hL.length ▸ hl3
  refine lot_lack dok hL hn' hle' he ?_ ?_ ?_
  · intro en
    exact rk2 _ ta _ la tl lo' oc' nl  mz need h' tk' mt mta hcv hsm hlo hl3' en fin F (newsC N (.head _) N0)
  · intro t0 h0 c0 e0 m0 x0 y0 z0 en
    obtain ⟨a0, e01, e02, e03, e04, e05, e06, e07, e08, e09, e010, f01, f02, f03, f04, f05, f06, f09, f00, p0, q0⟩ := x0
    exact rk3 _ ta _ la tl lo' oc' nl  ((D c).hd 0) ((D c).b 0) t0 h0 c0 a0 e01 e02 e03 e04 e05 e06 e07 e08 e09 e010 f01 f02 f03 f04 f05 f06 f09 f00 mz need h' tk' mt mta hcv hsm hlo hl3' e0 z0 en fin F (newsC N (.head _) (newsC N2 m0 (newsC N2 p0 (newsC N2 (hd_mem y0 q0) N0))))
  · intro t0 h0 c0 t1 h1 c1 e0 m0 x0 y0 z0 e1 m1 x1 y1 z1 en
    obtain ⟨a0, e01, e02, e03, e04, e05, e06, e07, e08, e09, e010, f01, f02, f03, f04, f05, f06, f09, f00, p0, q0⟩ := x0
    obtain ⟨a1, e11, e12, e13, e14, e15, e16, e17, e18, e19, e110, f11, f12, f13, f14, f15, f16, f19, f10, p1, q1⟩ := x1
    exact rk5 _ ta _ la tl lo' oc' nl  ((D c).hd 0) ((D c).hd 1) ((D c).b 0) ((D c).b 1) t0 h0 c0 a0 e01 e02 e03 e04 e05 e06 e07 e08 e09 e010 f01 f02 f03 f04 f05 f06 f09 f00 t1 h1 c1 a1 e11 e12 e13 e14 e15 e16 e17 e18 e19 e110 f11 f12 f13 f14 f15 f16 f19 f10 mz need h' tk' mt mta hcv hsm hlo hl3' e0 z0 e1 z1 en fin F (newsC N (.head _) (newsC N2 m0 (newsC N2 p0 (newsC N2 (hd_mem y0 q0) (newsC N2 m1 (newsC N2 p1 (newsC N2 (hd_mem y1 q1) N0)))))))
set_option maxHeartbeats 2000000 in
theorem turn_fin1 {target : Expr} {w : World} {A : Around} {E : Value → Shared → Prop} {s : Shared} {env : Env} {h₀ : Heap} {body : List Stmt} {Q : Flow → Shared → Prop} (sto : List Str) {m₀ : Str → Option Value} {wd hd cx : Addr} {bs : Led} {D : Bool → Dat} {rows : List Row} {k : Nat} {c : Bool} {i : Nat} {ta : Bool} {S : Stt} {own post : Led} {la t hh tl : Addr} {ho' oc' lo' : Obj} {hs' kvs : List (Int × Value)} {tb : Tok} {nl : Nat} {mz : Str → Option Value} {h' h : Heap} {tk' tk : Nat} {tu tr : Addr} {w1 w2 v1 v2 v3 v4 v5 v6 v9 v10 : Tok}
    (tm : TM Challenge.rw_xw0340_01.row.prog w wd hd cx bs D rows k c i ta S own) (dok : (D c).Ok) (hH : HdAt w.params S.fz hh ((D c).hd i)) (hkv : LotKv w.params (D c) S.fz (rcv (rows.take k) c) kvs) (g : Grows (PostR Challenge.rw_xw0340_01.row.prog w wd (D c) (entOf (D !c).n S.ow2) (cellsOf w.params S.ow2 ++ S.fz) S.fz (rcv (rows.take k) c ++ [i])) post) (hF : FreshOf ((wd, S.wo) :: cellsOf w.params S.ow) (cellsOf w.params S.ow2 ++ S.fz) ((hd, S.ho) :: (cx, S.oc) :: (S.lt.toList ++ (S.lt2.toList ++ own))) post)
    (hla : ∀ p ∈ post ++ ((hd, S.ho) :: (cx, S.oc) :: (S.lt2.toList ++ own)), p.1 ≠ la) (ht : ∀ p ∈ post ++ (S.lt2.toList ++ own), p.1 ≠ t) (ht1 : hd ≠ t) (ht2 : cx ≠ t) (ht3 : la ≠ t) (hcv : oc'.data = .cell (some (.ref la))) (hsm : (la == sysModules) = false)
    (hho : ho'.IsDictOf (PySem.intKind Challenge.rw_xw0340_01.row.prog w) hs') (hhl : hs'.length ≤ k + 1) (hv : valueAt hs' (D c).n = some (.ref la)) (hv2 : valueAt hs' (D !c).n = valueAt S.hs (D !c).n)
    (hst : lo'.IsDictOf (PySem.intKind Challenge.rw_xw0340_01.row.prog w) (stored kvs ((D c).hd i).off (.ref t))) (mt : mz (Str.ofString "told") = some (.ref tl)) (mta : mz (Str.ofString "to_all") = some (.bool ta)) (hm : ∀ z, sto.contains z = false → mz z = m₀ z)
    (he' : (rcv (rows.take k) c ++ [i]).length = (D c).many + 1) (F : Fr h₀ env.locals h' mz) (N : News h₀ env.locals h' ((tl, listOf #[Value.ref tu] nl) :: (tu, ({ cls := .type "tuple", data := .seq #[Value.str (Str.ofString "local") w1, Value.ref tr, Value.bytes (D c).whole w2, Value.bool ta] } : Obj)) :: (tr, ({ cls := .type "tuple", data := .seq #[Value.int ((D c).hd 0).src v1, Value.int ((D c).hd 0).tgt v2, Value.int ((D c).hd 0).prot v3, Value.int ((D c).hd 0).ident v4, Value.int ((D c).hd 0).ttl v5, Value.int ((D c).hd 0).tos v6, Value.bool ((D c).hd 0).dont, Value.bool false, Value.int 0 v9, Value.bytes #[] v10] } : Obj)) :: (hd, ho') :: (cx, oc') :: (la, lo') :: (t, lotTup hh ((D c).b i) tb) :: (post ++ (S.lt2.toList ++ own))))
    (rk1 : ∀ (Z : Flow → Shared → Prop) (ta : Bool) (kv : List (Int × Value)) (la tl : Addr) (lo oc : Obj) (nl : Nat) (H0 : Hd) (b0 : Byt) (t0 h0 : Addr) (c0 : Tok) (a0 : Addr) (e01 e02 e03 e04 e05 e06 e07 e08 e09 e010 f01 f02 f03 f04 f05 f06 f09 f00 : Tok) (tu tr : Addr) (w1 w2 v1 v2 v3 v4 v5 v6 v9 v10 : Tok) (mz : Str → Option Value) (need : Led) (h : Heap) (tk : Nat), mz (Str.ofString "told") = some (.ref tl) → mz (Str.ofString "to_all") = some (.bool ta) → oc.data = .cell (some (.ref la)) → (la == sysModules) = false → lo.IsDictOf (PySem.intKind Challenge.rw_xw0340_01.row.prog w) kv → kv.length ≤ 3 → (kv.map (·.1)).Perm [0] → b0.size ≤ 8 → valueAt kv 0 = some (.ref t0) → FinR sto h₀ env.locals s mz ((cx, oc) :: (la, lo) :: need) Z → Fr h₀ env.locals h mz → News h₀ env.locals h ((tl, listOf #[Value.ref tu] nl) :: (tu, ({ cls := .type "tuple", data := .seq #[Value.str (Str.ofString "local") w1, Value.ref tr, Value.bytes b0 w2, Value.bool ta] } : Obj)) :: (tr, ({ cls := .type "tuple", data := .seq #[Value.int H0.src v1, Value.int H0.tgt v2, Value.int H0.prot v3, Value.int H0.ident v4, Value.int H0.ttl v5, Value.int H0.tos v6, Value.bool H0.dont, Value.bool false, Value.int 0 v9, Value.bytes #[] v10] } : Obj)) :: (t0, lotTup h0 b0 c0) :: (h0, instObj 74 a0) :: (a0, (dictOf [leftact% source e01 (Value.int H0.src f01), leftact% target e02 (Value.int H0.tgt f02), leftact% protocol e03 (Value.int H0.prot f03), leftact% ident e04 (Value.int H0.ident f04), leftact% ttl e05 (Value.int H0.ttl f05), leftact% tos e06 (Value.int H0.tos f06), leftact% dont e07 (Value.bool H0.dont), leftact% more e08 (Value.bool false), leftact% offset e09 (Value.int H0.off f09), leftact% options e010 (Value.bytes #[] f00)] 10)) :: (cx, oc) :: (la, lo) :: need) → wpAny (model Challenge.rw_xw0340_01.row.prog w) A (execs (body.drop 3) env) Z E { s with heap := h, toks := tk })
    (rk4 : ∀ (Z : Flow → Shared → Prop) (ta : Bool) (kv : List (Int × Value)) (la tl : Addr) (lo oc : Obj) (nl : Nat) (H0 H1 : Hd) (b0 b1 : Byt) (t0 h0 : Addr) (c0 : Tok) (a0 : Addr) (e01 e02 e03 e04 e05 e06 e07 e08 e09 e010 f01 f02 f03 f04 f05 f06 f09 f00 : Tok) (t1 h1 : Addr) (c1 : Tok) (a1 : Addr) (e11 e12 e13 e14 e15 e16 e17 e18 e19 e110 f11 f12 f13 f14 f15 f16 f19 f10 : Tok) (tu tr : Addr) (w1 w2 v1 v2 v3 v4 v5 v6 v9 v10 : Tok) (mz : Str → Option Value) (need : Led) (h : Heap) (tk : Nat), mz (Str.ofString "told") = some (.ref tl) → mz (Str.ofString "to_all") = some (.bool ta) → oc.data = .cell (some (.ref la)) → (la == sysModules) = false → lo.IsDictOf (PySem.intKind Challenge.rw_xw0340_01.row.prog w) kv → kv.length ≤ 3 → (kv.map (·.1)).Perm [0, 8] → b1.size ≤ 8 → valueAt kv 0 = some (.ref t0) → b0.size = 8 → valueAt kv 8 = some (.ref t1) → FinR sto h₀ env.locals s mz ((cx, oc) :: (la, lo) :: need) Z → Fr h₀ env.locals h mz → News h₀ env.locals h ((tl, listOf #[Value.ref tu] nl) :: (tu, ({ cls := .type "tuple", data := .seq #[Value.str (Str.ofString "local") w1, Value.ref tr, Value.bytes (b0 ++ b1) w2, Value.bool ta] } : Obj)) :: (tr, ({ cls := .type "tuple", data := .seq #[Value.int H0.src v1, Value.int H0.tgt v2, Value.int H0.prot v3, Value.int H0.ident v4, Value.int H0.ttl v5, Value.int H0.tos v6, Value.bool H0.dont, Value.bool false, Value.int 0 v9, Value.bytes #[] v10] } : Obj)) :: (t0, lotTup h0 b0 c0) :: (h0, instObj 74 a0) :: (a0, (dictOf [leftact% source e01 (Value.int H0.src f01), leftact% target e02 (Value.int H0.tgt f02), leftact% protocol e03 (Value.int H0.prot f03), leftact% ident e04 (Value.int H0.ident f04), leftact% ttl e05 (Value.int H0.ttl f05), leftact% tos e06 (Value.int H0.tos f06), leftact% dont e07 (Value.bool H0.dont), leftact% more e08 (Value.bool true), leftact% offset e09 (Value.int H0.off f09), leftact% options e010 (Value.bytes #[] f00)] 10)) :: (t1, lotTup h1 b1 c1) :: (h1, instObj 74 a1) :: (a1, (dictOf [leftact% source e11 (Value.int H1.src f11), leftact% target e12 (Value.int H1.tgt f12), leftact% protocol e13 (Value.int H1.prot f13), leftact% ident e14 (Value.int H1.ident f14), leftact% ttl e15 (Value.int H1.ttl f15), leftact% tos e16 (Value.int H1.tos f16), leftact% dont e17 (Value.bool H1.dont), leftact% more e18 (Value.bool false), leftact% offset e19 (Value.int H1.off f19), leftact% options e110 (Value.bytes #[] f10)] 10)) :: (cx, oc) :: (la, lo) :: need) → wpAny (model Challenge.rw_xw0340_01.row.prog w) A (execs (body.drop 3) env) Z E { s with heap := h, toks := tk })
    (rk6 : ∀ (Z : Flow → Shared → Prop) (ta : Bool) (kv : List (Int × Value)) (la tl : Addr) (lo oc : Obj) (nl : Nat) (H0 H1 H2 : Hd) (b0 b1 b2 : Byt) (t0 h0 : Addr) (c0 : Tok) (a0 : Addr) (e01 e02 e03 e04 e05 e06 e07 e08 e09 e010 f01 f02 f03 f04 f05 f06 f09 f00 : Tok) (t1 h1 : Addr) (c1 : Tok) (a1 : Addr) (e11 e12 e13 e14 e15 e16 e17 e18 e19 e110 f11 f12 f13 f14 f15 f16 f19 f10 : Tok) (t2 h2 : Addr) (c2 : Tok) (a2 : Addr) (e21 e22 e23 e24 e25 e26 e27 e28 e29 e210 f21 f22 f23 f24 f25 f26 f29 f20 : Tok) (tu tr : Addr) (w1 w2 v1 v2 v3 v4 v5 v6 v9 v10 : Tok) (mz : Str → Option Value) (need : Led) (h : Heap) (tk : Nat), mz (Str.ofString "told") = some (.ref tl) → mz (Str.ofString "to_all") = some (.bool ta) → oc.data = .cell (some (.ref la)) → (la == sysModules) = false → lo.IsDictOf (PySem.intKind Challenge.rw_xw0340_01.row.prog w) kv → kv.length ≤ 3 → (kv.map (·.1)).Perm [0, 8, 16] → b2.size ≤ 8 → valueAt kv 0 = some (.ref t0) → b0.size = 8 → valueAt kv 8 = some (.ref t1) → b1.size = 8 → valueAt kv 16 = some (.ref t2) → FinR sto h₀ env.locals s mz ((cx, oc) :: (la, lo) :: need) Z → Fr h₀ env.locals h mz → News h₀ env.locals h ((tl, listOf #[Value.ref tu] nl) :: (tu, ({ cls := .type "tuple", data := .seq #[Value.str (Str.ofString "local") w1, Value.ref tr, Value.bytes (b0 ++ b1 ++ b2) w2, Value.bool ta] } : Obj)) :: (tr, ({ cls := .type "tuple", data := .seq #[Value.int H0.src v1, Value.int H0.tgt v2, Value.int H0.prot v3, Value.int H0.ident v4, Value.int H0.ttl v5, Value.int H0.tos v6, Value.bool H0.dont, Value.bool false, Value.int 0 v9, Value.bytes #[] v10] } : Obj)) :: (t0, lotTup h0 b0 c0) :: (h0, instObj 74 a0) :: (a0, (dictOf [leftact% source e01 (Value.int H0.src f01), leftact% target e02 (Value.int H0.tgt f02), leftact% protocol e03 (Value.int H0.prot f03), leftact% ident e04 (Value.int H0.ident f04), leftact% ttl e05 (Value.int H0.ttl f05), leftact% tos e06 (Value.int H0.tos f06), leftact% dont e07 (Value.bool H0.dont), leftact% more e08 (Value.bool true), leftact% offset e09 (Value.int H0.off f09), leftact% options e010 (Value.bytes #[] f00)] 10)) :: (t1, lotTup h1 b1 c1) :: (h1, instObj 74 a1) :: (a1, (dictOf [leftact% source e11 (Value.int H1.src f11), leftact% target e12 (Value.int H1.tgt f12), leftact% protocol e13 (Value.int H1.prot f13), leftact% ident e14 (Value.int H1.ident f14), leftact% ttl e15 (Value.int H1.ttl f15), leftact% tos e16 (Value.int H1.tos f16), leftact% dont e17 (Value.bool H1.dont), leftact% more e18 (Value.bool true), leftact% offset e19 (Value.int H1.off f19), leftact% options e110 (Value.bytes #[] f10)] 10)) :: (t2, lotTup h2 b2 c2) :: (h2, instObj 74 a2) :: (a2, (dictOf [leftact% source e21 (Value.int H2.src f21), leftact% target e22 (Value.int H2.tgt f22), leftact% protocol e23 (Value.int H2.prot f23), leftact% ident e24 (Value.int H2.ident f24), leftact% ttl e25 (Value.int H2.ttl f25), leftact% tos e26 (Value.int H2.tos f26), leftact% dont e27 (Value.bool H2.dont), leftact% more e28 (Value.bool false), leftact% offset e29 (Value.int H2.off f29), leftact% options e210 (Value.bytes #[] f20)] 10)) :: (cx, oc) :: (la, lo) :: need) → wpAny (model Challenge.rw_xw0340_01.row.prog w) A (execs (body.drop 3) env) Z E { s with heap := h, toks := tk }) :
    wpAny (model Challenge.rw_xw0340_01.row.prog w) A (execs (body.drop 3) env) (TurnPost h₀ env.locals (JR Challenge.rw_xw0340_01.row.prog w wd hd cx bs D rows sto m₀ (k + 1)) own { s with heap := h, toks := tk } Q) E { s with heap := h', toks := tk' } := by
  obtain ⟨-, -, hle, hni, hrl, hall⟩ := rcv_take tm.rok tm.row
  dsimp only at hle hni hrl hall
  have hnd : (rcv (rows.take k) c).Nodup := (tm.rok.nd c).sublist (by unfold rcv; exact (List.Sublist.filter _ (List.take_sublist _ _)).map _)
  have hm2 := dok.many
  have hi2 : i ≤ 2 := Nat.le_trans hle hm2
  have h2 : ∀ j ∈ rcv (rows.take k) c, j ≤ 2 := fun j hj => Nat.le_trans (hall j hj) hm2
  have hst' := hkv.stored_eq (v := Value.ref t) hi2 h2 hni
  have hlo : lo'.IsDictOf (PySem.intKind Challenge.rw_xw0340_01.row.prog w) (kvs ++ [(offOf i, .ref t)]) := by rw [← hst']; exact hst
  have hL : LotKv w.params (D c) ((t, lotTup hh ((D c).b i) tb) :: S.fz) (rcv (rows.take k) c ++ [i]) (kvs ++ [(offOf i, .ref t)]) := LotKv.snoc (tb := tb) (.head _) (hH.mono fun p hp => .tail _ hp) (hkv.mono fun p hp => .tail _ hp)
  have hn' : (rcv (rows.take k) c ++ [i]).Nodup := by
    rw [List.nodup_append]
    exact ⟨hnd, by simp, fun a ha b hb e => hni (by rw [List.mem_singleton.mp hb] at e; exact e ▸ ha)⟩
  have hle' : ∀ j ∈ (rcv (rows.take k) c ++ [i]), j ≤ (D c).many := fun j hj => (List.mem_append.mp hj).elim (hall j) fun x => by rw [List.mem_singleton.mp x]; exact hle
  have hl3 : (rcv (rows.take k) c ++ [i]).length ≤ 3 := by simp only [List.length_append, List.length_cons, List.length_nil]; omega
  have he : (rcv (rows.take k) c ++ [i]).length = (D c).many + 1 := he'
  have hsub : ∀ p ∈ (t, lotTup hh ((D c).b i) tb) :: S.fz, p ∈ (tl, listOf #[Value.ref tu] nl) :: (tu, ({ cls := .type "tuple", data := .seq #[Value.str (Str.ofString "local") w1, Value.ref tr, Value.bytes (D c).whole w2, Value.bool ta] } : Obj)) :: (tr, ({ cls := .type "tuple", data := .seq #[Value.int ((D c).hd 0).src v1, Value.int ((D c).hd 0).tgt v2, Value.int ((D c).hd 0).prot v3, Value.int ((D c).hd 0).ident v4, Value.int ((D c).hd 0).ttl v5, Value.int ((D c).hd 0).tos v6, Value.bool ((D c).hd 0).dont, Value.bool false, Value.int 0 v9, Value.bytes #[] v10] } : Obj)) :: (hd, ho') :: (cx, oc') :: (la, lo') :: (t, lotTup hh ((D c).b i) tb) :: (post ++ (S.lt2.toList ++ own)) := fun p hp => by
    rcases List.mem_cons.mp hp with rfl | hp
    · simp
    · have := postR_sub g p (List.mem_append.mpr (.inr hp)); simp [this]
  obtain ⟨need, hneed⟩ : ∃ need : Led, need = (hd, ho') :: (t, lotTup hh ((D c).b i) tb) :: (post ++ (S.lt2.toList ++ own)) := ⟨_, rfl⟩
  have ht' : ∀ p ∈ post ++ ((hd, S.ho) :: (cx, S.oc) :: ((la, lo') :: (S.lt2.toList ++ own))), p.1 ≠ t := fun p hp => by
    rcases List.mem_append.mp hp with h | h
    · exact ht p (List.mem_append.mpr (.inl h))
    rcases List.mem_cons.mp h with rfl | h
    · exact ht1
    rcases List.mem_cons.mp h with rfl | h
    · exact ht2
    rcases List.mem_cons.mp h with rfl | h
    · exact ht3
    · exact ht p (List.mem_append.mpr (.inr h))
  have fin : FinR sto h₀ env.locals s mz ((cx, oc') :: (la, lo') :: need) (TurnPost h₀ env.locals (JR Challenge.rw_xw0340_01.row.prog w wd hd cx bs D rows sto m₀ (k + 1)) own { s with heap := h, toks := tk } Q) := by
    intro m'' h'' tk'' hmm F'' N''
    refine right_end (s₁ := { s with heap := h, toks := tk }) (tb := tb) (lo := lo') tm g hF hla ht' hcv hsm hho hhl hv hv2 hlo hkv hH F'' N'' (fun p hp => ?_) fun z hz => (hmm z hz).trans (hm z hz)
    rw [hneed]
    first | exact (by kcf_all : ∀ p ∈ _, p ∈ _) _ hp | (simp only [List.mem_cons, List.mem_append] at hp ⊢; rcases hp with h | h | h | h | h | h | h <;> simp [h])
  have N2 : News h₀ env.locals h' ((t, lotTup hh ((D c).b i) tb) :: S.fz) := fun p hp => N p (hsub p hp)
  have N0 : News h₀ env.locals h' ((cx, oc') :: (la, lo') :: need) := newsC N (.tail _ (.tail _ (.tail _ (.tail _ (.head _))))) (newsC N (.tail _ (.tail _ (.tail _ (.tail _ (.tail _ (.head _)))))) (hneed ▸ fun p hp => N p ((List.mem_cons.mp hp).elim (fun e => e ▸ .tail _ (.tail _ (.tail _ (.head _)))) fun hp => .tail _ (.tail _ (.tail _ (.tail _ (.tail _ (.tail _ (hp)))))))))
  have hl3' : (kvs ++ [(offOf i, Value.ref t)]).length ≤ 3 := hL.length ▸ hl3
  have N1 := N _ (.tail _ (.head _))
  refine lot_all dok hL hn' hle' he ?_ ?_ ?_
  · intro t0 h0 c0 hwh hz hk e0 m0 x0 y0
    obtain ⟨a0, e01, e02, e03, e04, e05, e06, e07, e08, e09, e010, f01, f02, f03, f04, f05, f06, f09, f00, p0, q0⟩ := x0
    have hk : ((kvs ++ [(offOf i, Value.ref t)]).map (·.1)).Perm [0] := by rw [hk]
    exact rk1 _ ta _ la tl lo' oc' nl  ((D c).hd 0) ((D c).b 0) t0 h0 c0 a0 e01 e02 e03 e04 e05 e06 e07 e08 e09 e010 f01 f02 f03 f04 f05 f06 f09 f00 tu tr w1 w2 v1 v2 v3 v4 v5 v6 v9 v10 mz need h' tk' mt mta hcv hsm hlo hl3' hk hz e0 fin F (newsC N (.head _) (newsX (hwh ▸ N1) (newsC N (.tail _ (.tail _ (.head _))) (newsC N2 m0 (newsC N2 p0 (newsC N2 (hd_mem y0 q0) N0))))))
  · intro t0 h0 c0 t1 h1 c1 hwh hz hk e0 m0 x0 y0 z0 e1 m1 x1 y1
    obtain ⟨a0, e01, e02, e03, e04, e05, e06, e07, e08, e09, e010, f01, f02, f03, f04, f05, f06, f09, f00, p0, q0⟩ := x0
    obtain ⟨a1, e11, e12, e13, e14, e15, e16, e17, e18, e19, e110, f11, f12, f13, f14, f15, f16, f19, f10, p1, q1⟩ := x1
    have hk : ((kvs ++ [(offOf i, Value.ref t)]).map (·.1)).Perm [0, 8] := hk.elim (fun h => h ▸ p2a) fun h => h ▸ p2b
    exact rk4 _ ta _ la tl lo' oc' nl  ((D c).hd 0) ((D c).hd 1) ((D c).b 0) ((D c).b 1) t0 h0 c0 a0 e01 e02 e03 e04 e05 e06 e07 e08 e09 e010 f01 f02 f03 f04 f05 f06 f09 f00 t1 h1 c1 a1 e11 e12 e13 e14 e15 e16 e17 e18 e19 e110 f11 f12 f13 f14 f15 f16 f19 f10 tu tr w1 w2 v1 v2 v3 v4 v5 v6 v9 v10 mz need h' tk' mt mta hcv hsm hlo hl3' hk hz e0 z0 e1 fin F (newsC N (.head _) (newsX (hwh ▸ N1) (newsC N (.tail _ (.tail _ (.head _))) (newsC N2 m0 (newsC N2 p0 (newsC N2 (hd_mem y0 q0) (newsC N2 m1 (newsC N2 p1 (newsC N2 (hd_mem y1 q1) N0)))))))))
  · intro t0 h0 c0 t1 h1 c1 t2 h2 c2 hwh hz hk e0 m0 x0 y0 z0 e1 m1 x1 y1 z1 e2 m2 x2 y2
    obtain ⟨a0, e01, e02, e03, e04, e05, e06, e07, e08, e09, e010, f01, f02, f03, f04, f05, f06, f09, f00, p0, q0⟩ := x0
    obtain ⟨a1, e11, e12, e13, e14, e15, e16, e17, e18, e19, e110, f11, f12, f13, f14, f15, f16, f19, f10, p1, q1⟩ := x1
    obtain ⟨a2, e21, e22, e23, e24, e25, e26, e27, e28, e29, e210, f21, f22, f23, f24, f25, f26, f29, f20, p2, q2⟩ := x2
    have hk : ((kvs ++ [(offOf i, Value.ref t)]).map (·.1)).Perm [0, 8, 16] := hk.elim (fun h => h ▸ p3a) fun h => h.elim (fun h => h ▸ p3b) fun h => h.elim (fun h => h ▸ p3c) fun h => h.elim (fun h => h ▸ p3d) fun h => h.elim (fun h => h ▸ p3e) fun h => h ▸ p3f
    exact rk6 _ ta _ la tl lo' oc' nl  ((D c).hd 0) ((D c).hd 1) ((D c).hd 2) ((D c).b 0) ((D c).b 1) ((D c).b 2) t0 h0 c0 a0 e01 e02 e03 e04 e05 e06 e07 e08 e09 e010 f01 f02 f03 f04 f05 f06 f09 f00 t1 h1 c1 a1 e11 e12 e13 e14 e15 e16 e17 e18 e19 e110 f11 f12 f13 f14 f15 f16 f19 f10 t2 h2 c2 a2 e21 e22 e23 e24 e25 e26 e27 e28 e29 e210 f21 f22 f23 f24 f25 f26 f29 f20 tu tr w1 w2 v1 v2 v3 v4 v5 v6 v9 v10 mz need h' tk' mt mta hcv hsm hlo hl3' hk hz e0 z0 e1 z1 e2 fin F (newsC N (.head _) (newsX (hwh ▸ N1) (newsC N (.tail _ (.tail _ (.head _))) (newsC N2 m0 (newsC N2 p0 (newsC N2 (hd_mem y0 q0) (newsC N2 m1 (newsC N2 p1 (newsC N2 (hd_mem y1 q1) (newsC N2 m2 (newsC N2 p2 (newsC N2 (hd_mem y2 q2) N0))))))))))))


theorem stored_len {kvs : List (Int × Value)} {k : Int} {v : Value} {n : Nat} (h : kvs.length ≤ n) : (stored kvs k v).length ≤ n + 1 := by
  have := stored_length_le kvs k v; omega
theorem stored_none {kvs : List (Int × Value)} {k : Int} {v : Value} (h : valueAt kvs k = none) : stored kvs k v = kvs ++ [(k, v)] := by
  unfold valueAt at h
  simp only [Option.map_eq_none_iff, List.find?_eq_none, decide_eq_true_eq] at h
  unfold stored
  rw [if_neg]
  simp only [List.any_eq_true, decide_eq_true_eq, not_exists, not_and]
  exact fun x hx => h x hx
theorem valueAt_snoc {kvs : List (Int × Value)} {k : Int} {v : Value} (h : valueAt kvs k = none) : valueAt (kvs ++ [(k, v)]) k = some v := by
  unfold valueAt at h ⊢
  rw [Option.map_eq_none_iff] at h
  rw [List.find?_append, h]
  simp
theorem valueAt_snoc_ne {kvs : List (Int × Value)} {k k' : Int} {v : Value} (h : k ≠ k') : valueAt (kvs ++ [(k, v)]) k' = valueAt kvs k' := by
  unfold valueAt
  rw [List.find?_append]
  simp [h]
section
variable {w : World} {A : Around} {E : Value → Shared → Prop} {s : Shared} {env : Env} {h₀ : Heap} {target : Expr} {body : List Stmt} {Q : Flow → Shared → Prop}
set_option maxHeartbeats 2000000 in
theorem right_loop3 {KK : Params → Frag} (sto : List Str) {m₀ : Str → Option Value} {news bs : Led} {D : Bool → Dat} {rows : List Row} {vs : List Value} {nn : Nat} {rl lay ld wd hd cx : Addr} {wo LO ho oc : Obj} {cv : Option Value}
    (mk : RMark w wd lay ld rl wo LO bs D rows vs nn) (hh : A.handled = none) (F : Fr h₀ env.locals s.heap m₀) (N : News h₀ env.locals s.heap news) (mw : (wd, wo) ∈ news) (mh : (hd, ho) ∈ news) (mc : (cx, oc) ∈ news) (mb : ∀ p ∈ bs, p ∈ news) (hne : hd ≠ wd) (hb : ∀ p ∈ bs, p.1 ≠ hd) (hxw : cx ≠ wd) (hxh : cx ≠ hd) (hxb : ∀ p ∈ bs, p.1 ≠ cx) (hcv : oc.data = .cell cv) (hho : ho.IsDictOf (PySem.intKind Challenge.rw_xw0340_01.row.prog w) [])
    (hdel : ∀ (c : Bool) (i : Nat) (ta : Bool) (hh : Addr) (r : List Nat) (S : Stt) (zo : Int), HdAt w.params S.fz hh ((D c).hd i) → i ≤ (D c).many → i ∉ r → r.length ≤ (D c).many → (∀ p ∈ bs, p ∈ S.fz) → WObj Challenge.rw_xw0340_01.row.prog w S.wo S.xs → Oth w.params (cellsOf w.params S.ow2 ++ S.fz) (D c).n (entOf (D !c).n S.ow2) zo → 0 ≤ zo → zo ≤ 100 → Sep ((wd, S.wo) :: cellsOf w.params S.ow) (cellsOf w.params S.ow2 ++ S.fz) → SlotAt w.params S.fz (D c) r S.ow → WaitOf S.xs (entOf (D !c).n S.ow2) (D c).n S.ow → DelC KK w lay hh ((D c).b i) ta 1 ((wd, S.wo) :: cellsOf w.params S.ow) (cellsOf w.params S.ow2 ++ S.fz) (outOf (D c) (r ++ [i])) (Grows (PostR Challenge.rw_xw0340_01.row.prog w wd (D c) (entOf (D !c).n S.ow2) (cellsOf w.params S.ow2 ++ S.fz) S.fz (r ++ [i]))))
    (pn0 : ∀ (k : Nat) (c : Bool) (i : Nat) (ta : Bool) (t hh hha : Addr) (q1 q2 q3 q4 q5 q6 q7 q8 q9 q10 t1 t2 t3 t4 t5 t6 t9 t10 tn tb : Tok) (u : Str → Option Value) (S : Stt) (own : Led) (h : Heap) (tk : Nat) (cv : Option Value) (Z : Flow → Shared → Prop), TM Challenge.rw_xw0340_01.row.prog w wd hd cx bs D rows k c i ta S own → k < 100 → (D c).Ok → HdAt w.params S.fz hh ((D c).hd i) → (hh, instObj 74 hha) ∈ S.fz → (hha, (dictOf [leftact% source q1 (Value.int ((D c).hd i).src t1), leftact% target q2 (Value.int ((D c).hd i).tgt t2), leftact% protocol q3 (Value.int ((D c).hd i).prot t3), leftact% ident q4 (Value.int ((D c).hd i).ident t4), leftact% ttl q5 (Value.int ((D c).hd i).ttl t5), leftact% tos q6 (Value.int ((D c).hd i).tos t6), leftact% dont q7 (Value.bool ((D c).hd i).dont), leftact% more q8 (Value.bool ((D c).hd i).more), leftact% offset q9 (Value.int ((D c).hd i).off t9), leftact% options q10 (Value.bytes #[] t10)] 10)) ∈ S.fz → S.ho.IsDictOf (PySem.intKind Challenge.rw_xw0340_01.row.prog w) S.hs → S.hs.length ≤ k → S.oc.data = .cell cv → S.lt = none → valueAt S.hs (D c).n = none → DelC KK w lay hh ((D c).b i) ta 1 ((wd, S.wo) :: cellsOf w.params S.ow) (cellsOf w.params S.ow2 ++ S.fz) none (Grows (PostR Challenge.rw_xw0340_01.row.prog w wd (D c) (entOf (D !c).n S.ow2) (cellsOf w.params S.ow2 ++ S.fz) S.fz (rcv (rows.take k) c ++ [i]))) → Fr h₀ env.locals h (stoM sto u m₀) → News h₀ env.locals h ((t, ({ cls := .type "tuple", data := .seq #[Value.int (D c).n tn, Value.ref hh, Value.bytes ((D c).b i) tb, Value.bool ta] } : Obj)) :: (lay, instObj 349 ld) :: (ld, LO) :: (S.led w.params wd hd cx ++ own)) → FinN0 sto h₀ env.locals s u m₀ w wd hd cx D rows k c i ta S own hh Z → wpAny (model Challenge.rw_xw0340_01.row.prog w) A (assign target env (.ref t)) (fun _ s₃ => wpAny (model Challenge.rw_xw0340_01.row.prog w) A (execs (body.take 3) env) Z E s₃) E { s with heap := h, toks := tk })
    (pn1 : ∀ (k : Nat) (c : Bool) (i : Nat) (ta : Bool) (t hh hha : Addr) (q1 q2 q3 q4 q5 q6 q7 q8 q9 q10 t1 t2 t3 t4 t5 t6 t9 t10 tn tb : Tok) (u : Str → Option Value) (S : Stt) (own : Led) (h : Heap) (tk : Nat) (cv : Option Value) (Z : Flow → Shared → Prop), TM Challenge.rw_xw0340_01.row.prog w wd hd cx bs D rows k c i ta S own → k < 100 → (D c).Ok → HdAt w.params S.fz hh ((D c).hd i) → (hh, instObj 74 hha) ∈ S.fz → (hha, (dictOf [leftact% source q1 (Value.int ((D c).hd i).src t1), leftact% target q2 (Value.int ((D c).hd i).tgt t2), leftact% protocol q3 (Value.int ((D c).hd i).prot t3), leftact% ident q4 (Value.int ((D c).hd i).ident t4), leftact% ttl q5 (Value.int ((D c).hd i).ttl t5), leftact% tos q6 (Value.int ((D c).hd i).tos t6), leftact% dont q7 (Value.bool ((D c).hd i).dont), leftact% more q8 (Value.bool ((D c).hd i).more), leftact% offset q9 (Value.int ((D c).hd i).off t9), leftact% options q10 (Value.bytes #[] t10)] 10)) ∈ S.fz → S.ho.IsDictOf (PySem.intKind Challenge.rw_xw0340_01.row.prog w) S.hs → S.hs.length ≤ k → S.oc.data = .cell cv → S.lt = none → valueAt S.hs (D c).n = none → DelC KK w lay hh ((D c).b i) ta 1 ((wd, S.wo) :: cellsOf w.params S.ow) (cellsOf w.params S.ow2 ++ S.fz) (some (wholeHd ((D c).hd 0), (D c).whole)) (Grows (PostR Challenge.rw_xw0340_01.row.prog w wd (D c) (entOf (D !c).n S.ow2) (cellsOf w.params S.ow2 ++ S.fz) S.fz (rcv (rows.take k) c ++ [i]))) → Fr h₀ env.locals h (stoM sto u m₀) → News h₀ env.locals h ((t, ({ cls := .type "tuple", data := .seq #[Value.int (D c).n tn, Value.ref hh, Value.bytes ((D c).b i) tb, Value.bool ta] } : Obj)) :: (lay, instObj 349 ld) :: (ld, LO) :: (S.led w.params wd hd cx ++ own)) → FinN1 sto h₀ env.locals s u m₀ w wd hd cx D rows k c i ta S own hh Z → wpAny (model Challenge.rw_xw0340_01.row.prog w) A (assign target env (.ref t)) (fun _ s₃ => wpAny (model Challenge.rw_xw0340_01.row.prog w) A (execs (body.take 3) env) Z E s₃) E { s with heap := h, toks := tk })
    (po0 : ∀ (k : Nat) (c : Bool) (i : Nat) (ta : Bool) (t hh hha : Addr) (q1 q2 q3 q4 q5 q6 q7 q8 q9 q10 t1 t2 t3 t4 t5 t6 t9 t10 tn tb : Tok) (u : Str → Option Value) (S : Stt) (own : Led) (h : Heap) (tk : Nat) (cv : Option Value) (la : Addr) (lo : Obj) (kvs : List (Int × Value)) (Z : Flow → Shared → Prop), TM Challenge.rw_xw0340_01.row.prog w wd hd cx bs D rows k c i ta S own → k < 100 → (D c).Ok → HdAt w.params S.fz hh ((D c).hd i) → (hh, instObj 74 hha) ∈ S.fz → (hha, (dictOf [leftact% source q1 (Value.int ((D c).hd i).src t1), leftact% target q2 (Value.int ((D c).hd i).tgt t2), leftact% protocol q3 (Value.int ((D c).hd i).prot t3), leftact% ident q4 (Value.int ((D c).hd i).ident t4), leftact% ttl q5 (Value.int ((D c).hd i).ttl t5), leftact% tos q6 (Value.int ((D c).hd i).tos t6), leftact% dont q7 (Value.bool ((D c).hd i).dont), leftact% more q8 (Value.bool ((D c).hd i).more), leftact% offset q9 (Value.int ((D c).hd i).off t9), leftact% options q10 (Value.bytes #[] t10)] 10)) ∈ S.fz → S.ho.IsDictOf (PySem.intKind Challenge.rw_xw0340_01.row.prog w) S.hs → S.hs.length ≤ k → S.oc.data = .cell cv → S.lt = some (la, lo) → (la == sysModules) = false → valueAt S.hs (D c).n = some (.ref la) → lo.IsDictOf (PySem.intKind Challenge.rw_xw0340_01.row.prog w) kvs → kvs.length ≤ 100 → DelC KK w lay hh ((D c).b i) ta 1 ((wd, S.wo) :: cellsOf w.params S.ow) (cellsOf w.params S.ow2 ++ S.fz) none (Grows (PostR Challenge.rw_xw0340_01.row.prog w wd (D c) (entOf (D !c).n S.ow2) (cellsOf w.params S.ow2 ++ S.fz) S.fz (rcv (rows.take k) c ++ [i]))) → Fr h₀ env.locals h (stoM sto u m₀) → News h₀ env.locals h ((t, ({ cls := .type "tuple", data := .seq #[Value.int (D c).n tn, Value.ref hh, Value.bytes ((D c).b i) tb, Value.bool ta] } : Obj)) :: (lay, instObj 349 ld) :: (ld, LO) :: (S.led w.params wd hd cx ++ own)) → FinO0 sto h₀ env.locals s u m₀ w wd hd cx D rows k c i ta S own hh la kvs Z → wpAny (model Challenge.rw_xw0340_01.row.prog w) A (assign target env (.ref t)) (fun _ s₃ => wpAny (model Challenge.rw_xw0340_01.row.prog w) A (execs (body.take 3) env) Z E s₃) E { s with heap := h, toks := tk })
    (po1 : ∀ (k : Nat) (c : Bool) (i : Nat) (ta : Bool) (t hh hha : Addr) (q1 q2 q3 q4 q5 q6 q7 q8 q9 q10 t1 t2 t3 t4 t5 t6 t9 t10 tn tb : Tok) (u : Str → Option Value) (S : Stt) (own : Led) (h : Heap) (tk : Nat) (cv : Option Value) (la : Addr) (lo : Obj) (kvs : List (Int × Value)) (Z : Flow → Shared → Prop), TM Challenge.rw_xw0340_01.row.prog w wd hd cx bs D rows k c i ta S own → k < 100 → (D c).Ok → HdAt w.params S.fz hh ((D c).hd i) → (hh, instObj 74 hha) ∈ S.fz → (hha, (dictOf [leftact% source q1 (Value.int ((D c).hd i).src t1), leftact% target q2 (Value.int ((D c).hd i).tgt t2), leftact% protocol q3 (Value.int ((D c).hd i).prot t3), leftact% ident q4 (Value.int ((D c).hd i).ident t4), leftact% ttl q5 (Value.int ((D c).hd i).ttl t5), leftact% tos q6 (Value.int ((D c).hd i).tos t6), leftact% dont q7 (Value.bool ((D c).hd i).dont), leftact% more q8 (Value.bool ((D c).hd i).more), leftact% offset q9 (Value.int ((D c).hd i).off t9), leftact% options q10 (Value.bytes #[] t10)] 10)) ∈ S.fz → S.ho.IsDictOf (PySem.intKind Challenge.rw_xw0340_01.row.prog w) S.hs → S.hs.length ≤ k → S.oc.data = .cell cv → S.lt = some (la, lo) → (la == sysModules) = false → valueAt S.hs (D c).n = some (.ref la) → lo.IsDictOf (PySem.intKind Challenge.rw_xw0340_01.row.prog w) kvs → kvs.length ≤ 100 → DelC KK w lay hh ((D c).b i) ta 1 ((wd, S.wo) :: cellsOf w.params S.ow) (cellsOf w.params S.ow2 ++ S.fz) (some (wholeHd ((D c).hd 0), (D c).whole)) (Grows (PostR Challenge.rw_xw0340_01.row.prog w wd (D c) (entOf (D !c).n S.ow2) (cellsOf w.params S.ow2 ++ S.fz) S.fz (rcv (rows.take k) c ++ [i]))) → Fr h₀ env.locals h (stoM sto u m₀) → News h₀ env.locals h ((t, ({ cls := .type "tuple", data := .seq #[Value.int (D c).n tn, Value.ref hh, Value.bytes ((D c).b i) tb, Value.bool ta] } : Obj)) :: (lay, instObj 349 ld) :: (ld, LO) :: (S.led w.params wd hd cx ++ own)) → FinO1 sto h₀ env.locals s u m₀ w wd hd cx D rows k c i ta S own hh la kvs Z → wpAny (model Challenge.rw_xw0340_01.row.prog w) A (assign target env (.ref t)) (fun _ s₃ => wpAny (model Challenge.rw_xw0340_01.row.prog w) A (execs (body.take 3) env) Z E s₃) E { s with heap := h, toks := tk })
    (rk2 : ∀ (Z : Flow → Shared → Prop) (ta : Bool) (kv : List (Int × Value)) (la tl : Addr) (lo oc : Obj) (nl : Nat) (mz : Str → Option Value) (need : Led) (h : Heap) (tk : Nat), mz (Str.ofString "told") = some (.ref tl) → mz (Str.ofString "to_all") = some (.bool ta) → oc.data = .cell (some (.ref la)) → (la == sysModules) = false → lo.IsDictOf (PySem.intKind Challenge.rw_xw0340_01.row.prog w) kv → kv.length ≤ 3 → valueAt kv 0 = none → FinR sto h₀ env.locals s mz ((cx, oc) :: (la, lo) :: need) Z → Fr h₀ env.locals h mz → News h₀ env.locals h ((tl, listOf #[] nl) :: (cx, oc) :: (la, lo) :: need) → wpAny (model Challenge.rw_xw0340_01.row.prog w) A (execs (body.drop 3) env) Z E { s with heap := h, toks := tk })
    (rk3 : ∀ (Z : Flow → Shared → Prop) (ta : Bool) (kv : List (Int × Value)) (la tl : Addr) (lo oc : Obj) (nl : Nat) (H0 : Hd) (b0 : Byt) (t0 h0 : Addr) (c0 : Tok) (a0 : Addr) (e01 e02 e03 e04 e05 e06 e07 e08 e09 e010 f01 f02 f03 f04 f05 f06 f09 f00 : Tok) (mz : Str → Option Value) (need : Led) (h : Heap) (tk : Nat), mz (Str.ofString "told") = some (.ref tl) → mz (Str.ofString "to_all") = some (.bool ta) → oc.data = .cell (some (.ref la)) → (la == sysModules) = false → lo.IsDictOf (PySem.intKind Challenge.rw_xw0340_01.row.prog w) kv → kv.length ≤ 3 → valueAt kv 0 = some (.ref t0) → b0.size = 8 → valueAt kv 8 = none → FinR sto h₀ env.locals s mz ((cx, oc) :: (la, lo) :: need) Z → Fr h₀ env.locals h mz → News h₀ env.locals h ((tl, listOf #[] nl) :: (t0, lotTup h0 b0 c0) :: (h0, instObj 74 a0) :: (a0, (dictOf [leftact% source e01 (Value.int H0.src f01), leftact% target e02 (Value.int H0.tgt f02), leftact% protocol e03 (Value.int H0.prot f03), leftact% ident e04 (Value.int H0.ident f04), leftact% ttl e05 (Value.int H0.ttl f05), leftact% tos e06 (Value.int H0.tos f06), leftact% dont e07 (Value.bool H0.dont), leftact% more e08 (Value.bool true), leftact% offset e09 (Value.int H0.off f09), leftact% options e010 (Value.bytes #[] f00)] 10)) :: (cx, oc) :: (la, lo) :: need) → wpAny (model Challenge.rw_xw0340_01.row.prog w) A (execs (body.drop 3) env) Z E { s with heap := h, toks := tk })
    (rk5 : ∀ (Z : Flow → Shared → Prop) (ta : Bool) (kv : List (Int × Value)) (la tl : Addr) (lo oc : Obj) (nl : Nat) (H0 H1 : Hd) (b0 b1 : Byt) (t0 h0 : Addr) (c0 : Tok) (a0 : Addr) (e01 e02 e03 e04 e05 e06 e07 e08 e09 e010 f01 f02 f03 f04 f05 f06 f09 f00 : Tok) (t1 h1 : Addr) (c1 : Tok) (a1 : Addr) (e11 e12 e13 e14 e15 e16 e17 e18 e19 e110 f11 f12 f13 f14 f15 f16 f19 f10 : Tok) (mz : Str → Option Value) (need : Led) (h : Heap) (tk : Nat), mz (Str.ofString "told") = some (.ref tl) → mz (Str.ofString "to_all") = some (.bool ta) → oc.data = .cell (some (.ref la)) → (la == sysModules) = false → lo.IsDictOf (PySem.intKind Challenge.rw_xw0340_01.row.prog w) kv → kv.length ≤ 3 → valueAt kv 0 = some (.ref t0) → b0.size = 8 → valueAt kv 8 = some (.ref t1) → b1.size = 8 → valueAt kv 16 = none → FinR sto h₀ env.locals s mz ((cx, oc) :: (la, lo) :: need) Z → Fr h₀ env.locals h mz → News h₀ env.locals h ((tl, listOf #[] nl) :: (t0, lotTup h0 b0 c0) :: (h0, instObj 74 a0) :: (a0, (dictOf [leftact% source e01 (Value.int H0.src f01), leftact% target e02 (Value.int H0.tgt f02), leftact% protocol e03 (Value.int H0.prot f03), leftact% ident e04 (Value.int H0.ident f04), leftact% ttl e05 (Value.int H0.ttl f05), leftact% tos e06 (Value.int H0.tos f06), leftact% dont e07 (Value.bool H0.dont), leftact% more e08 (Value.bool true), leftact% offset e09 (Value.int H0.off f09), leftact% options e010 (Value.bytes #[] f00)] 10)) :: (t1, lotTup h1 b1 c1) :: (h1, instObj 74 a1) :: (a1, (dictOf [leftact% source e11 (Value.int H1.src f11), leftact% target e12 (Value.int H1.tgt f12), leftact% protocol e13 (Value.int H1.prot f13), leftact% ident e14 (Value.int H1.ident f14), leftact% ttl e15 (Value.int H1.ttl f15), leftact% tos e16 (Value.int H1.tos f16), leftact% dont e17 (Value.bool H1.dont), leftact% more e18 (Value.bool true), leftact% offset e19 (Value.int H1.off f19), leftact% options e110 (Value.bytes #[] f10)] 10)) :: (cx, oc) :: (la, lo) :: need) → wpAny (model Challenge.rw_xw0340_01.row.prog w) A (execs (body.drop 3) env) Z E { s with heap := h, toks := tk })
    (rk1 : ∀ (Z : Flow → Shared → Prop) (ta : Bool) (kv : List (Int × Value)) (la tl : Addr) (lo oc : Obj) (nl : Nat) (H0 : Hd) (b0 : Byt) (t0 h0 : Addr) (c0 : Tok) (a0 : Addr) (e01 e02 e03 e04 e05 e06 e07 e08 e09 e010 f01 f02 f03 f04 f05 f06 f09 f00 : Tok) (tu tr : Addr) (w1 w2 v1 v2 v3 v4 v5 v6 v9 v10 : Tok) (mz : Str → Option Value) (need : Led) (h : Heap) (tk : Nat), mz (Str.ofString "told") = some (.ref tl) → mz (Str.ofString "to_all") = some (.bool ta) → oc.data = .cell (some (.ref la)) → (la == sysModules) = false → lo.IsDictOf (PySem.intKind Challenge.rw_xw0340_01.row.prog w) kv → kv.length ≤ 3 → (kv.map (·.1)).Perm [0] → b0.size ≤ 8 → valueAt kv 0 = some (.ref t0) → FinR sto h₀ env.locals s mz ((cx, oc) :: (la, lo) :: need) Z → Fr h₀ env.locals h mz → News h₀ env.locals h ((tl, listOf #[Value.ref tu] nl) :: (tu, ({ cls := .type "tuple", data := .seq #[Value.str (Str.ofString "local") w1, Value.ref tr, Value.bytes b0 w2, Value.bool ta] } : Obj)) :: (tr, ({ cls := .type "tuple", data := .seq #[Value.int H0.src v1, Value.int H0.tgt v2, Value.int H0.prot v3, Value.int H0.ident v4, Value.int H0.ttl v5, Value.int H0.tos v6, Value.bool H0.dont, Value.bool false, Value.int 0 v9, Value.bytes #[] v10] } : Obj)) :: (t0, lotTup h0 b0 c0) :: (h0, instObj 74 a0) :: (a0, (dictOf [leftact% source e01 (Value.int H0.src f01), leftact% target e02 (Value.int H0.tgt f02), leftact% protocol e03 (Value.int H0.prot f03), leftact% ident e04 (Value.int H0.ident f04), leftact% ttl e05 (Value.int H0.ttl f05), leftact% tos e06 (Value.int H0.tos f06), leftact% dont e07 (Value.bool H0.dont), leftact% more e08 (Value.bool false), leftact% offset e09 (Value.int H0.off f09), leftact% options e010 (Value.bytes #[] f00)] 10)) :: (cx, oc) :: (la, lo) :: need) → wpAny (model Challenge.rw_xw0340_01.row.prog w) A (execs (body.drop 3) env) Z E { s with heap := h, toks := tk })
    (rk4 : ∀ (Z : Flow → Shared → Prop) (ta : Bool) (kv : List (Int × Value)) (la tl : Addr) (lo oc : Obj) (nl : Nat) (H0 H1 : Hd) (b0 b1 : Byt) (t0 h0 : Addr) (c0 : Tok) (a0 : Addr) (e01 e02 e03 e04 e05 e06 e07 e08 e09 e010 f01 f02 f03 f04 f05 f06 f09 f00 : Tok) (t1 h1 : Addr) (c1 : Tok) (a1 : Addr) (e11 e12 e13 e14 e15 e16 e17 e18 e19 e110 f11 f12 f13 f14 f15 f16 f19 f10 : Tok) (tu tr : Addr) (w1 w2 v1 v2 v3 v4 v5 v6 v9 v10 : Tok) (mz : Str → Option Value) (need : Led) (h : Heap) (tk : Nat), mz (Str.ofString "told") = some (.ref tl) → mz (Str.ofString "to_all") = some (.bool ta) → oc.data = .cell (some (.ref la)) → (la == sysModules) = false → lo.IsDictOf (PySem.intKind Challenge.rw_xw0340_01.row.prog w) kv → kv.length ≤ 3 → (kv.map (·.1)).Perm [0, 8] → b1.size ≤ 8 → valueAt kv 0 = some (.ref t0) → b0.size = 8 → valueAt kv 8 = some (.ref t1) → FinR sto h₀ env.locals s mz ((cx, oc) :: (la, lo) :: need) Z → Fr h₀ env.locals h mz → News h₀ env.locals h ((tl, listOf #[Value.ref tu] nl) :: (tu, ({ cls := .type "tuple", data := .seq #[Value.str (Str.ofString "local") w1, Value.ref tr, Value.bytes (b0 ++ b1) w2, Value.bool ta] } : Obj)) :: (tr, ({ cls := .type "tuple", data := .seq #[Value.int H0.src v1, Value.int H0.tgt v2, Value.int H0.prot v3, Value.int H0.ident v4, Value.int H0.ttl v5, Value.int H0.tos v6, Value.bool H0.dont, Value.bool false, Value.int 0 v9, Value.bytes #[] v10] } : Obj)) :: (t0, lotTup h0 b0 c0) :: (h0, instObj 74 a0) :: (a0, (dictOf [leftact% source e01 (Value.int H0.src f01), leftact% target e02 (Value.int H0.tgt f02), leftact% protocol e03 (Value.int H0.prot f03), leftact% ident e04 (Value.int H0.ident f04), leftact% ttl e05 (Value.int H0.ttl f05), leftact% tos e06 (Value.int H0.tos f06), leftact% dont e07 (Value.bool H0.dont), leftact% more e08 (Value.bool true), leftact% offset e09 (Value.int H0.off f09), leftact% options e010 (Value.bytes #[] f00)] 10)) :: (t1, lotTup h1 b1 c1) :: (h1, instObj 74 a1) :: (a1, (dictOf [leftact% source e11 (Value.int H1.src f11), leftact% target e12 (Value.int H1.tgt f12), leftact% protocol e13 (Value.int H1.prot f13), leftact% ident e14 (Value.int H1.ident f14), leftact% ttl e15 (Value.int H1.ttl f15), leftact% tos e16 (Value.int H1.tos f16), leftact% dont e17 (Value.bool H1.dont), leftact% more e18 (Value.bool false), leftact% offset e19 (Value.int H1.off f19), leftact% options e110 (Value.bytes #[] f10)] 10)) :: (cx, oc) :: (la, lo) :: need) → wpAny (model Challenge.rw_xw0340_01.row.prog w) A (execs (body.drop 3) env) Z E { s with heap := h, toks := tk })
    (rk6 : ∀ (Z : Flow → Shared → Prop) (ta : Bool) (kv : List (Int × Value)) (la tl : Addr) (lo oc : Obj) (nl : Nat) (H0 H1 H2 : Hd) (b0 b1 b2 : Byt) (t0 h0 : Addr) (c0 : Tok) (a0 : Addr) (e01 e02 e03 e04 e05 e06 e07 e08 e09 e010 f01 f02 f03 f04 f05 f06 f09 f00 : Tok) (t1 h1 : Addr) (c1 : Tok) (a1 : Addr) (e11 e12 e13 e14 e15 e16 e17 e18 e19 e110 f11 f12 f13 f14 f15 f16 f19 f10 : Tok) (t2 h2 : Addr) (c2 : Tok) (a2 : Addr) (e21 e22 e23 e24 e25 e26 e27 e28 e29 e210 f21 f22 f23 f24 f25 f26 f29 f20 : Tok) (tu tr : Addr) (w1 w2 v1 v2 v3 v4 v5 v6 v9 v10 : Tok) (mz : Str → Option Value) (need : Led) (h : Heap) (tk : Nat), mz (Str.ofString "told") = some (.ref tl) → mz (Str.ofString "to_all") = some (.bool ta) → oc.data = .cell (some (.ref la)) → (la == sysModules) = false → lo.IsDictOf (PySem.intKind Challenge.rw_xw0340_01.row.prog w) kv → kv.length ≤ 3 → (kv.map (·.1)).Perm [0, 8, 16] → b2.size ≤ 8 → valueAt kv 0 = some (.ref t0) → b0.size = 8 → valueAt kv 8 = some (.ref t1) → b1.size = 8 → valueAt kv 16 = some (.ref t2) → FinR sto h₀ env.locals s mz ((cx, oc) :: (la, lo) :: need) Z → Fr h₀ env.locals h mz → News h₀ env.locals h ((tl, listOf #[Value.ref tu] nl) :: (tu, ({ cls := .type "tuple", data := .seq #[Value.str (Str.ofString "local") w1, Value.ref tr, Value.bytes (b0 ++ b1 ++ b2) w2, Value.bool ta] } : Obj)) :: (tr, ({ cls := .type "tuple", data := .seq #[Value.int H0.src v1, Value.int H0.tgt v2, Value.int H0.prot v3, Value.int H0.ident v4, Value.int H0.ttl v5, Value.int H0.tos v6, Value.bool H0.dont, Value.bool false, Value.int 0 v9, Value.bytes #[] v10] } : Obj)) :: (t0, lotTup h0 b0 c0) :: (h0, instObj 74 a0) :: (a0, (dictOf [leftact% source e01 (Value.int H0.src f01), leftact% target e02 (Value.int H0.tgt f02), leftact% protocol e03 (Value.int H0.prot f03), leftact% ident e04 (Value.int H0.ident f04), leftact% ttl e05 (Value.int H0.ttl f05), leftact% tos e06 (Value.int H0.tos f06), leftact% dont e07 (Value.bool H0.dont), leftact% more e08 (Value.bool true), leftact% offset e09 (Value.int H0.off f09), leftact% options e010 (Value.bytes #[] f00)] 10)) :: (t1, lotTup h1 b1 c1) :: (h1, instObj 74 a1) :: (a1, (dictOf [leftact% source e11 (Value.int H1.src f11), leftact% target e12 (Value.int H1.tgt f12), leftact% protocol e13 (Value.int H1.prot f13), leftact% ident e14 (Value.int H1.ident f14), leftact% ttl e15 (Value.int H1.ttl f15), leftact% tos e16 (Value.int H1.tos f16), leftact% dont e17 (Value.bool H1.dont), leftact% more e18 (Value.bool true), leftact% offset e19 (Value.int H1.off f19), leftact% options e110 (Value.bytes #[] f10)] 10)) :: (t2, lotTup h2 b2 c2) :: (h2, instObj 74 a2) :: (a2, (dictOf [leftact% source e21 (Value.int H2.src f21), leftact% target e22 (Value.int H2.tgt f22), leftact% protocol e23 (Value.int H2.prot f23), leftact% ident e24 (Value.int H2.ident f24), leftact% ttl e25 (Value.int H2.ttl f25), leftact% tos e26 (Value.int H2.tos f26), leftact% dont e27 (Value.bool H2.dont), leftact% more e28 (Value.bool false), leftact% offset e29 (Value.int H2.off f29), leftact% options e210 (Value.bytes #[] f20)] 10)) :: (cx, oc) :: (la, lo) :: need) → wpAny (model Challenge.rw_xw0340_01.row.prog w) A (execs (body.drop 3) env) Z E { s with heap := h, toks := tk })
    (done : ∀ (u : Str → Option Value) (S : Stt) (h : Heap) (tk : Nat), S.Ok Challenge.rw_xw0340_01.row.prog w wd hd cx bs (D false) (D true) (rcv rows false) (rcv rows true) rows.length → Fr h₀ env.locals h (stoM sto u m₀) → News h₀ env.locals h (S.led w.params wd hd cx) → Q .next { s with heap := h, toks := tk }) :
    wpAny (model Challenge.rw_xw0340_01.row.prog w) A (pyIter (.ref rl)) (fun it s₂ => TurnsAt Challenge.rw_xw0340_01.row.prog w A h₀ env target body Q E it s₂) E s := by
  refine right_loop sto hh F N (st0 mk hne hb hxw hxh hxb hcv hho) ?_ mk.hl mk.hR mk.rok mk.dok mk.hne mk.ml mk.mld mk.hlen hdel ?_ done
  · intro p hp
    unfold Stt.led at hp
    simp only [cellsOf, Option.toList, List.mem_append, List.mem_cons, List.not_mem_nil, or_false, false_or] at hp
    rcases hp with (rfl | hp) | rfl | rfl
    · exact mw
    · exact mb p hp
    · exact mh
    · exact mc
  · intro k c i ta t hh' tn tb u S own h tk tm hk dok hH hd' F₁ N₁
    obtain ⟨hha, q1, q2, q3, q4, q5, q6, q7, q8, q9, q10, t1, t2, t3, t4, t5, t6, t9, t10, m1, m2⟩ := id hH
    have hl1 := tm.ok.l1
    have hS := tm.ok.h
    have hSl := tm.ok.hl
    obtain ⟨cv, hcv⟩ := tm.ok.cell
    have hrl : (rcv (rows.take k) c).length ≤ (D c).many := by
      obtain ⟨-, -, -, -, h5, -⟩ := rcv_take tm.rok tm.row
      exact h5
    have hdm := dok.many
    have hlen : (rcv (rows.take k) c ++ [i]).length = (D c).many + 1 ∨ (rcv (rows.take k) c ++ [i]).length ≤ (D c).many := by
      simp only [List.length_append, List.length_cons, List.length_nil]
      omega
    match hlt : S.lt, hl1 with
    | none, ⟨e1, e2⟩ =>
      have hkv : LotKv w.params (D c) S.fz (rcv (rows.take k) c) [] := by rw [e1]; exact .nil
      rcases hlen with he | he
      · refine wpAny_mono (pn1 k c i ta t hh' hha q1 q2 q3 q4 q5 q6 q7 q8 q9 q10 t1 t2 t3 t4 t5 t6 t9 t10 tn tb u S own h tk cv (fun f s' => match f with | .next => wpAny (model Challenge.rw_xw0340_01.row.prog w) A (execs (body.drop 3) env) (TurnPost h₀ env.locals (JR Challenge.rw_xw0340_01.row.prog w wd hd cx bs D rows sto m₀ (k + 1)) own { s with heap := h, toks := tk } Q) E s' | f => TurnPost h₀ env.locals (JR Challenge.rw_xw0340_01.row.prog w wd hd cx bs D rows sto m₀ (k + 1)) own { s with heap := h, toks := tk } Q f s') tm hk dok hH m1 m2 hS hSl hcv hlt e2 (by rw [show some (wholeHd ((D c).hd 0), (D c).whole) = outOf (D c) (rcv (rows.take k) c ++ [i]) by unfold outOf; rw [if_pos he]]; exact hd') F₁ N₁ ?_) (fun _ _ h => execs_cut 3 h fun f s' hz => by cases f <;> exact hz) (fun _ _ e => e)
        intro h' tk' mz la t' tl nl tb' post ho' oc' lo' tu tr w1 w2 v1 v2 v3 v4 v5 v6 v9 v10 g hF hla1 hla2 hla3 hsm ht ht1 ht2 ht3 hcv' hho' hst mt mta hm F' N'
        exact turn_fin1 (target := target) sto tm dok hH hkv g hF (fun p hp => by
          rcases List.mem_append.mp hp with h | h
          · exact hla1 p (List.mem_append.mpr (.inl h))
          rcases List.mem_cons.mp h with rfl | h
          · exact hla2
          rcases List.mem_cons.mp h with rfl | h
          · exact hla3
          · exact hla1 p (List.mem_append.mpr (.inr h))) ht ht1 ht2 ht3 hcv' hsm hho' (stored_len hSl) (by rw [stored_none e2]; exact valueAt_snoc e2) (by rw [stored_none e2]; exact valueAt_snoc_ne tm.ne) hst mt mta (fun z hz => by rw [hm z hz]; simp only [stoM, hz]; rfl) he F' N' rk1 rk4 rk6
      · refine wpAny_mono (pn0 k c i ta t hh' hha q1 q2 q3 q4 q5 q6 q7 q8 q9 q10 t1 t2 t3 t4 t5 t6 t9 t10 tn tb u S own h tk cv (fun f s' => match f with | .next => wpAny (model Challenge.rw_xw0340_01.row.prog w) A (execs (body.drop 3) env) (TurnPost h₀ env.locals (JR Challenge.rw_xw0340_01.row.prog w wd hd cx bs D rows sto m₀ (k + 1)) own { s with heap := h, toks := tk } Q) E s' | f => TurnPost h₀ env.locals (JR Challenge.rw_xw0340_01.row.prog w wd hd cx bs D rows sto m₀ (k + 1)) own { s with heap := h, toks := tk } Q f s') tm hk dok hH m1 m2 hS hSl hcv hlt e2 (by rw [show (none : Option (Hd × Byt)) = outOf (D c) (rcv (rows.take k) c ++ [i]) by unfold outOf; rw [if_neg (by omega)]]; exact hd') F₁ N₁ ?_) (fun _ _ h => execs_cut 3 h fun f s' hz => by cases f <;> exact hz) (fun _ _ e => e)
        intro h' tk' mz la t' tl nl tb' post ho' oc' lo' g hF hla1 hla2 hla3 hsm ht ht1 ht2 ht3 hcv' hho' hst mt mta hm F' N'
        exact turn_fin0 (target := target) sto tm dok hH hkv g hF (fun p hp => by
          rcases List.mem_append.mp hp with h | h
          · exact hla1 p (List.mem_append.mpr (.inl h))
          rcases List.mem_cons.mp h with rfl | h
          · exact hla2
          rcases List.mem_cons.mp h with rfl | h
          · exact hla3
          · exact hla1 p (List.mem_append.mpr (.inr h))) ht ht1 ht2 ht3 hcv' hsm hho' (stored_len hSl) (by rw [stored_none e2]; exact valueAt_snoc e2) (by rw [stored_none e2]; exact valueAt_snoc_ne tm.ne) hst mt mta (fun z hz => by rw [hm z hz]; simp only [stoM, hz]; rfl) he F' N' rk2 rk3 rk5
    | some (la, lo), ⟨e0, e1, kvs, e2, e3⟩ =>
      rcases hlen with he | he
      · refine wpAny_mono (po1 k c i ta t hh' hha q1 q2 q3 q4 q5 q6 q7 q8 q9 q10 t1 t2 t3 t4 t5 t6 t9 t10 tn tb u S own h tk cv la lo kvs (fun f s' => match f with | .next => wpAny (model Challenge.rw_xw0340_01.row.prog w) A (execs (body.drop 3) env) (TurnPost h₀ env.locals (JR Challenge.rw_xw0340_01.row.prog w wd hd cx bs D rows sto m₀ (k + 1)) own { s with heap := h, toks := tk } Q) E s' | f => TurnPost h₀ env.locals (JR Challenge.rw_xw0340_01.row.prog w wd hd cx bs D rows sto m₀ (k + 1)) own { s with heap := h, toks := tk } Q f s') tm hk dok hH m1 m2 hS hSl hcv hlt e0 e1 e2 (by rw [e3.length]; omega) (by rw [show some (wholeHd ((D c).hd 0), (D c).whole) = outOf (D c) (rcv (rows.take k) c ++ [i]) by unfold outOf; rw [if_pos he]]; exact hd') F₁ N₁ ?_) (fun _ _ h => execs_cut 3 h fun f s' hz => by cases f <;> exact hz) (fun _ _ e => e)
        intro h' tk' mz t' tl nl tb' post ho' oc' lo' tu tr w1 w2 v1 v2 v3 v4 v5 v6 v9 v10 g hF hla ht ht1 ht2 ht3 hcv' hho' hst mt mta hm F' N'
        exact turn_fin1 (target := target) sto tm dok hH e3 g hF hla ht ht1 ht2 ht3 hcv' e0 (by rw [hho']; exact hS) (Nat.le_succ_of_le hSl) e1 rfl hst mt mta (fun z hz => by rw [hm z hz]; simp only [stoM, hz]; rfl) he F' N' rk1 rk4 rk6
      · refine wpAny_mono (po0 k c i ta t hh' hha q1 q2 q3 q4 q5 q6 q7 q8 q9 q10 t1 t2 t3 t4 t5 t6 t9 t10 tn tb u S own h tk cv la lo kvs (fun f s' => match f with | .next => wpAny (model Challenge.rw_xw0340_01.row.prog w) A (execs (body.drop 3) env) (TurnPost h₀ env.locals (JR Challenge.rw_xw0340_01.row.prog w wd hd cx bs D rows sto m₀ (k + 1)) own { s with heap := h, toks := tk } Q) E s' | f => TurnPost h₀ env.locals (JR Challenge.rw_xw0340_01.row.prog w wd hd cx bs D rows sto m₀ (k + 1)) own { s with heap := h, toks := tk } Q f s') tm hk dok hH m1 m2 hS hSl hcv hlt e0 e1 e2 (by rw [e3.length]; omega) (by rw [show (none : Option (Hd × Byt)) = outOf (D c) (rcv (rows.take k) c ++ [i]) by unfold outOf; rw [if_neg (by omega)]]; exact hd') F₁ N₁ ?_) (fun _ _ h => execs_cut 3 h fun f s' hz => by cases f <;> exact hz) (fun _ _ e => e)
        intro h' tk' mz t' tl nl tb' post ho' oc' lo' g hF hla ht ht1 ht2 ht3 hcv' hho' hst mt mta hm F' N'
        exact turn_fin0 (target := target) sto tm dok hH e3 g hF hla ht ht1 ht2 ht3 hcv' e0 (by rw [hho']; exact hS) (Nat.le_succ_of_le hSl) e1 rfl hst mt mta (fun z hz => by rw [hm z hz]; simp only [stoM, hz]; rfl) he F' N' rk2 rk3 rk5
end


theorem comp_end2 {h₀ : Heap} {L I C D : Addr} {m : Str → Option Value} {s₁ : Shared} {oI oC oD : Obj} {S : List (Addr × Obj) → Prop} {rest : Value → List (Addr × Obj) → Prop} {y : Value} {h' : Heap} {tk : Nat} {all old : List (Addr × Obj)} {p q : Addr × Obj}
    (F : Fr h₀ L h' m) (N : News h₀ L h' (p :: q :: all)) (off : LCg.Off3 I C D old) (sub : ∀ x ∈ (I, oI) :: (C, oC) :: (D, oD) :: old, x ∈ all) (hp : @Ne Nat p.1 I ∧ @Ne Nat p.1 C ∧ @Ne Nat p.1 D) (hq : @Ne Nat q.1 I ∧ @Ne Nat q.1 C ∧ @Ne Nat q.1 D) (hS : S (p :: q :: old)) (r : rest y (p :: q :: old)) :
    LCg.CompEnd h₀ L m s₁ I oI C oC D oD S rest y { s₁ with heap := h', toks := tk } := by
  refine LCg.CompEnd.intro F N (p :: q :: old) (fun x hx => ?_) ⟨hp, hq, off⟩ hS r
  rcases List.mem_cons.mp hx with rfl | hx
  · simp [sub _ (.head _)]
  rcases List.mem_cons.mp hx with rfl | hx
  · simp [sub _ (.tail _ (.head _))]
  rcases List.mem_cons.mp hx with rfl | hx
  · simp [sub _ (.tail _ (.tail _ (.head _)))]
  rcases List.mem_cons.mp hx with rfl | hx
  · simp
  rcases List.mem_cons.mp hx with rfl | hx
  · simp
  · simp [sub _ (.tail _ (.tail _ (.tail _ hx)))]
section
variable {prog : Program} {w : World} {A : Around} {E : Value → Shared → Prop} {s : Shared} {h₀ : Heap} {L d : Addr} {news : Led} {o : Obj} {kvs : List (Int × Value)} {k k' : Int} {t : Tok} {v : Value} {x : Option Value}
theorem lot_in {Q : Value → Shared → Prop} (hk : k = k') (e : valueAt kvs k' = x) (N : News h₀ L s.heap news) (hp : (d, o) ∈ news) (hd : o.IsDictOf (PySem.intKind prog w) kvs) (lo : (d == sysModules) = false) (h : Q (.bool x.isSome) { s with toks := s.toks + 1 }) :
    wpAny (model prog w) A (compareOp .In (.int k t) (.ref d)) Q E s := by
  subst hk
  exact kda_in (knd := PySem.intKind prog w) N hp hd lo (intKind_is _ _ _ _) _ (by rw [e]) h
theorem tup_item {Q : Value → Shared → Prop} {value slice : PySem.Expr} {l : List Value} {j : Nat} {x' : Value} (N : News h₀ L s.heap news) (hm : (d, ({ cls := .type "tuple", data := .seq l.toArray } : Obj)) ∈ news)
    (hlo : -(2 ^ 63) ≤ k) (hhi : k < 2 ^ 63) (hj : seqIndex? k l.length = some j) (hx : l[j]? = some x') (h : Q x' s)
    (hs : subscripted slice false (.ref d) (.int k t) = operate [.ref d, .int k t] (getItem (.ref d) (.int k t))) :
    wpAny (model prog w) A (subscriptTail value slice (.ref d) (.int k t)) Q E s :=
  item_tupleT (l := l) ⟨_, (N _ hm).1, rfl, _, rfl⟩ hlo hhi hj hx h hs
theorem lot_item {Q : Value → Shared → Prop} {value slice : PySem.Expr} (hk : k = k') (e : valueAt kvs k' = some v) (N : News h₀ L s.heap news) (hp : (d, o) ∈ news) (hd : o.IsDictOf (PySem.intKind prog w) kvs) (h : Q v { s with toks := s.toks + 1 })
    (hs : subscripted slice false (.ref d) (.int k t) = operate [.ref d, .int k t] (getItem (.ref d) (.int k t))) (hg : ∀ r, letTemporaryGo value (.ref d) r = pure ()) :
    wpAny (model prog w) A (subscriptTail value slice (.ref d) (.int k t)) Q E s := by
  subst hk
  exact kda_item (knd := PySem.intKind prog w) N hp hd (intKind_is _ _ _ _) e h hs hg
end


theorem item3i {r : Int} (h0 : 0 ≤ r) (h3 : r < 3) : 0 ≤ ([2, 1, 0].getD r.toNat 0 : Int) ∧ ([2, 1, 0].getD r.toNat 0 : Int) ≤ 2 := by
  rcases three (Int.le_of_lt_add_one h3) h0 with rfl | rfl | rfl <;> decide
inductive LeftAt (P : Params) (tl : Led) (D : Dat) : List Value → List Nat → Prop
  | nil : LeftAt P tl D [] []
  | cons {t hh : Addr} {tb : Tok} {i : Nat} {vs : List Value} {is : List Nat} : (t, lotTup hh (D.b i) tb) ∈ tl → HdAt P tl hh (D.hd i) → LeftAt P tl D vs is → LeftAt P tl D (.ref t :: vs) (i :: is)
noncomputable def datOf (num : Int) (many : Nat) (ob : Byt) : Dat := ⟨num, many, fun i => KBy.picked ob (some (8 * (i : Int))) (some (if i < many then 8 * (i : Int) + 8 else (ob.size : Int))), (ob.size : Int)⟩
theorem datOf_ok {num : Int} {many : Nat} {ob : Byt} (hm : many ≤ 2) (h1 : 8 * many < ob.size) (h2 : ob.size ≤ 8 * many + 8) : (datOf num many ob).Ok := by
  refine ⟨hm, fun i hi => ?_, ?_, ?_, ?_⟩
  · have hi' : i < many := hi
    show (KBy.picked ob (some (8 * (i : Int))) (some (if i < many then 8 * (i : Int) + 8 else (ob.size : Int)))).size = 8
    rw [if_pos hi', show (8 * (i : Int)) = ((8 * i : Nat) : Int) by omega, show ((8 * i : Nat) : Int) + 8 = ((8 * i + 8 : Nat) : Int) by omega, picked_size (by omega) (by omega)]
    omega
  · show 8 * (many : Int) < (ob.size : Int)
    omega
  · show (ob.size : Int) ≤ 8 * (many : Int) + 8
    omega
  · show 8 * (many : Int) + ((KBy.picked ob (some (8 * (many : Int))) (some (if many < many then 8 * (many : Int) + 8 else (ob.size : Int)))).size : Int) = (ob.size : Int)
    rw [if_neg (Nat.lt_irrefl _), show (8 * (many : Int)) = ((8 * many : Nat) : Int) by omega, picked_size (by omega) (Nat.le_refl _)]
    omega
noncomputable def CutsOk (cvs : List Value) (many : Nat) : Prop := cvs.length = many ∧ ∀ i, i < many → ∃ t, cvs[i]? = some (.int (8 * (i : Int) + 8) t)
theorem cuts0 : CutsOk [] 0 := ⟨rfl, fun i h => absurd h (Nat.not_lt_zero i)⟩
theorem cuts1 {t : Tok} : CutsOk [.int 8 t] 1 := ⟨rfl, fun i h => by obtain rfl := Nat.lt_one_iff.mp h; exact ⟨t, rfl⟩⟩
theorem cuts2 {t u : Tok} : CutsOk [.int 8 t, .int 16 u] 2 := ⟨rfl, fun i h => by
  rcases qc2 (Nat.le_of_lt_succ h) rfl with rfl | rfl
  · exact ⟨t, rfl⟩
  · exact ⟨u, rfl⟩⟩
noncomputable def enOf (many : Nat) (e : Int) (i : Nat) : Int := if i < many then 8 * (i : Int) + 8 else e
theorem cuts_get {cvs : List Value} {many i : Nat} {e : Int} {te : Tok} {x : Value} (h : CutsOk cvs many) (hx : (cvs ++ [Value.int e te])[i]? = some x) : i ≤ many ∧ ∃ t, x = .int (enOf many e i) t := by
  obtain ⟨hl, hc⟩ := h
  unfold enOf
  by_cases hi : i < many
  · obtain ⟨t, ht⟩ := hc i hi
    rw [List.getElem?_append_left (hl ▸ hi), ht] at hx
    rw [if_pos hi]
    exact ⟨Nat.le_of_lt hi, t, (Option.some.inj hx).symm⟩
  · rw [List.getElem?_append_right (by omega)] at hx
    rw [if_neg hi]
    have e0 : i - cvs.length = 0 := by
      rcases Nat.eq_zero_or_pos (i - cvs.length) with h | h
      · exact h
      · rw [List.getElem?_eq_none h] at hx; cases hx
    rw [e0] at hx
    exact ⟨by omega, te, (Option.some.inj hx).symm⟩
theorem offOf_eq {i : Nat} (h : i ≤ 2) : offOf i = 8 * (i : Int) := by
  rcases qcm h with rfl | rfl | rfl <;> rfl
theorem newsA {h₀ h : Heap} {L : Addr} {a b : Led} (x : News h₀ L h a) (y : News h₀ L h b) : News h₀ L h (a ++ b) := List.forall_mem_append.mpr ⟨x, y⟩
noncomputable def MkPt (D : Dat) : Prop := D = D
section
variable {prog : Program} {w : World} {A : Around} {E : Value → Shared → Prop} {h₀ : Heap} {env : Env} {target : Expr} {body : List Stmt} {Q : Flow → Shared → Prop} {s : Shared} {ws : List (Addr × String)} {keep : Led}
theorem items_loop (all : List Value) (J : Nat → (Str → Option Value) → Led → Prop)
    (turn : ∀ (R : (Str → Option Value) → Led → Prop) i x m news v h tk, all[i]? = some x → J i m news → (∀ m' n', J (i + 1) m' n' → R m' n') → (Itm.pair (fun t => .int (i : Int) t) x).Is v h → Fr h₀ env.locals h m → AllObj ws (fun its => News h₀ env.locals h (its ++ news) →
      wpAny (model prog w) A (assign target env v) (fun _ s₂ => wpAny (model prog w) A (execs body env) (UnrPostW h₀ env.locals { s with heap := h, toks := tk } its (fun m' n' => SubL keep n' ∧ R m' n') Q) E s₂) E { s with heap := h, toks := tk }))
    (done : ∀ m news h tk, J all.length m news → Fr h₀ env.locals h m → News h₀ env.locals h news → Q .next { s with heap := h, toks := tk }) :
    ∀ (r : List Value) (k : Nat) (m : Str → Option Value) (news : Led), all.drop k = r → k ≤ all.length → J k m news → ItemsRest prog w A E h₀ env target body Q s ws keep (enumItems k r) m news := by
  intro r
  induction r with
  | nil =>
    intro k m news e hk j h tk F N
    have e1 : k = all.length := Nat.le_antisymm hk (List.drop_eq_nil_iff.mp e)
    exact done m news h tk (e1 ▸ j) F N
  | cons x r ih =>
    intro k m news e hk j v h tk hv F
    have hx : all[k]? = some x := by rw [← List.head?_drop, e]; rfl
    have hk2 : k + 1 ≤ all.length := by
      rcases Nat.lt_or_ge k all.length with h | h
      · exact h
      · rw [List.getElem?_eq_none h] at hx; cases hx
    exact turn _ k x m news v h tk hx j (fun m' n' j' => ih (k + 1) m' n' (by rw [← List.tail_drop, e]; rfl) hk2 j') hv F
structure PtS (P : Params) (D : Dat) (I cu l2 fl : Addr) (i : Nat) (vs : List Value) (new : Led) : Prop where
  left : LeftAt P new D vs (List.range i)
  len : vs.length = i
  gt : ∀ p ∈ new, @LT.lt Nat _ (I + 1) p.1
  f : @LT.lt Nat _ fl I
  l : @LT.lt Nat _ l2 I
  c : @LT.lt Nat _ cu I
  cf : cu ≠ fl
  lf : l2 ≠ fl
noncomputable def PtJ (P : Params) (sto : List Str) (m₀ : Str → Option Value) (D : Dat) (I cu l2 : Addr) (co lo : Obj) (i : Nat) (m : Str → Option Value) (nx : Led) : Prop :=
  (∀ z, sto.contains z = false → m z = m₀ z) ∧ ∃ (fl : Addr) (nn : Nat) (vs : List Value) (new : Led) (b : Int) (tb : Tok), m (Str.ofString "found") = some (.ref fl) ∧ m (Str.ofString "begin") = some (.int b tb) ∧ (i ≤ D.many → b = 8 * (i : Int)) ∧ PtS P D I cu l2 fl i vs new ∧ ∀ p ∈ (fl, listOf vs.toArray nn) :: (new ++ [(l2, lo), (cu, co)]), p ∈ nx
theorem pt_call (sto : List Str) {elts : List Expr} {k : Nat} {pos : Pos} {D : Dat} {cvs : List Value} {e num : Int} {te tn to tb : Tok} {ob : Byt} {l2 cu fl : Addr} {co : Obj} {n nn : Nat} {m₀ : Str → Option Value} {news : Led}
    (mk : MkPt D) (hh : A.handled = none) (F : Fr h₀ env.locals s.heap m₀) (N : News h₀ env.locals s.heap news) (ml : (l2, listOf (cvs ++ [Value.int e te]).toArray n) ∈ news) (mc : (cu, co) ∈ news) (mf : (fl, listOf [].toArray nn) ∈ news) (hc : CutsOk cvs D.many) (n1 : cu ≠ fl)
    (v1 : m₀ (Str.ofString "found") = some (.ref fl)) (v2 : m₀ (Str.ofString "begin") = some (.int 0 tb)) (v3 : m₀ (Str.ofString "cuts") = some (.ref cu)) (v4 : m₀ (Str.ofString "octets") = some (.bytes ob to)) (v5 : m₀ (Str.ofString "number") = some (.int num tn))
    (c3 : sto.contains (Str.ofString "cuts") = false) (c4 : sto.contains (Str.ofString "octets") = false) (c5 : sto.contains (Str.ofString "number") = false)
    (turn : ∀ (I : Addr) (R : (Str → Option Value) → Led → Prop) (i : Nat) (tx T t : Tok) (m₁ : Str → Option Value) (fl : Addr) (nn : Nat) (vs : List Value) (new : Led) (tb : Tok) (h : Heap) (tk : Nat) (o1 o2 : Obj), i ≤ D.many → (∀ m' n', PtJ w.params sto m₀ D I cu l2 co (listOf (cvs ++ [Value.int e te]).toArray n) (i + 1) m' n' → R m' n') → PtS w.params D I cu l2 fl i vs new → (∀ z, sto.contains z = false → m₁ z = m₀ z) → m₁ (Str.ofString "found") = some (.ref fl) → m₁ (Str.ofString "begin") = some (.int (8 * (i : Int)) tb) → m₁ (Str.ofString "cuts") = some (.ref cu) → m₁ (Str.ofString "octets") = some (.bytes ob to) → m₁ (Str.ofString "number") = some (.int num tn) → @LT.lt Nat _ fl I → cu ≠ fl → l2 ≠ fl → (∀ p ∈ new, p.1 ≠ fl) → vs.length ≤ 1000 → IsTup h T #[.int (i : Int) t, .int (enOf D.many e i) tx] → Fr h₀ env.locals h m₁ → News h₀ env.locals h ((I + 1, o1) :: (I, o2) :: (fl, listOf vs.toArray nn) :: (new ++ [(l2, listOf (cvs ++ [Value.int e te]).toArray n), (cu, co)])) →
      wpAny (model prog w) A (assign (.Tuple elts k pos) env (.ref T)) (fun _ s₂ => wpAny (model prog w) A (execs body env) (UnrPostW h₀ env.locals { s with heap := h, toks := tk } [(I + 1, o1), (I, o2)] (fun m' n' => SubL [(l2, listOf (cvs ++ [Value.int e te]).toArray n)] n' ∧ R m' n') Q) E s₂) E { s with heap := h, toks := tk })
    (hm2 : D.many ≤ 2)
    (done : ∀ (m₁ : Str → Option Value) (fl : Addr) (nn : Nat) (vs : List Value) (new : Led) (h : Heap) (tk : Nat), m₁ (Str.ofString "found") = some (.ref fl) → LeftAt w.params new D vs (List.range (D.many + 1)) → (∀ p ∈ new, p.1 ≠ cu) → fl ≠ cu → Fr h₀ env.locals h m₁ → News h₀ env.locals h ((fl, listOf vs.toArray nn) :: (new ++ [(l2, listOf (cvs ++ [Value.int e te]).toArray n), (cu, co)])) → Q .next { s with heap := h, toks := tk }) :
    wpAny (model prog w) A (call (.type "enumerate") [.ref l2]) (fun xv s₁ => wpAny (model prog w) A (pyIter xv) (fun it s₂ => TurnsAt prog w A h₀ env (.Tuple elts k pos) body Q E it s₂) E s₁) E s := by
  have n2 : l2 ≠ fl := fun e9 => by
    have h1 : s.heap.get? l2 = some (listOf (cvs ++ [Value.int e te]).toArray n) := (N _ ml).1
    have h2 : s.heap.get? fl = some (listOf [].toArray nn) := (N _ mf).1
    rw [e9, h2] at h1
    have h3 := Option.some.inj h1
    simp [PySem.W.listOf] at h3
  refine ktu_enum hh F N ml rfl rfl rfl fun I hI => ?_
  refine items_loop (cvs ++ [Value.int e te]) (PtJ w.params sto m₀ D I cu l2 co (listOf (cvs ++ [Value.int e te]).toArray n)) ?_ ?_ _ 0 m₀ news rfl (Nat.zero_le _) ⟨fun _ _ => rfl, fl, nn, [], [], 0, tb, v1, v2, fun _ => rfl, ⟨.nil, rfl, fun p hp => (nomatch hp), hI _ mf, hI _ ml, hI _ mc, n1, n2⟩, List.forall_mem_cons.mpr ⟨mf, List.forall_mem_cons.mpr ⟨ml, List.forall_mem_cons.mpr ⟨mc, List.forall_mem_nil _⟩⟩⟩⟩
  · intro R i x m₁ nx v h tk hx hJ hR hv F₁
    obtain ⟨hi, tx, rfl⟩ := cuts_get hc hx
    obtain ⟨hm, fl, nn, vs, new, b, tb, a1, a2, a3, S, hs⟩ := hJ
    obtain ⟨T, t, rfl, hT⟩ := hv
    have e1 := a3 hi
    subst e1
    refine AllObj.cons fun o1 _ => AllObj.cons fun o2 _ => AllObj.nil fun N₁ => ?_
    exact turn I R i tx T t m₁ fl nn vs new tb h tk o1 o2 hi hR S hm a1 a2 ((hm _ c3).trans v3) ((hm _ c4).trans v4) ((hm _ c5).trans v5) S.f S.cf S.lf (fun p hp => Nat.ne_of_gt (Nat.lt_trans S.f (Nat.lt_of_succ_lt (S.gt p hp)))) (by rw [S.len]; omega) hT F₁ (newsub N₁ (List.forall_mem_cons.mpr ⟨.head _, List.forall_mem_cons.mpr ⟨.tail _ (.head _), fun p hp => .tail _ (.tail _ (hs p hp))⟩⟩))
  · intro m₁ nx h tk hJ F₁ N₁
    obtain ⟨hm, fl, nn, vs, new, b, tb, a1, a2, a3, S, hs⟩ := hJ
    have el : (cvs ++ [Value.int e te]).length = D.many + 1 := by rw [List.length_append, hc.1]; rfl
    rw [el] at S
    exact done m₁ fl nn vs new h tk a1 S.left (fun p hp => Nat.ne_of_gt (Nat.lt_trans S.c (Nat.lt_of_succ_lt (S.gt p hp)))) (Ne.symm S.cf) F₁ (newsub N₁ hs)
end
theorem LeftAt.snoc {P : Params} {tl tl' : Led} {D : Dat} {t hh : Addr} {tb : Tok} {i : Nat} (hs : ∀ p ∈ tl, p ∈ tl') (h : (t, lotTup hh (D.b i) tb) ∈ tl') (k : HdAt P tl' hh (D.hd i)) : ∀ {vs : List Value} {is : List Nat}, LeftAt P tl D vs is → LeftAt P tl' D (vs ++ [Value.ref t]) (is ++ [i]) := by
  intro _ _ h9
  induction h9 with
  | nil => exact .cons h k .nil
  | cons a b r ih9 => exact .cons (hs _ a) (b.mono hs) ih9
theorem pt_end (sto : List Str) {P : Params} {h₀ h' : Heap} {L : Addr} {m₀ m' : Str → Option Value} {D : Dat} {I cu l2 fl t hh ha : Addr} {co lo o1 o2 o0 : Obj} {num : Int} {mr : Bool} {R : (Str → Option Value) → Led → Prop} {i nn tk' : Nat} {vs : List Value} {new all : Led} {tb tb2 q1 q2 q3 q4 q5 q6 q7 q8 q9 q10 t1 t2 t3 t4 t5 t6 t9 t10 : Tok} {b : Byt} {b2 e : Int} {s₁ : Shared}
    (S : PtS P D I cu l2 fl i vs new) (hi : i ≤ D.many) (h2 : D.many ≤ 2) (hn : D.n = num) (hR : ∀ m' n', PtJ P sto m₀ D I cu l2 co lo (i + 1) m' n' → R m' n') (F : Fr h₀ L h' m') (N : News h₀ L h' all) (x1 : (I + 1, o1) ∈ all) (x2 : (I, o2) ∈ all) (mf : (fl, listOf (vs ++ [Value.ref t]).toArray nn) ∈ all) (mt : (t, lotTup hh b tb) ∈ all) (mh : (hh, instObj 74 ha) ∈ all) (ma : (ha, o0) ∈ all) (ml : (l2, lo) ∈ all) (mc : (cu, co) ∈ all) (mn : ∀ p ∈ new, p ∈ all)
    (eb : b = D.b i) (eo : o0 = hdObj P (partHd num (8 * (i : Int)) mr) q1 q2 q3 q4 q5 q6 q7 q8 q9 q10 t1 t2 t3 t4 t5 t6 t9 t10) (em : mr = decide (i < D.many)) (g1 : @LT.lt Nat _ (I + 1) t) (g2 : @LT.lt Nat _ (I + 1) hh) (g3 : @LT.lt Nat _ (I + 1) ha) (hm : ∀ z, sto.contains z = false → m' z = m₀ z) (v1 : m' (Str.ofString "found") = some (.ref fl)) (v2 : m' (Str.ofString "begin") = some (.int b2 tb2)) (hb : b2 = enOf D.many e i) :
    UnrEndW h₀ L s₁ [(I + 1, o1), (I, o2)] (fun m' n' => SubL [(l2, lo)] n' ∧ R m' n') { s₁ with heap := h', toks := tk' } := by
  subst eb; subst em; subst hn
  have eH : D.hd i = partHd D.n (8 * (i : Int)) (decide (i < D.many)) := by unfold Dat.hd; rw [offOf_eq (Nat.le_trans hi h2)]
  rw [← eH] at eo
  subst eo
  have gn : ∀ p ∈ [(t, lotTup hh (D.b i) tb), (hh, instObj 74 ha), (ha, hdObj P (D.hd i) q1 q2 q3 q4 q5 q6 q7 q8 q9 q10 t1 t2 t3 t4 t5 t6 t9 t10)] ++ new, @LT.lt Nat _ (I + 1) p.1 := List.forall_mem_append.mpr ⟨List.forall_mem_cons.mpr ⟨g1, List.forall_mem_cons.mpr ⟨g2, List.forall_mem_cons.mpr ⟨g3, List.forall_mem_nil _⟩⟩⟩, S.gt⟩
  have hall : ∀ p ∈ (fl, listOf (vs ++ [Value.ref t]).toArray nn) :: (([(t, lotTup hh (D.b i) tb), (hh, instObj 74 ha), (ha, hdObj P (D.hd i) q1 q2 q3 q4 q5 q6 q7 q8 q9 q10 t1 t2 t3 t4 t5 t6 t9 t10)] ++ new) ++ [(l2, lo), (cu, co)]), p ∈ all := List.forall_mem_cons.mpr ⟨mf, List.forall_mem_append.mpr ⟨List.forall_mem_append.mpr ⟨List.forall_mem_cons.mpr ⟨mt, List.forall_mem_cons.mpr ⟨mh, List.forall_mem_cons.mpr ⟨ma, List.forall_mem_nil _⟩⟩⟩, mn⟩, List.forall_mem_cons.mpr ⟨ml, List.forall_mem_cons.mpr ⟨mc, List.forall_mem_nil _⟩⟩⟩⟩
  refine ⟨h', tk', m', _, rfl, F, newsub N (List.forall_mem_cons.mpr ⟨x1, List.forall_mem_cons.mpr ⟨x2, hall⟩⟩), fun p hp => ?_, ⟨.tail _ (List.mem_append_right _ (.head _)), trivial⟩, hR _ _ ⟨hm, fl, nn, _, _, b2, tb2, v1, v2, fun hle => ?_, ⟨?_, by rw [List.length_append, S.len]; rfl, gn, S.f, S.l, S.c, S.cf, S.lf⟩, fun _ hp => hp⟩⟩
  · have h3 : p.1 ≠ I + 1 ∧ p.1 ≠ I := by
      rcases List.mem_cons.mp hp with rfl | hp
      · exact ⟨Nat.ne_of_lt (Nat.lt_succ_of_lt S.f), Nat.ne_of_lt S.f⟩
      · rcases List.mem_append.mp hp with hp | hp
        · exact ⟨Nat.ne_of_gt (gn p hp), Nat.ne_of_gt (Nat.lt_of_succ_lt (gn p hp))⟩
        · rcases List.mem_cons.mp hp with rfl | hp
          · exact ⟨Nat.ne_of_lt (Nat.lt_succ_of_lt S.l), Nat.ne_of_lt S.l⟩
          · rw [List.mem_singleton.mp hp]
            exact ⟨Nat.ne_of_lt (Nat.lt_succ_of_lt S.c), Nat.ne_of_lt S.c⟩
    exact List.forall_mem_cons.mpr ⟨h3.1, List.forall_mem_cons.mpr ⟨h3.2, List.forall_mem_nil _⟩⟩
  · rw [hb, enOf, if_pos (Nat.lt_of_succ_le hle)]; omega
  · rw [List.range_succ]
    exact S.left.snoc (fun p hp => List.mem_append_right _ hp) (.head _) ⟨ha, q1, q2, q3, q4, q5, q6, q7, q8, q9, q10, t1, t2, t3, t4, t5, t6, t9, t10, .tail _ (.head _), .tail _ (.tail _ (.head _))⟩
theorem len_dec {D : Dat} {i : Nat} : decide (i < D.many) = decide ((i : Int) < (D.many : Int)) := decide_eq_decide.mpr Int.ofNat_lt.symm
theorem pt_len {prog : Program} {w : World} {A : Around} {E : Value → Shared → Prop} {s : Shared} {h₀ : Heap} {L cu : Addr} {news : Led} {cvs : List Value} {nc many : Nat} {Q : Value → Shared → Prop} (N : News h₀ L s.heap news) (hm : (cu, listOf cvs.toArray nc) ∈ news) (hc : CutsOk cvs many) (h2 : many ≤ 2) (h : Q (.int (many : Int) (s.toks + 1)) { s with toks := s.toks + 1 + 1 }) : wpAny (model prog w) A (call (.builtin "len") [.ref cu]) Q E s := by
  have e : (cvs.toArray.size : Int) = (many : Int) := by rw [List.size_toArray, hc.1]
  exact Calls.call_len_list (N.isList hm) (by rw [e]; omega) (by rw [e]; exact h)


inductive MixAt (P : Params) (tl : Led) (D : Dat) : List Value → List (Nat × Bool) → Prop
  | nil : MixAt P tl D [] []
  | cons {t hh : Addr} {tn tb : Tok} {i : Nat} {ta : Bool} {vs : List Value} {rs : List (Nat × Bool)} : (t, ({ cls := .type "tuple", data := .seq #[Value.int D.n tn, Value.ref hh, Value.bytes (D.b i) tb, Value.bool ta] } : Obj)) ∈ tl → HdAt P tl hh (D.hd i) → MixAt P tl D vs rs → MixAt P tl D (.ref t :: vs) ((i, ta) :: rs)
theorem MixAt.mono {P : Params} {tl tl' : Led} {D : Dat} (hs : ∀ p ∈ tl, p ∈ tl') : ∀ {vs : List Value} {rs : List (Nat × Bool)}, MixAt P tl D vs rs → MixAt P tl' D vs rs := by
  intro _ _ h9
  induction h9 with
  | nil => exact .nil
  | cons h k r ih9 => exact .cons (hs _ h) (k.mono hs) ih9
theorem MixAt.rows {P : Params} {tl : Led} {D : Bool → Dat} {c : Bool} : ∀ {vs : List Value} {rs : List (Nat × Bool)}, MixAt P tl (D c) vs rs → RowsAt P tl D vs (rs.map fun q => (c, q.1, q.2)) := by
  intro _ _ h9
  induction h9 with
  | nil => exact .nil
  | cons h k r ih9 => exact .cons h k ih9
theorem LeftAt.split {P : Params} {tl : Led} {D : Dat} {vs : List Value} {is : List Nat} (h : LeftAt P tl D vs is) : ∀ {r : Nat}, r < vs.length → ∃ p q t hh tb i p' q', vs = p ++ Value.ref t :: q ∧ p.length = r ∧ is = p' ++ i :: q' ∧ LeftAt P tl D (p ++ q) (p' ++ q') ∧ (t, lotTup hh (D.b i) tb) ∈ tl ∧ HdAt P tl hh (D.hd i) := by
  induction h with
  | nil => intro r hr; exact absurd hr (Nat.not_lt_zero _)
  | @cons t hh tb i vs is hm hH hL ih =>
    intro r hr
    cases r with
    | zero => exact ⟨[], vs, t, hh, tb, i, [], is, rfl, rfl, rfl, hL, hm, hH⟩
    | succ r =>
      obtain ⟨p, q, t', hh', tb', i', p', q', rfl, e2, rfl, hL', hm', hH'⟩ := ih (by simpa using hr)
      exact ⟨.ref t :: p, q, t', hh', tb', i', i :: p', q', rfl, by simp [e2], rfl, .cons hm hH hL', hm', hH'⟩
theorem kl_cut_app (p q : List Value) (y : Value) : kl_cut (p ++ y :: q) p.length = some (p, y, q) := by
  induction p with
  | nil => rfl
  | cons x p ih => show (match kl_cut (p ++ y :: q) p.length with | some (a, b, c) => some (x :: a, b, c) | none => none) = _; rw [ih]
theorem upd_of {d : Addr} {o o' : Obj} {pre post : List (Addr × Obj)} (a : ∀ p ∈ pre, p.1 ≠ d) (b : ∀ p ∈ post, p.1 ≠ d) : Upd d o o' (pre ++ (d, o) :: post) (pre ++ (d, o') :: post) := by
  induction pre with
  | nil => exact Upd.head b
  | cons x pre ih => exact Upd.tail (a x (.head _)) (ih fun p hp => a p (.tail _ hp))
section
variable {prog : Program} {w : World} {A : Around} {E : Value → Shared → Prop} {s : Shared} {h₀ : Heap} {L ll : Addr} {m : Str → Option Value} {news tl : Led} {g : Obj → Led} {P : Params} {D : Dat} {vs : List Value} {nl : Nat} {r : Int} {u : Tok} {Q : Value → Shared → Prop}
theorem pop_left {is : List Nat} (hL : LeftAt P tl D vs is) (F : Fr h₀ L s.heap m) (N : News h₀ L s.heap news) (U : UpdF ll (listOf vs.toArray nl) news g) (h0 : 0 ≤ r) (h1 : r < vs.length) (hz : vs.length ≤ 100)
    (h : ∀ t hh tb i vs' is' h', (t, lotTup hh (D.b i) tb) ∈ tl → HdAt P tl hh (D.hd i) → LeftAt P tl D vs' is' → is.Perm (i :: is') → Fr h₀ L h' m → News h₀ L h' (g (listOf vs'.toArray (nl + 1))) → Q (.ref t) { s with heap := h' }) :
    wpAny (model prog w) A (call (.builtin "list.pop") [.ref ll, .int r u]) Q E s := by
  obtain ⟨k, rfl⟩ := Int.eq_ofNat_of_zero_le h0
  obtain ⟨p, q, t, hh, tb, i, p', q', rfl, e2, rfl, hL', hm', hH'⟩ := hL.split (r := k) (by exact_mod_cast h1)
  obtain ⟨pre, post, rfl, hg, a, b⟩ := U.split
  refine kl_popAt (k := k) F N ?_ ?_ (p := p) (q := q) (y := .ref t) (by rw [← e2]; simpa using kl_cut_app p q (.ref t)) (upd_of a b) (by rw [sizeLine_eq]; simpa using Nat.le_trans hz (by decide)) fun h' F' N' => h t hh tb i (p ++ q) (p' ++ q') h' hm' hH' hL' (by simpa using List.perm_middle) F' (by rw [hg]; exact N')
  · unfold Builtin.List.listFitsIndex
    simp only [Bool.and_eq_true, decide_eq_true_eq]
    constructor <;> omega
  · unfold seqIndex?
    have h3 : (k : Int) < ((p ++ Value.ref t :: q).toArray.size : Int) := by rw [List.size_toArray]; exact h1
    have h4 : ¬ ((k : Int) < 0) := by omega
    have h5 : (0 : Int) ≤ (k : Int) := by omega
    simp only [if_neg h4]
    rw [if_pos (by rw [Bool.and_eq_true, decide_eq_true_eq, decide_eq_true_eq]; exact ⟨h5, h3⟩)]
    simp
theorem pop3 {i0 i1 i2 : Nat} {a0 a1 a2 : Value} (hL : LeftAt P tl D [a0, a1, a2] [i0, i1, i2]) (F : Fr h₀ L s.heap m) (N : News h₀ L s.heap news) (U : UpdF ll (listOf [a0, a1, a2].toArray nl) news g) (h0 : 0 ≤ r) (h1 : r < 3)
    (h : ∀ t hh tb i b0 b1 j0 j1 h', (t, lotTup hh (D.b i) tb) ∈ tl → HdAt P tl hh (D.hd i) → LeftAt P tl D [b0, b1] [j0, j1] → [i0, i1, i2].Perm [i, j0, j1] → Fr h₀ L h' m → News h₀ L h' (g (listOf [b0, b1].toArray (nl + 1))) → Q (.ref t) { s with heap := h' }) :
    wpAny (model prog w) A (call (.builtin "list.pop") [.ref ll, .int r u]) Q E s := by
  refine pop_left hL F N U h0 (by simpa using h1) (by simp) fun t hh tb i vs' is' h' hm hH hL' hp F' N' => ?_
  have e := hp.length_eq
  cases hL' with
  | nil => cases e
  | cons q1 q2 q3 => cases q3 with
    | nil => cases e
    | cons q4 q5 q6 => cases q6 with
      | nil => exact h t hh tb i _ _ _ _ h' hm hH (.cons q1 q2 (.cons q4 q5 .nil)) hp F' N'
      | cons _ _ _ => simp at e
theorem pop2 {i0 i1 : Nat} {a0 a1 : Value} (hL : LeftAt P tl D [a0, a1] [i0, i1]) (F : Fr h₀ L s.heap m) (N : News h₀ L s.heap news) (U : UpdF ll (listOf [a0, a1].toArray nl) news g) (h0 : 0 ≤ r) (h1 : r < 2)
    (h : ∀ t hh tb i b0 j0 h', (t, lotTup hh (D.b i) tb) ∈ tl → HdAt P tl hh (D.hd i) → LeftAt P tl D [b0] [j0] → [i0, i1].Perm [i, j0] → Fr h₀ L h' m → News h₀ L h' (g (listOf [b0].toArray (nl + 1))) → Q (.ref t) { s with heap := h' }) :
    wpAny (model prog w) A (call (.builtin "list.pop") [.ref ll, .int r u]) Q E s := by
  refine pop_left hL F N U h0 (by simpa using h1) (by simp) fun t hh tb i vs' is' h' hm hH hL' hp F' N' => ?_
  have e := hp.length_eq
  cases hL' with
  | nil => cases e
  | cons q1 q2 q3 => cases q3 with
    | nil => exact h t hh tb i _ _ h' hm hH (.cons q1 q2 .nil) hp F' N'
    | cons _ _ _ => simp at e
theorem pop1 {i0 : Nat} {a0 : Value} (hL : LeftAt P tl D [a0] [i0]) (F : Fr h₀ L s.heap m) (N : News h₀ L s.heap news) (U : UpdF ll (listOf [a0].toArray nl) news g) (h0 : 0 ≤ r) (h1 : r < 1)
    (h : ∀ t hh tb i h', (t, lotTup hh (D.b i) tb) ∈ tl → HdAt P tl hh (D.hd i) → [i0].Perm [i] → Fr h₀ L h' m → News h₀ L h' (g (listOf [].toArray (nl + 1))) → Q (.ref t) { s with heap := h' }) :
    wpAny (model prog w) A (call (.builtin "list.pop") [.ref ll, .int r u]) Q E s := by
  refine pop_left hL F N U h0 (by simpa using h1) (by simp) fun t hh tb i vs' is' h' hm hH hL' hp F' N' => ?_
  have e := hp.length_eq
  cases hL' with
  | nil => exact h t hh tb i h' hm hH hp F' N'
  | cons _ _ _ => simp at e
end


theorem mix_end1 {w : World} {h₀ h' : Heap} {L : Addr} {m : Str → Option Value} {rest tl all : Led} {D0 : Dat} {l sa : Addr} {nn n tk' : Nat} {x' y' : Int} {tx' ty' : Tok} {i0 : Nat} {R : Addr → Heap → Nat → Prop} {u0 hh0 : Addr} {tn0 tb0 : Tok} {ta0 : Bool} {j0 : Nat} 
    (ret : ∀ (l : Addr) (nn : Nat) (vs : List Value) (rs : List (Nat × Bool)) (new : Led) (x' : Int) (tx' : Tok) (y' : Int) (ty' : Tok) (h' : Heap) (tk' : Nat), MixAt w.params (new ++ tl) D0 vs rs → [i0].Perm (rs.map (·.1)) → (∀ p ∈ new, p.1 ≠ sa) → l ≠ sa → (∀ p ∈ new, ∀ q ∈ rest, q.1 ≠ p.1) → (∀ q ∈ rest, q.1 ≠ l) → 0 ≤ x' → 0 ≤ y' → y' < 2147483647 → Fr h₀ L h' m → News h₀ L h' ((l, listOf vs.toArray nn) :: (sa, listOf #[Value.int x' tx', Value.int y' ty'] n) :: (new ++ rest)) → R l h' tk') (F : Fr h₀ L h' m) (N : News h₀ L h' all) (ml : (l, listOf [Value.ref u0].toArray nn) ∈ all) (ms : (sa, listOf #[Value.int x' tx', Value.int y' ty'] n) ∈ all) (m0 : (u0, ({ cls := .type "tuple", data := .seq #[Value.int D0.n tn0, Value.ref hh0, Value.bytes (D0.b j0) tb0, Value.bool ta0] } : Obj)) ∈ all) (hs : ∀ p ∈ rest, p ∈ all) (H0 : HdAt w.params tl hh0 (D0.hd j0)) (p0 : [i0].Perm [j0]) (f0 : u0 ≠ sa) (fl : l ≠ sa) (g0 : ∀ q ∈ rest, q.1 ≠ u0) (gl : ∀ q ∈ rest, q.1 ≠ l) (b1 : 0 ≤ x') (b2 : 0 ≤ y') (b3 : y' < 2147483647) : R l h' tk' := by
  refine ret l nn [Value.ref u0] [(j0, ta0)] [(u0, ({ cls := .type "tuple", data := .seq #[Value.int D0.n tn0, Value.ref hh0, Value.bytes (D0.b j0) tb0, Value.bool ta0] } : Obj))] x' tx' y' ty' h' tk' (.cons (.head _) (H0.mono fun p hp => List.mem_append.mpr (.inr hp)) (.nil)) (p0) (fun p hp => ?_) fl (fun p hp => ?_) gl b1 b2 b3 F fun q hq => ?_
  rcases List.mem_cons.mp hp with rfl | hp
  · exact f0
  · cases hp
  rcases List.mem_cons.mp hp with rfl | hp
  · exact g0
  · cases hp
  rcases List.mem_cons.mp hq with rfl | hq
  · exact N _ ml
  rcases List.mem_cons.mp hq with rfl | hq
  · exact N _ ms
  rcases List.mem_cons.mp hq with rfl | hq
  · exact N _ m0
  exact N q (hs q hq)
theorem mix_end2 {w : World} {h₀ h' : Heap} {L : Addr} {m : Str → Option Value} {rest tl all : Led} {D0 : Dat} {l sa : Addr} {nn n tk' : Nat} {x' y' : Int} {tx' ty' : Tok} {i0 i1 : Nat} {R : Addr → Heap → Nat → Prop} {u0 hh0 : Addr} {tn0 tb0 : Tok} {ta0 : Bool} {j0 : Nat} {u1 hh1 : Addr} {tn1 tb1 : Tok} {ta1 : Bool} {j1 : Nat} {k0 : Nat} 
    (ret : ∀ (l : Addr) (nn : Nat) (vs : List Value) (rs : List (Nat × Bool)) (new : Led) (x' : Int) (tx' : Tok) (y' : Int) (ty' : Tok) (h' : Heap) (tk' : Nat), MixAt w.params (new ++ tl) D0 vs rs → [i0, i1].Perm (rs.map (·.1)) → (∀ p ∈ new, p.1 ≠ sa) → l ≠ sa → (∀ p ∈ new, ∀ q ∈ rest, q.1 ≠ p.1) → (∀ q ∈ rest, q.1 ≠ l) → 0 ≤ x' → 0 ≤ y' → y' < 2147483647 → Fr h₀ L h' m → News h₀ L h' ((l, listOf vs.toArray nn) :: (sa, listOf #[Value.int x' tx', Value.int y' ty'] n) :: (new ++ rest)) → R l h' tk') (F : Fr h₀ L h' m) (N : News h₀ L h' all) (ml : (l, listOf [Value.ref u0, Value.ref u1].toArray nn) ∈ all) (ms : (sa, listOf #[Value.int x' tx', Value.int y' ty'] n) ∈ all) (m0 : (u0, ({ cls := .type "tuple", data := .seq #[Value.int D0.n tn0, Value.ref hh0, Value.bytes (D0.b j0) tb0, Value.bool ta0] } : Obj)) ∈ all) (m1 : (u1, ({ cls := .type "tuple", data := .seq #[Value.int D0.n tn1, Value.ref hh1, Value.bytes (D0.b j1) tb1, Value.bool ta1] } : Obj)) ∈ all) (hs : ∀ p ∈ rest, p ∈ all) (H0 : HdAt w.params tl hh0 (D0.hd j0)) (H1 : HdAt w.params tl hh1 (D0.hd j1)) (p0 : [i0, i1].Perm [j0, k0]) (p1 : [k0].Perm [j1]) (f0 : u0 ≠ sa) (f1 : u1 ≠ sa) (fl : l ≠ sa) (g0 : ∀ q ∈ rest, q.1 ≠ u0) (g1 : ∀ q ∈ rest, q.1 ≠ u1) (gl : ∀ q ∈ rest, q.1 ≠ l) (b1 : 0 ≤ x') (b2 : 0 ≤ y') (b3 : y' < 2147483647) : R l h' tk' := by
  refine ret l nn [Value.ref u0, Value.ref u1] [(j0, ta0), (j1, ta1)] [(u0, ({ cls := .type "tuple", data := .seq #[Value.int D0.n tn0, Value.ref hh0, Value.bytes (D0.b j0) tb0, Value.bool ta0] } : Obj)), (u1, ({ cls := .type "tuple", data := .seq #[Value.int D0.n tn1, Value.ref hh1, Value.bytes (D0.b j1) tb1, Value.bool ta1] } : Obj))] x' tx' y' ty' h' tk' (.cons (.head _) (H0.mono fun p hp => List.mem_append.mpr (.inr hp)) (.cons (.tail _ (.head _)) (H1.mono fun p hp => List.mem_append.mpr (.inr hp)) (.nil))) (p0.trans (.cons _ p1)) (fun p hp => ?_) fl (fun p hp => ?_) gl b1 b2 b3 F fun q hq => ?_
  rcases List.mem_cons.mp hp with rfl | hp
  · exact f0
  rcases List.mem_cons.mp hp with rfl | hp
  · exact f1
  · cases hp
  rcases List.mem_cons.mp hp with rfl | hp
  · exact g0
  rcases List.mem_cons.mp hp with rfl | hp
  · exact g1
  · cases hp
  rcases List.mem_cons.mp hq with rfl | hq
  · exact N _ ml
  rcases List.mem_cons.mp hq with rfl | hq
  · exact N _ ms
  rcases List.mem_cons.mp hq with rfl | hq
  · exact N _ m0
  rcases List.mem_cons.mp hq with rfl | hq
  · exact N _ m1
  exact N q (hs q hq)
theorem mix_end3 {w : World} {h₀ h' : Heap} {L : Addr} {m : Str → Option Value} {rest tl all : Led} {D0 : Dat} {l sa : Addr} {nn n tk' : Nat} {x' y' : Int} {tx' ty' : Tok} {i0 i1 i2 : Nat} {R : Addr → Heap → Nat → Prop} {u0 hh0 : Addr} {tn0 tb0 : Tok} {ta0 : Bool} {j0 : Nat} {u1 hh1 : Addr} {tn1 tb1 : Tok} {ta1 : Bool} {j1 : Nat} {u2 hh2 : Addr} {tn2 tb2 : Tok} {ta2 : Bool} {j2 : Nat} {k0 k1 k2 : Nat} 
    (ret : ∀ (l : Addr) (nn : Nat) (vs : List Value) (rs : List (Nat × Bool)) (new : Led) (x' : Int) (tx' : Tok) (y' : Int) (ty' : Tok) (h' : Heap) (tk' : Nat), MixAt w.params (new ++ tl) D0 vs rs → [i0, i1, i2].Perm (rs.map (·.1)) → (∀ p ∈ new, p.1 ≠ sa) → l ≠ sa → (∀ p ∈ new, ∀ q ∈ rest, q.1 ≠ p.1) → (∀ q ∈ rest, q.1 ≠ l) → 0 ≤ x' → 0 ≤ y' → y' < 2147483647 → Fr h₀ L h' m → News h₀ L h' ((l, listOf vs.toArray nn) :: (sa, listOf #[Value.int x' tx', Value.int y' ty'] n) :: (new ++ rest)) → R l h' tk') (F : Fr h₀ L h' m) (N : News h₀ L h' all) (ml : (l, listOf [Value.ref u0, Value.ref u1, Value.ref u2].toArray nn) ∈ all) (ms : (sa, listOf #[Value.int x' tx', Value.int y' ty'] n) ∈ all) (m0 : (u0, ({ cls := .type "tuple", data := .seq #[Value.int D0.n tn0, Value.ref hh0, Value.bytes (D0.b j0) tb0, Value.bool ta0] } : Obj)) ∈ all) (m1 : (u1, ({ cls := .type "tuple", data := .seq #[Value.int D0.n tn1, Value.ref hh1, Value.bytes (D0.b j1) tb1, Value.bool ta1] } : Obj)) ∈ all) (m2 : (u2, ({ cls := .type "tuple", data := .seq #[Value.int D0.n tn2, Value.ref hh2, Value.bytes (D0.b j2) tb2, Value.bool ta2] } : Obj)) ∈ all) (hs : ∀ p ∈ rest, p ∈ all) (H0 : HdAt w.params tl hh0 (D0.hd j0)) (H1 : HdAt w.params tl hh1 (D0.hd j1)) (H2 : HdAt w.params tl hh2 (D0.hd j2)) (p0 : [i0, i1, i2].Perm [j0, k0, k1]) (p1 : [k0, k1].Perm [j1, k2]) (p2 : [k2].Perm [j2]) (f0 : u0 ≠ sa) (f1 : u1 ≠ sa) (f2 : u2 ≠ sa) (fl : l ≠ sa) (g0 : ∀ q ∈ rest, q.1 ≠ u0) (g1 : ∀ q ∈ rest, q.1 ≠ u1) (g2 : ∀ q ∈ rest, q.1 ≠ u2) (gl : ∀ q ∈ rest, q.1 ≠ l) (b1 : 0 ≤ x') (b2 : 0 ≤ y') (b3 : y' < 2147483647) : R l h' tk' := by
  refine ret l nn [Value.ref u0, Value.ref u1, Value.ref u2] [(j0, ta0), (j1, ta1), (j2, ta2)] [(u0, ({ cls := .type "tuple", data := .seq #[Value.int D0.n tn0, Value.ref hh0, Value.bytes (D0.b j0) tb0, Value.bool ta0] } : Obj)), (u1, ({ cls := .type "tuple", data := .seq #[Value.int D0.n tn1, Value.ref hh1, Value.bytes (D0.b j1) tb1, Value.bool ta1] } : Obj)), (u2, ({ cls := .type "tuple", data := .seq #[Value.int D0.n tn2, Value.ref hh2, Value.bytes (D0.b j2) tb2, Value.bool ta2] } : Obj))] x' tx' y' ty' h' tk' (.cons (.head _) (H0.mono fun p hp => List.mem_append.mpr (.inr hp)) (.cons (.tail _ (.head _)) (H1.mono fun p hp => List.mem_append.mpr (.inr hp)) (.cons (.tail _ (.tail _ (.head _))) (H2.mono fun p hp => List.mem_append.mpr (.inr hp)) (.nil)))) (p0.trans (.cons _ (p1.trans (.cons _ p2)))) (fun p hp => ?_) fl (fun p hp => ?_) gl b1 b2 b3 F fun q hq => ?_
  rcases List.mem_cons.mp hp with rfl | hp
  · exact f0
  rcases List.mem_cons.mp hp with rfl | hp
  · exact f1
  rcases List.mem_cons.mp hp with rfl | hp
  · exact f2
  · cases hp
  rcases List.mem_cons.mp hp with rfl | hp
  · exact g0
  rcases List.mem_cons.mp hp with rfl | hp
  · exact g1
  rcases List.mem_cons.mp hp with rfl | hp
  · exact g2
  · cases hp
  rcases List.mem_cons.mp hq with rfl | hq
  · exact N _ ml
  rcases List.mem_cons.mp hq with rfl | hq
  · exact N _ ms
  rcases List.mem_cons.mp hq with rfl | hq
  · exact N _ m0
  rcases List.mem_cons.mp hq with rfl | hq
  · exact N _ m1
  rcases List.mem_cons.mp hq with rfl | hq
  · exact N _ m2
  exact N q (hs q hq)


theorem wobj_nil {prog : Program} {w : World} {o : Obj} (h : o.IsDictOf (PySem.intKind prog w) []) : WObj prog w o [] := by
  obtain ⟨es, ep, hx, hd, -, hp, -⟩ := h
  have he : es.toList = [] := by cases h9 : es.toList with
    | nil => rfl
    | cons a b => rw [h9] at hp; cases hp
  exact ⟨hx, es, ep, hd, by rw [he]; rfl, List.nodup_nil⟩
theorem layer_end {w : World} {h₀ h' : Heap} {L : Addr} {m : Str → Option Value} {news all : Led} {lay ld re rd wd : Addr} {tk' : Nat} {wo oL oR : Obj} {R : Addr → Heap → Nat → Prop} {fcv rtv fwv liv : Value} {f1 f2 f3 f4 f5 r1 r2 r3 r4 tl1 tl2 tl3 : Tok}
    (ret : ∀ (lay ld re rd wd : Addr) (wo : Obj) (fcv rtv fwv liv : Value) (f1 f2 f3 f4 f5 r1 r2 r3 r4 tl1 tl2 tl3 : Tok) (h' : Heap) (tk' : Nat), WObj Challenge.rw_xw0340_01.row.prog w wo [] → (wd == sysModules) = false → (∀ p ∈ news, p.1 ≠ wd) → lay ≠ wd → ld ≠ wd → re ≠ wd → rd ≠ wd → Fr h₀ L h' m → News h₀ L h' ((wd, wo) :: (lay, instObj 349 ld) :: (ld, (dictOf [leftact% faces f1 fcv, leftact% routes f2 rtv, leftact% reassembly f3 (Value.ref re), leftact% forwards f4 fwv, leftact% last_ident f5 liv] 5)) :: (re, instObj 535 rd) :: (rd, (dictOf [leftact% time_limit r1 (Value.int 50 tl1), leftact% most_octets r2 (Value.int 999 tl2), leftact% most r3 (Value.int 65535 tl3), leftact% waiting r4 (Value.ref wd)] 4)) :: news) → R lay h' tk')
    (F : Fr h₀ L h' m) (N : News h₀ L h' all) (ml : (lay, instObj 349 ld) ∈ all) (m1 : (ld, oL) ∈ all) (e1 : oL = (dictOf [leftact% faces f1 fcv, leftact% routes f2 rtv, leftact% reassembly f3 (Value.ref re), leftact% forwards f4 fwv, leftact% last_ident f5 liv] 5)) (m2 : (re, instObj 535 rd) ∈ all) (m3 : (rd, oR) ∈ all) (e2 : oR = (dictOf [leftact% time_limit r1 (Value.int 50 tl1), leftact% most_octets r2 (Value.int 999 tl2), leftact% most r3 (Value.int 65535 tl3), leftact% waiting r4 (Value.ref wd)] 4)) (m4 : (wd, wo) ∈ all) (hw : wo.IsDictOf (PySem.intKind Challenge.rw_xw0340_01.row.prog w) []) (lo : (wd == sysModules) = false) (hR : News h₀ L h' news) (hf : ∀ p ∈ news, p.1 ≠ wd) (a1 : lay ≠ wd) (a2 : ld ≠ wd) (a3 : re ≠ wd) (a4 : rd ≠ wd) : R lay h' tk' := by
  refine ret lay ld re rd wd wo fcv rtv fwv liv f1 f2 f3 f4 f5 r1 r2 r3 r4 tl1 tl2 tl3 h' tk' (wobj_nil hw) lo hf a1 a2 a3 a4 F fun q hq => ?_
  rcases List.mem_cons.mp hq with rfl | hq
  · exact N _ m4
  rcases List.mem_cons.mp hq with rfl | hq
  · exact N _ ml
  rcases List.mem_cons.mp hq with rfl | hq
  · rw [← e1]; exact N _ m1
  rcases List.mem_cons.mp hq with rfl | hq
  · exact N _ m2
  rcases List.mem_cons.mp hq with rfl | hq
  · rw [← e2]; exact N _ m3
  exact hR q hq


noncomputable abbrev srcOf (x : Int) (tx : Tok) (y : Int) (ty : Tok) (n : Nat) : Obj := listOf #[Value.int x tx, Value.int y ty] n
/-- how an element's draw goes on -/
noncomputable def TakeOn (h₀ : Heap) (L : Addr) (m : Str → Option Value) (s : Shared) (pre rest : Led) (sa : Addr) (n : Nat) (top : Int) (Z : Value → Shared → Prop) : Prop :=
  ∀ (k : Int) (t : Tok) (x' : Int) (tx' : Tok) (y' : Int) (ty' : Tok) (h' : Heap) (tk' : Nat), 0 ≤ k → k < top → 0 ≤ x' → 0 ≤ y' → y' < 2147483647 → Fr h₀ L h' m → News h₀ L h' (pre ++ (sa, srcOf x' tx' y' ty' n) :: rest) → Z (.int k t) { s with heap := h', toks := tk' }
theorem TakeOn.use {h₀ : Heap} {L : Addr} {m : Str → Option Value} {s : Shared} {pre rest all : Led} {sa : Addr} {n : Nat} {top : Int} {Z : Value → Shared → Prop} (H : TakeOn h₀ L m s pre rest sa n top Z) {k : Int} {t : Tok} {x' : Int} {tx' : Tok} {y' : Int} {ty' : Tok} {h' : Heap} {tk' : Nat}
    (F : Fr h₀ L h' m) (N : News h₀ L h' all) (hs : ∀ p ∈ pre ++ (sa, srcOf x' tx' y' ty' n) :: rest, p ∈ all) (h1 : 0 ≤ k) (h2 : k < top) (h3 : 0 ≤ x') (h4 : 0 ≤ y') (h5 : y' < 2147483647) : Z (.int k t) { s with heap := h', toks := tk' } := H k t x' tx' y' ty' h' tk' h1 h2 h3 h4 h5 F (newsub N hs)
section
variable {prog : Program} {w : World} {A : Around} {h₀ : Heap} {L : Addr} {m : Str → Option Value} {env : Env} {elt : PySem.Expr} {xn : Str} {scope : Scope} {cl : List (Str × Addr)}
theorem comp_take {s : Shared} {P : Nat → Value → Prop} {Fin : List Value → Led → Prop} {sa : Addr} {rest : Led} {nn n : Nat} {top : Int}
    (step : ∀ (i : Nat) (v : Value) (I : Addr) (oI : Obj) (C : Addr) (oC : Obj) (D : Addr) (m₂ : Str → Option Value) (h : Heap) (tk : Nat) (E' : Value → Shared → Prop) (ys : List Value) (x y : Int) (tx ty : Tok) (Z : Value → Shared → Prop), P i v → LCg.NsObj oC m₂ → m₂ xn = some v → 0 ≤ x → 0 ≤ y → y < 2147483647 → Fr h₀ L h m → News h₀ L h ((I, oI) :: (C, oC) :: (D, LCg.lst ys) :: (sa, srcOf x tx y ty n) :: rest) → I ≠ sa → C ≠ sa → D ≠ sa →
      TakeOn h₀ L m s [(I, oI), (C, oC), (D, LCg.lst ys)] rest sa n top Z → wpAny (model prog w) A (eval elt (compEnvC scope cl C env)) Z E' { s with heap := h, toks := tk })
    (fin : ∀ (ys : List Value) (ns : List Int) (x' : Int) (tx' : Tok) (y' : Int) (ty' : Tok), IntsAre ys ns → ns.length = nn → (∀ k ∈ ns, 0 ≤ k ∧ k < top) → 0 ≤ x' → 0 ≤ y' → y' < 2147483647 → Fin ys ((sa, srcOf x' tx' y' ty' n) :: rest)) :
    ∀ (k i : Nat) (ys : List Value) (ns : List Int) (x : Int) (tx : Tok) (y : Int) (ty : Tok), IntsAre ys ns → ns.length + k = nn → (∀ z ∈ ns, 0 ≤ z ∧ z < top) → 0 ≤ x → 0 ≤ y → y < 2147483647 → LCg.CompRest prog w A h₀ L m env elt xn scope cl s (fun _ => True) P Fin k i ys ((sa, srcOf x tx y ty n) :: rest)
  | 0, i, ys, ns, x, tx, y, ty, hI, hl, hb, h1, h2, h3 => LCg.CompRest.zero (fin ys ns x tx y ty hI (by omega) hb h1 h2 h3)
  | k + 1, i, ys, ns, x, tx, y, ty, hI, hl, hb, h1, h2, h3 => by
    refine LCg.CompRest.succ fun v I oI C oC D m₂ h tk E' hP hC hx F N off ne => ?_
    refine step i v I oI C oC D m₂ h tk E' ys x y tx ty _ hP hC hx h1 h2 h3 F N (Ne.symm off.1.1) (Ne.symm off.1.2.1) (Ne.symm off.1.2.2) fun z t x' tx' y' ty' h' tk' z1 z2 z3 z4 z5 F' N' => ?_
    refine LCg.CompEnd.intro (s₁ := { s with heap := h, toks := tk }) F' N' ((sa, srcOf x' tx' y' ty' n) :: rest) (fun p hp => hp) ⟨off.1, off.2⟩ trivial ?_
    refine comp_take step fin k (i + 1) (ys ++ [.int z t]) (ns ++ [z]) x' tx' y' ty' (hI.append (.cons z t .nil)) (by simp; omega) (fun q hq => ?_) z3 z4 z5
    rcases List.mem_append.mp hq with hq | hq
    · exact hb q hq
    · rw [List.mem_singleton.mp hq]; exact ⟨z1, z2⟩
theorem rsz (nn : Nat) : Builtin.Range.rangeSize 0 (nn : Int) 1 = (nn : Int) := by
  unfold Builtin.Range.rangeSize
  rw [if_pos (by decide)]
  split
  · rw [Int.ediv_one]; omega
  · omega
theorem src_take {Fin : Shared → List Value → Led → Prop} {r sa : Addr} {b x y top : Int} {tx ty t u v : Tok} {nn n : Nat} {news rest : Led} {s₁ : Shared}
    (hh : A.handled = none) (F : Fr h₀ L s₁.heap m) (N : News h₀ L s₁.heap news) (S : Sel sa (srcOf x tx y ty n) news rest) (hr : IsRange s₁.heap r 0 b 1 t u v) (hb : b = (nn : Int)) (hz : nn ≤ 100) (h1 : 0 ≤ x) (h2 : 0 ≤ y) (h3 : y < 2147483647)
    (step : ∀ (g : Heap) (i : Nat) (v : Value) (I : Addr) (oI : Obj) (C : Addr) (oC : Obj) (D : Addr) (m₂ : Str → Option Value) (h : Heap) (tk : Nat) (E' : Value → Shared → Prop) (ys : List Value) (x y : Int) (tx ty : Tok) (Z : Value → Shared → Prop), (∃ t, v = Value.int (0 + (i : Int)) t) → LCg.NsObj oC m₂ → m₂ xn = some v → 0 ≤ x → 0 ≤ y → y < 2147483647 → Fr h₀ L h m → News h₀ L h ((I, oI) :: (C, oC) :: (D, LCg.lst ys) :: (sa, srcOf x tx y ty n) :: rest) → I ≠ sa → C ≠ sa → D ≠ sa →
      TakeOn h₀ L m { s₁ with heap := g } [(I, oI), (C, oC), (D, LCg.lst ys)] rest sa n top Z → wpAny (model prog w) A (eval elt (compEnvC scope cl C env)) Z E' { { s₁ with heap := g } with heap := h, toks := tk })
    (fin : ∀ (g : Heap) (ys : List Value) (ns : List Int) (x' : Int) (tx' : Tok) (y' : Int) (ty' : Tok), IntsAre ys ns → ns.length = nn → (∀ k ∈ ns, 0 ≤ k ∧ k < top) → 0 ≤ x' → 0 ≤ y' → y' < 2147483647 → Fin { s₁ with heap := g } ys ((sa, srcOf x' tx' y' ty' n) :: rest)) :
    LCg.CompSrc prog w A h₀ L m env elt xn scope cl Fin (.ref r) s₁ := by
  subst hb
  refine LCg.CompSrc.range hh F (newsub N (List.forall_mem_cons.mpr ⟨S.mem, S.sub⟩)) hr ?_ ?_ (by rw [sizeLine_eq]; omega) fun g => comp_take (nn := nn) (step g) (fin g) nn 0 [] [] x tx y ty .nil (by simp) (by simp) h1 h2 h3
  · unfold Builtin.Range.small
    rw [rsz nn]
    have f0 : Builtin.Range.rangeFitsLong 0 = true := by decide
    have f1 : Builtin.Range.rangeFitsLong 1 = true := by decide
    have fn : Builtin.Range.rangeFitsLong (nn : Int) = true := by
      unfold Builtin.Range.rangeFitsLong
      simp only [Bool.and_eq_true, decide_eq_true_eq]
      constructor <;> omega
    have e1 : (nn : Int) + (1 - 1) = nn := by omega
    rw [if_pos (show (1 : Int) > 0 by decide), e1, f0, f1, fn]
    simp
  · exact rsz nn
end
section
variable {prog : Program} {w : World} {A : Around} {E : Value → Shared → Prop} {s : Shared} {h₀ : Heap} {L l : Addr} {m : Str → Option Value} {news : Led}
theorem bytes_any {vs : List Value} {ns : List Int} {nn : Nat} {Q : Value → Shared → Prop} (F : Fr h₀ L s.heap m) (N : News h₀ L s.heap news) (hl : (l, listOf vs.toArray nn) ∈ news) (hi : IntsAre vs ns) (hr : ∀ k ∈ ns, 0 ≤ k ∧ k < 256) (hz : ns.length ≤ 100) (hh : A.handled = none)
    (h : ∀ (ob : Byt) h' t k, Fr h₀ L h' m → News h₀ L h' news → ob.size = ns.length → Q (.bytes ob t) { s with heap := h', toks := k }) : wpAny (model prog w) A (call (.type "bytes") [.ref l]) Q E s :=
  bytes_K F N (N.isList hl) hi hr (by rw [hi.length, sizeLine_eq]; omega) hh fun h' t k F' N' _ => h _ h' t k F' N' (by simp)
theorem rows_take {vs : List Value} {nn : Nat} {b : Nat} {u : Tok} {Q : Value → Shared → Prop} {value slice : PySem.Expr} (F : Fr h₀ L s.heap m) (N : News h₀ L s.heap news) (hl : (l, listOf vs.toArray nn) ∈ news) (hz : vs.length ≤ 100)
    (h : ∀ D h', Fr h₀ L h' m → News h₀ L h' ((D, listOf (vs.take b).toArray 0) :: news) → (∀ p ∈ news, p.1 < D) → Q (.ref D) { s with heap := h' })
    (hs : subscripted slice false (.ref l) (.ref s.heap.objs.size) = operate [.ref s.heap.objs.size, .ref l] (getItem (.ref l) (.ref s.heap.objs.size))) (ht : ∀ r, letTemporaryGo value (.ref l) r = pure ()) :
    wpAny (model prog w) A (subscriptTail value slice (.ref l) (.ref s.heap.objs.size)) Q E { s with heap := s.heap.push { cls := .type "slice", data := .fields #[.none, .int b u, .none] } } := by
  refine kmk_slice F N (N.isList hl) IsPart.none (IsPart.int _ _) (fun D h' F' N' l1 => h D h' F' ?_ l1) hs ht (by rw [List.size_toArray, sizeLine_eq]; omega)
  have e : sliceBounds none (some (b : Int)) none vs.toArray.size = (((0 : Nat) : Int), ((min b vs.toArray.size : Nat) : Int), 1) := by
    simp only [sliceBounds, Option.getD_none, show (1 : Int) > 0 by decide, if_true, if_neg (show ¬ ((b : Int) < 0) by omega)]
    congr 1
    congr 1
    omega
  rw [kmk_pick_nat _ e, List.drop_zero, Nat.sub_zero, List.size_toArray, kmk_take_min] at N'
  exact N'
theorem rows_drop {vs : List Value} {nn : Nat} {b : Nat} {u : Tok} {Q : Value → Shared → Prop} {value slice : PySem.Expr} (F : Fr h₀ L s.heap m) (N : News h₀ L s.heap news) (hl : (l, listOf vs.toArray nn) ∈ news) (hz : vs.length ≤ 100)
    (h : ∀ D h', Fr h₀ L h' m → News h₀ L h' ((D, listOf (vs.drop b).toArray 0) :: news) → (∀ p ∈ news, p.1 < D) → Q (.ref D) { s with heap := h' })
    (hs : subscripted slice false (.ref l) (.ref s.heap.objs.size) = operate [.ref s.heap.objs.size, .ref l] (getItem (.ref l) (.ref s.heap.objs.size))) (ht : ∀ r, letTemporaryGo value (.ref l) r = pure ()) :
    wpAny (model prog w) A (subscriptTail value slice (.ref l) (.ref s.heap.objs.size)) Q E { s with heap := s.heap.push { cls := .type "slice", data := .fields #[.int b u, .none, .none] } } := by
  refine kmk_slice F N (N.isList hl) (IsPart.int _ _) IsPart.none (fun D h' F' N' l1 => h D h' F' ?_ l1) hs ht (by rw [List.size_toArray, sizeLine_eq]; omega)
  have e : sliceBounds (some (b : Int)) none none vs.toArray.size = (((min b vs.toArray.size : Nat) : Int), ((vs.toArray.size : Nat) : Int), 1) := by
    simp only [sliceBounds, Option.getD_none, show (1 : Int) > 0 by decide, if_true, if_neg (show ¬ ((b : Int) < 0) by omega)]
    congr 1
    omega
  rw [kmk_pick_nat _ e, List.size_toArray, kmk_drop_min, List.take_of_length_le (by rw [List.length_drop]; omega)] at N'
  exact N'
end


theorem ite_join {M : Model} {A : Around} {E : Value → Shared → Prop} {s : Shared} {env : Env} {c : Prop} [Decidable c] {i j : Int} {KP : Nat} {p p' : Pos} {Q : Value → Shared → Prop} (h : ∀ n t tk, (n = i ∨ n = j) → Q (.int n t) { s with toks := tk }) :
    if c then wpAny M A (eval (.Constant (.int i) KP p) env) Q E s else wpAny M A (eval (.Constant (.int j) KP p') env) Q E s := by
  split
  · exact wpAny_Constant_int (h i _ _ (.inl rfl))
  · exact wpAny_Constant_int (h j _ _ (.inr rfl))
theorem letGo_range {prog : Program} {w : World} {A : Around} {E : Value → Shared → Prop} {target : PySem.Expr} {I : Addr} {a b c : Int} {v : Value} {Q' : Unit → Shared → Prop} {s' : Shared} (hit : IsRangeIter s'.heap I a b c) (h : Q' () s') :
    wpAny (model prog w) A (letOwnedTupleGo target (.ref I) v) Q' E s' := by
  unfold letOwnedTupleGo
  cases target <;> first
    | exact wpAny_pure h
    | (cases v <;> first
        | exact wpAny_pure h
        | (refine wpAny_bind (wpAny_load hit ?_)
           exact wpAny_pure h))
section
variable {prog : Program} {w : World} {A : Around} {E : Value → Shared → Prop} {s : Shared} {env : Env} {h₀ : Heap} {target : PySem.Expr} {body : List Stmt} {Q : Flow → Shared → Prop}
set_option maxHeartbeats 3200000 in
/-- a for over range(nn), by an invariant -/
theorem turns_range {r : Addr} {b : Int} {tr ur vr : Tok} {nn : Nat} {m₀ : Str → Option Value} {news : List (Addr × Obj)} (J : Nat → (Str → Option Value) → List (Addr × Obj) → Prop)
    (hh : A.handled = none) (F : Fr h₀ env.locals s.heap m₀) (N : News h₀ env.locals s.heap news) (hr : IsRange s.heap r 0 b 1 tr ur vr) (hb : b = (nn : Int)) (hz : nn ≤ 100) (hj : J 0 m₀ news)
    (turn : ∀ i t m₁ nx h tk own, i < nn → J i m₁ nx → OwnOff own (nx.map (·.1)) → Fr h₀ env.locals h m₁ → News h₀ env.locals h (nx ++ own) →
      wpAny (model prog w) A (assign target env (.int (i : Int) t)) (fun _ s₃ => wpAny (model prog w) A (execs body env) (TurnPost h₀ env.locals (J (i + 1)) own { s with heap := h, toks := tk } Q) E s₃) E { s with heap := h, toks := tk })
    (done : ∀ m₁ nx h tk, J nn m₁ nx → Fr h₀ env.locals h m₁ → News h₀ env.locals h nx → Q .next { s with heap := h, toks := tk }) :
    wpAny (model prog w) A (pyIter (.ref r)) (fun it s₂ => TurnsAt prog w A h₀ env target body Q E it s₂) E s := by
  subst hb
  have hsm : Builtin.Range.small 0 (nn : Int) 1 = true := by
    unfold Builtin.Range.small
    rw [rsz nn]
    have f0 : Builtin.Range.rangeFitsLong 0 = true := by decide
    have f1 : Builtin.Range.rangeFitsLong 1 = true := by decide
    have fn : Builtin.Range.rangeFitsLong (nn : Int) = true := by
      unfold Builtin.Range.rangeFitsLong
      simp only [Bool.and_eq_true, decide_eq_true_eq]
      constructor <;> omega
    have e1 : (nn : Int) + (1 - 1) = nn := by omega
    rw [if_pos (show (1 : Int) > 0 by decide), e1, f0, f1, fn]
    simp
  refine wpAny_pyIter_range hr hsm ?_
  have W := KTurns.ofWalks (target := target) (LCg.range_walks (prog := prog) (w := w) (I := s.heap.objs.size) hh 0 nn) fun i v s Q E st q => letGo_range st q
  refine ⟨_, _, _, nn, _, _, _, m₀, news, J, rfl, W, ?_, ?_, ?_, ?_, F.push _, (fun p hp => ⟨Heap.get?_push_of_some _ (N p hp).1, (N p hp).2⟩), hj, ?_, ?_⟩
  · intro hm
    exact absurd F.ns.lt (List.mem_singleton.mp hm ▸ Nat.lt_irrefl _)
  · intro b hb
    rw [List.mem_singleton.mp hb]
    exact next_is_new F
  · intro p hp hI
    exact absurd (Heap.lt_size (N p hp).1) ((List.mem_singleton.mp hI) ▸ Nat.lt_irrefl _)
  · show IsRangeIter _ _ _ _ _
    rw [rsz nn]
    simpa using Heap.get?_push_size _ rfl
  · rintro i v m₁ nx hh' tk' own hin hP hJ hoff hown hget hfp hst F₁ N₁
    obtain ⟨t, rfl⟩ : ∃ t, v = Value.int (i : Int) t := by obtain ⟨t, e⟩ := hP; exact ⟨t, by rw [e, Int.zero_add]⟩
    have hI0 : h₀.get? s.heap.objs.size = none := next_is_new F
    have hoI : ∃ oI, hh'.get? s.heap.objs.size = some oI := ⟨_, hst⟩
    obtain ⟨oI, hoI⟩ := hoI
    have hIown : (s.heap.objs.size, oI) ∈ own.filter fun p => decide (p.1 = s.heap.objs.size) := List.mem_filter.mpr ⟨hfp _ (List.mem_singleton.mpr rfl) hI0 _ hoI, by simp⟩
    have hsep : OwnOff (own.filter fun p => decide (p.1 = s.heap.objs.size)) (nx.map (·.1)) := by
      intro p hp b hb e
      obtain ⟨q, hq, rfl⟩ := List.mem_map.mp hb
      have h1 : p.1 = s.heap.objs.size := by simpa using (List.mem_filter.mp hp).2
      exact hoff q hq (List.mem_singleton.mpr (e ▸ h1))
    have N₂ : News h₀ env.locals hh' (nx ++ own.filter fun p => decide (p.1 = s.heap.objs.size)) := fun p hp => N₁ p ((List.mem_append.mp hp).elim (fun h => List.mem_append.mpr (.inr h)) fun h => List.mem_append.mpr (.inl ((List.mem_filter.mp h).1)))
    refine wpAny_mono (turn i t m₁ nx hh' tk' _ hin hJ hsep F₁ N₂) (fun _ s₃ q => wpAny_mono q (fun f s₂ p => ?_) fun _ _ e => e) fun _ _ e => e
    have fin : TurnEnd h₀ env.locals (J (i + 1)) (own.filter fun p => decide (p.1 = s.heap.objs.size)) { s with heap := hh', toks := tk' } s₂ →
        LoopStepU h₀ env.locals [s.heap.objs.size] own (J (i + 1)) { s with heap := hh', toks := tk' } .next s₂ := by
      rintro ⟨h', tk, m', news', nx', e, F', N', hn, ho, ha, hm⟩
      refine ⟨rfl, h', tk, m', nx', e, F', fun p hp => ?_, fun p hp hq => ?_, hm⟩
      · rcases List.mem_append.mp hp with h | h
        · exact N' p (ho p (List.mem_filter.mpr ⟨h, by simpa using List.mem_singleton.mp (hown p h)⟩))
        · exact N' p (hn p h)
      · exact ha _ hIown p.1 (List.mem_map.mpr ⟨p, hp, rfl⟩) (List.mem_singleton.mp hq).symm
    cases f with
    | ret v => exact .ret p
    | brk => exact .brk p
    | next => exact .next (fin p)
    | cont => exact .cont (fin p)
  · rintro h' tk m' news' F' N' _ hJ
    exact done m' news' h' tk hJ F' N'
end


theorem RowsAt.append {P : Params} {tl : Led} {D : Bool → Dat} : ∀ {v1 : List Value} {r1 : List Row} {v2 : List Value} {r2 : List Row}, RowsAt P tl D v1 r1 → RowsAt P tl D v2 r2 → RowsAt P tl D (v1 ++ v2) (r1 ++ r2) := by
  intro _ _ v2 r2 h9
  induction h9 with
  | nil => exact fun h => h
  | cons a b c ih9 => exact fun h => .cons a b (ih9 h)
theorem RowsAt.take {P : Params} {tl : Led} {D : Bool → Dat} : ∀ {v1 : List Value} {r1 : List Row} (k : Nat), RowsAt P tl D v1 r1 → RowsAt P tl D (v1.take k) (r1.take k) := by
  intro _ _ k h9
  induction h9 generalizing k with
  | nil => cases k <;> exact .nil
  | cons a b c ih9 =>
    cases k with
    | zero => exact .nil
    | succ k => exact .cons a b (ih9 k)
theorem RowsAt.drop {P : Params} {tl : Led} {D : Bool → Dat} : ∀ {v1 : List Value} {r1 : List Row} (k : Nat), RowsAt P tl D v1 r1 → RowsAt P tl D (v1.drop k) (r1.drop k) := by
  intro _ _ k h9
  induction h9 generalizing k with
  | nil => cases k <;> exact .nil
  | cons a b c ih9 =>
    cases k with
    | zero => exact .cons a b c
    | succ k => exact ih9 k
theorem RowsAt.other {P : Params} {tl : Led} {D D' : Bool → Dat} : ∀ {v1 : List Value} {r1 : List Row}, RowsAt P tl D v1 r1 → (∀ q ∈ r1, D' q.1 = D q.1) → RowsAt P tl D' v1 r1 := by
  intro _ _ h9
  induction h9 with
  | nil => exact fun _ => .nil
  | cons a b k ih9 =>
    intro h
    have e := h _ (.head _)
    dsimp only at e
    exact .cons (by rw [e]; exact a) (by rw [e]; exact b) (ih9 fun q hq => h q (.tail _ hq))
theorem rcv_append (a b : List Row) (c : Bool) : rcv (a ++ b) c = rcv a c ++ rcv b c := by
  unfold rcv; rw [List.filter_append, List.map_append]
theorem rcv_same {rs : List (Nat × Bool)} {c : Bool} : rcv (rs.map fun q => (c, q.1, q.2)) c = rs.map (·.1) := by
  induction rs with
  | nil => rfl
  | cons a b ih =>
    unfold rcv at ih ⊢
    rw [List.map_cons, List.filter_cons_of_pos (by simp), List.map_cons, ih]; rfl
theorem rcv_none {r : List Row} {c : Bool} (h : ∀ q ∈ r, q.1 ≠ c) : rcv r c = [] := by
  unfold rcv
  rw [List.filter_eq_nil_iff.mpr (fun q hq => by simpa using h q hq)]
  rfl
theorem rcv_split (r : List Row) (c : Bool) : rcv (r.take 1) c ++ rcv (r.drop 1) c = rcv r c := by rw [← rcv_append, List.take_append_drop]
theorem rcv_mid {a m b : List Row} {c : Bool} (h : ∀ q ∈ m, q.1 ≠ c) : rcv (a ++ m ++ b) c = rcv (a ++ b) c := by
  rw [rcv_append, rcv_append, rcv_append, rcv_none h, List.append_nil]
/-- the state of law's loop -/
structure JLs (P : Params) (sa cx : Addr) (k : Nat) (m : Str → Option Value) (nx : Led) (x y : Int) (tx ty : Tok) (n nr : Nat) (oc : Obj) (rl : Addr) (rv : List Value) (rs : List Row) (D : Bool → Dat) (fz : Led) : Prop where
  mr : m (Str.ofString "rows") = some (.ref rl)
  nx : nx = (sa, srcOf x tx y ty n) :: (cx, oc) :: (rl, listOf rv.toArray nr) :: fz
  cell : oc.data = .cell (some (.ref sa))
  rows : RowsAt P fz D rv rs
  ok : RowsOk D rs
  len : rs.length ≤ 3 * k
  who : ∀ q ∈ rs, q.1 = true → 2 ≤ k
  z : k = 0 → rs = []
  hx : 0 ≤ x
  hy : 0 ≤ y
  hy2 : y < 2147483647
  ne1 : cx ≠ sa
  ne2 : rl ≠ sa
  off : ∀ p ∈ fz, p.1 ≠ sa
  n0 : (D false).n = 0
  n1 : (D true).n = 1
  dok : ∀ c, (D c).Ok
noncomputable def JL (P : Params) (sa cx : Addr) (sto : List Str) (m₀ : Str → Option Value) (k : Nat) (m : Str → Option Value) (nx : Led) : Prop :=
  (∀ z, sto.contains z = false → m z = m₀ z) ∧ ∃ x y tx ty n nr oc rl rv rs D fz, JLs P sa cx k m nx x y tx ty n nr oc rl rv rs D fz
theorem rowsOk_next {D : Bool → Dat} {c : Bool} {r : List Row} {ms : List (Nat × Bool)} {D' : Dat} (ok : RowsOk D r) (hw : ∀ q ∈ r, q.1 ≠ c) {is : List Nat} (hp : is.Perm (ms.map (·.1))) (hn : is.Nodup) (hle : ∀ i ∈ is, i ≤ D'.many) :
    RowsOk (fun c' => if c' = c then D' else D c') (r.take 1 ++ (ms.map fun q => (c, q.1, q.2)) ++ r.drop 1) := by
  have hme : ∀ q ∈ (ms.map fun q => ((c, q.1, q.2) : Row)), q.1 = c := fun q hq => by obtain ⟨a, -, rfl⟩ := List.mem_map.mp hq; rfl
  have key : ∀ c', rcv (r.take 1 ++ (ms.map fun q => (c, q.1, q.2)) ++ r.drop 1) c' = if c' = c then ms.map (·.1) else rcv r c' := by
    intro c'
    by_cases e : c' = c
    · subst e
      rw [if_pos rfl, rcv_append, rcv_append, rcv_same, rcv_none fun q hq => hw q (List.mem_of_mem_take hq), rcv_none fun q hq => hw q (List.mem_of_mem_drop hq)]
      simp
    · rw [if_neg e, rcv_mid fun q hq => by rw [hme q hq]; exact Ne.symm e, rcv_append, rcv_split]
  constructor
  · intro c'
    rw [key c']
    split
    · exact hp.nodup_iff.mp hn
    · exact ok.nd c'
  · intro c' i hi
    rw [key c'] at hi
    by_cases e : c' = c
    · rw [if_pos e] at hi ⊢
      exact hle i (hp.mem_iff.mpr hi)
    · rw [if_neg e] at hi ⊢
      exact ok.le c' i hi


theorem off1_ne {D sa : Addr} {o : Obj} : ∀ {l : Led}, LCg.Off1 D l → (sa, o) ∈ l → D ≠ sa
  | [], _, h => by cases h
  | q :: l, h, hm => by
    rcases List.mem_cons.mp hm with e | hm
    · subst e; exact Ne.symm h.1
    · exact off1_ne h.2 hm
theorem parts_sep_then {new news : Led} {l sa : Addr} {x y : Int} {tx ty : Tok} {n : Nat} {oc : Obj} {G : Prop} (hc : oc.data = .cell (some (.ref sa))) (hf : ∀ p ∈ new, ∀ q ∈ news, q.1 ≠ p.1) (hl : ∀ q ∈ news, q.1 ≠ l) (hm : (sa, srcOf x tx y ty n) ∈ news) (k : (∀ p ∈ new, p.1 ≠ sa) → l ≠ sa → G) : G :=
  k (fun p hp => Ne.symm (hf p hp _ hm)) (Ne.symm (hl _ hm))
theorem MixAt.length {P : Params} {tl : Led} {D : Dat} : ∀ {vs : List Value} {rs : List (Nat × Bool)}, MixAt P tl D vs rs → vs.length = rs.length := by
  intro _ _ h9
  induction h9 with
  | nil => exact rfl
  | cons _ _ r ih9 => exact by rw [List.length_cons, List.length_cons, ih9]
theorem mix_len {P : Params} {tl : Led} {D : Dat} {vs : List Value} {rs : List (Nat × Bool)} {is : List Nat} (h : MixAt P tl D vs rs) (hp : is.Perm (rs.map (·.1))) (hl : is.length ≤ 3) : vs.length ≤ 3 := by
  have := hp.length_eq
  rw [List.length_map] at this
  rw [h.length]; omega
theorem LeftAt.inv {P : Params} {tl : Led} {D : Dat} {vs : List Value} {i : Nat} {is : List Nat} (h : LeftAt P tl D vs (i :: is)) : ∃ t hh tb vs', vs = Value.ref t :: vs' ∧ (t, lotTup hh (D.b i) tb) ∈ tl ∧ HdAt P tl hh (D.hd i) ∧ LeftAt P tl D vs' is := by
  cases h with
  | cons a b c => exact ⟨_, _, _, _, rfl, a, b, c⟩
theorem LeftAt.inv0 {P : Params} {tl : Led} {D : Dat} {vs : List Value} (h : LeftAt P tl D vs []) : vs = [] := by
  cases h
  rfl
theorem LeftAt.inv1 {P : Params} {tl : Led} {D : Dat} {vs : List Value} {i0 : Nat} (h : LeftAt P tl D vs [i0]) : ∃ t0 h0 c0, vs = [Value.ref t0] ∧ (t0, lotTup h0 (D.b i0) c0) ∈ tl ∧ HdAt P tl h0 (D.hd i0) := by
  obtain ⟨t0, h0, c0, v0, e0, a0, b0, l0⟩ := LeftAt.inv h
  exact ⟨t0, h0, c0, by (rw [e0, LeftAt.inv0 l0]), a0, b0⟩
theorem LeftAt.inv2 {P : Params} {tl : Led} {D : Dat} {vs : List Value} {i0 i1 : Nat} (h : LeftAt P tl D vs [i0, i1]) : ∃ t0 h0 c0 t1 h1 c1, vs = [Value.ref t0, Value.ref t1] ∧ (t0, lotTup h0 (D.b i0) c0) ∈ tl ∧ HdAt P tl h0 (D.hd i0) ∧ (t1, lotTup h1 (D.b i1) c1) ∈ tl ∧ HdAt P tl h1 (D.hd i1) := by
  obtain ⟨t0, h0, c0, v0, e0, a0, b0, l0⟩ := LeftAt.inv h
  obtain ⟨t1, h1, c1, v1, e1, a1, b1, l1⟩ := LeftAt.inv l0
  exact ⟨t0, h0, c0, t1, h1, c1, by (rw [e0, e1, LeftAt.inv0 l1]), a0, b0, a1, b1⟩
theorem LeftAt.inv3 {P : Params} {tl : Led} {D : Dat} {vs : List Value} {i0 i1 i2 : Nat} (h : LeftAt P tl D vs [i0, i1, i2]) : ∃ t0 h0 c0 t1 h1 c1 t2 h2 c2, vs = [Value.ref t0, Value.ref t1, Value.ref t2] ∧ (t0, lotTup h0 (D.b i0) c0) ∈ tl ∧ HdAt P tl h0 (D.hd i0) ∧ (t1, lotTup h1 (D.b i1) c1) ∈ tl ∧ HdAt P tl h1 (D.hd i1) ∧ (t2, lotTup h2 (D.b i2) c2) ∈ tl ∧ HdAt P tl h2 (D.hd i2) := by
  obtain ⟨t0, h0, c0, v0, e0, a0, b0, l0⟩ := LeftAt.inv h
  obtain ⟨t1, h1, c1, v1, e1, a1, b1, l1⟩ := LeftAt.inv l0
  obtain ⟨t2, h2, c2, v2, e2, a2, b2, l2⟩ := LeftAt.inv l1
  exact ⟨t0, h0, c0, t1, h1, c1, t2, h2, c2, by (rw [e0, e1, e2, LeftAt.inv0 l2]), a0, b0, a1, b1, a2, b2⟩
noncomputable def dumD (n : Int) : Dat := datOf n 0 #[0]
theorem dumD_ok {n : Int} : (dumD n).Ok := datOf_ok (by decide) (by decide) (by decide)
noncomputable def twoD (a b : Dat) : Bool → Dat := fun c => if c then b else a
theorem rows_first {D : Bool → Dat} {ob : Byt} (h : D false = datOf 3 1 ob) : RowsOk D [(false, 1, false), (false, 0, true)] := by
  constructor
  · intro c; cases c <;> decide
  · intro c i hi
    cases c
    · rw [h]
      have hi' : i ∈ [1, 0] := hi
      simp only [List.mem_cons, List.not_mem_nil, or_false] at hi'
      show i ≤ 1
      omega
    · cases hi
section
variable {prog : Program} {w : World} {A : Around} {E : Value → Shared → Prop} {s : Shared} {h₀ : Heap} {L l b : Addr} {m : Str → Option Value} {news : Led}
theorem add_rows {vs ws : List Value} {n n2 : Nat} {Q : Value → Shared → Prop} (F : Fr h₀ L s.heap m) (N : News h₀ L s.heap news) (hl : (l, listOf vs.toArray n) ∈ news) (hb : (b, listOf ws.toArray n2) ∈ news) (hz : vs.length ≤ 100) (hz2 : ws.length ≤ 100)
    (h : ∀ D h', Fr h₀ L h' m → News h₀ L h' ((D, listOf (vs ++ ws).toArray 0) :: news) → (∀ p ∈ news, p.1 < D) → Q (.ref D) { s with heap := h' }) :
    wpAny (model prog w) A (binaryOp .Add (.ref l) (.ref b)) Q E s :=
  add_lists F N (N.isList hl) (N.isList hb) (fun h' F' N' => h _ h' F' N' fun p hp => Heap.lt_size (N p hp).1) (by rw [sizeLine_eq]; omega)
end


section
variable {prog : Program} {w : World} {A : Around} {s : Shared} {K : Frag} {mg mb : Str → Option Value} {p : Program} {loose : List Str} {mean : ExcName → Option Value}
theorem code_topC {R : Result → Shared → Prop} {name qual : Str} {params : Arguments} {body : List Stmt} {scope : Scope} {dV kV doc pm cdv ct oc : Value} {an od : Option Addr} {osl : Array (Option Value)} {f : Addr} {args : Args} {binds : List (Str × Value)}
    (X₀ : K.In s.heap) (T : Top p loose mean mg mb s.heap) (hA : A.frames = some [])
    (ho : K.lookup f = some ⟨oc, od, .func (fnOf name qual params body scope dV kV doc pm an cdv ct), osl⟩) (hcd : codeIn K cdv qual = true) (hroom : A.depth < recursionLimit)
    (hbind : BindsTo s (fnOf name qual params body scope dV kV doc pm an cdv ct) args binds) (hkind : (binds.all fun y => scope.names.lookup y.1 == some .local || scope.names.lookup y.1 == some .cell) = true)
    (hnd : ((cellsFrom 0 scope.names []).map (·.1)).Nodup)
    (h : ∀ L' h₁ tk cells, Fr s.heap L' h₁ (bindL (envOfC qual scope L' f cdv).kindOf binds fun _ => none) → News s.heap L' h₁ cells →
      CellsAre (bindC (envOfC qual scope L' f cdv).kindOf binds fun _ => none) (cellsFrom (L' + 1) scope.names []) cells →
      wpAny (model prog w) (A.deeper (envOfC qual scope L' f cdv)) (execs body (envOfC qual scope L' f cdv))
        (fun fl s' => R (.ok (.ret (match fl with | .ret v => v | _ => .none))) s')
        (fun e s' => wpAny (model prog w) (A.deeper (envOfC qual scope L' f cdv)) (leaving (envOfC qual scope L' f cdv) e) (fun _ s'' => R (.error e) s'') (fun e' s'' => R (.error e') s'') s')
        { s with heap := h₁, toks := tk })
    (hco : scope.isCoroutine = false) (hgen : scope.isGenerator = false) (hk : scope.kind = .function) : codeAny (model prog w) A (.call (.ref f) args) R s := by
  refine codeAny_call_function hroom (X₀ _ _ ho) rfl hco hgen rfl (codeRec_of X₀ hcd) (hbind _ _ _ _ ?_)
  refine wpAny_newFunctionEnv_cells hk (kindsX hkind _) fun env' he s' x => ?_
  subst he
  refine ⟨T.nolimit.keeps x.toInCall.keep, codeAny_func ?_⟩
  obtain ⟨h₁, tk, rfl, _⟩ := x.done
  have hk₁ := x.toInCall.keep
  obtain ⟨cells, NC, Y⟩ := Cl.news (h₀ := s.heap) (Nat.le_refl _) fun n c hm => ⟨x.cell n c (lookup_of_mem_nodup (cellsFrom_names scope.names 0 (s.heap.objs.size + 1) [] [] rfl ▸ hnd) hm), x.above n c hm⟩
  exact h s.heap.objs.size h₁ tk cells ⟨x.toInCall.ns, hk₁, Nat.le_refl _⟩ (fun q hq => ⟨(NC q hq).1, (NC q hq).2.1, (NC q hq).2.2⟩) Y
end
theorem sep_use {new news : Led} {p q : Addr × Obj} (h : ∀ p ∈ new, ∀ q ∈ news, q.1 ≠ p.1) (hp : p ∈ new) (hq : q ∈ news) : q.1 ≠ p.1 := h p hp q hq
theorem two_nat {z : Int} (h : z = 2 ∨ z = 1) : ∃ k : Nat, z = (k : Int) ∧ k ≤ 2 := by
  rcases h with h | h
  · exact ⟨2, h, by decide⟩
  · exact ⟨1, h, by decide⟩
theorem jl0 {P : Params} {sa cx rl : Addr} {sto : List Str} {m₀ : Str → Option Value} {x y : Int} {tx ty : Tok} {n nr : Nat} {oc : Obj} (hr : m₀ (Str.ofString "rows") = some (.ref rl)) (hc : oc.data = .cell (some (.ref sa))) (h1 : 0 ≤ x) (h2 : 0 ≤ y) (h3 : y < 2147483647) (n1 : cx ≠ sa) (n2 : rl ≠ sa) :
    JL P sa cx sto m₀ 0 m₀ [(sa, srcOf x tx y ty n), (cx, oc), (rl, listOf [].toArray nr)] :=
  ⟨fun _ _ => rfl, x, y, tx, ty, n, nr, oc, rl, [], [], twoD (dumD 0) (dumD 1), [], ⟨hr, rfl, hc, .nil, ⟨fun c => List.nodup_nil, fun c i hi => by cases hi⟩, by simp, (fun q hq => by cases hq), (fun _ => rfl), h1, h2, h3, n1, n2, (fun p hp => by cases hp), rfl, rfl, fun c => by cases c <;> exact dumD_ok⟩⟩
section
variable {w : World} {A : Around} {E : Value → Shared → Prop} {s : Shared} {env : Env} {h₀ : Heap} {target : PySem.Expr} {body : List Stmt} {Q : Flow → Shared → Prop} {sa cx rl : Addr}
theorem law_loop (sto : List Str) {r : Addr} {z x y : Int} {tr ur vr tx ty : Tok} {n nr : Nat} {oc : Obj} {m₀ : Str → Option Value} {news : Led}
    (hh : A.handled = none) (F : Fr h₀ env.locals s.heap m₀) (N : News h₀ env.locals s.heap news) (hr : IsRange s.heap r 0 z 1 tr ur vr) (hz : z = 2 ∨ z = 1) (mr : m₀ (Str.ofString "rows") = some (.ref rl)) (hc : oc.data = .cell (some (.ref sa))) (ms : (sa, srcOf x tx y ty n) ∈ news) (mc : (cx, oc) ∈ news) (ml : (rl, listOf [].toArray nr) ∈ news)
    (h1 : 0 ≤ x) (h2 : 0 ≤ y) (h3 : y < 2147483647) (n1 : cx ≠ sa) (n2 : rl ≠ sa)
    (turn : ∀ (i : Nat) (t : Tok) (m₁ : Str → Option Value) (x y : Int) (tx ty : Tok) (n nr : Nat) (oc : Obj) (rl : Addr) (rv : List Value) (rs : List Row) (D : Bool → Dat) (fz : Led) (h : Heap) (tk : Nat) (own : Led), i < 2 → JLs w.params sa cx i m₁ ((sa, srcOf x tx y ty n) :: (cx, oc) :: (rl, listOf rv.toArray nr) :: fz) x y tx ty n nr oc rl rv rs D fz → (∀ z, sto.contains z = false → m₁ z = m₀ z) → OwnOff own (((sa, srcOf x tx y ty n) :: (cx, oc) :: (rl, listOf rv.toArray nr) :: fz).map (·.1)) → m₁ (Str.ofString "rows") = some (.ref rl) → oc.data = .cell (some (.ref sa)) → 0 ≤ x → 0 ≤ y → y < 2147483647 → cx ≠ sa → rl ≠ sa → (∀ p ∈ fz ++ own, p.1 ≠ sa) → rv.length ≤ 100 → Fr h₀ env.locals h m₁ → News h₀ env.locals h ((sa, srcOf x tx y ty n) :: (cx, oc) :: (rl, listOf rv.toArray nr) :: (fz ++ own)) →
      wpAny (model Challenge.rw_xw0340_01.row.prog w) A (assign target env (.int (i : Int) t)) (fun _ s₃ => wpAny (model Challenge.rw_xw0340_01.row.prog w) A (execs body env) (TurnPost h₀ env.locals (JL w.params sa cx sto m₀ (i + 1)) own { s with heap := h, toks := tk } Q) E s₃) E { s with heap := h, toks := tk })
    (done : ∀ (k : Nat) (m₁ : Str → Option Value) (x y : Int) (tx ty : Tok) (n nr : Nat) (oc : Obj) (rl : Addr) (rv : List Value) (rs : List Row) (D : Bool → Dat) (fz : Led) (h : Heap) (tk : Nat), m₁ (Str.ofString "rows") = some (.ref rl) → RowsAt w.params fz D rv rs → RowsOk D rs → (∀ c, (D c).Ok) → (D false).n ≠ (D true).n → rs.length ≤ 100 → Fr h₀ env.locals h m₁ → News h₀ env.locals h ((rl, listOf rv.toArray nr) :: fz) → Q .next { s with heap := h, toks := tk }) :
    wpAny (model Challenge.rw_xw0340_01.row.prog w) A (pyIter (.ref r)) (fun it s₂ => TurnsAt Challenge.rw_xw0340_01.row.prog w A h₀ env target body Q E it s₂) E s := by
  obtain ⟨nn, hb, hn⟩ := two_nat hz
  refine turns_range (JL w.params sa cx sto m₀) hh F (news := [(sa, srcOf x tx y ty n), (cx, oc), (rl, listOf [].toArray nr)]) (newsub N (List.forall_mem_cons.mpr ⟨ms, List.forall_mem_cons.mpr ⟨mc, List.forall_mem_cons.mpr ⟨ml, List.forall_mem_nil _⟩⟩⟩)) hr hb (by omega) (jl0 mr hc h1 h2 h3 n1 n2) ?_ ?_
  · rintro i t m₁ nx h tk own hi ⟨hm, x, y, tx, ty, n, nr, oc, rl, rv, rs, D, fz, J⟩ hoff F₁ N₁
    have e := J.nx
    subst e
    refine turn i t m₁ x y tx ty n nr oc rl rv rs D fz h tk own (by omega) J hm hoff J.mr J.cell J.hx J.hy J.hy2 J.ne1 J.ne2 (fun p hp => ?_) (by rw [J.rows.length]; exact Nat.le_trans J.len (by omega)) F₁ (by simpa using N₁)
    rcases List.mem_append.mp hp with hp | hp
    · exact J.off p hp
    · exact hoff p hp sa (by simp)
  · rintro m₁ nx h tk ⟨hm, x, y, tx, ty, n, nr, oc, rl, rv, rs, D, fz, J⟩ F₁ N₁
    have e := J.nx
    subst e
    exact done nn m₁ x y tx ty n nr oc rl rv rs D fz h tk J.mr J.rows J.ok J.dok (by rw [J.n0, J.n1]; decide) (Nat.le_trans J.len (by omega)) F₁ (newsub N₁ fun p hp => .tail _ (.tail _ hp))
theorem law_end (sto : List Str) {i : Nat} {m₀ m₁ m' : Str → Option Value} {x y x' y' : Int} {tx ty tx' ty' : Tok} {n nr n' nr' tk' : Nat} {oc : Obj} {rl' : Addr} {rv vs : List Value} {rs : List Row} {D : Bool → Dat} {fz own new : Led} {D' : Dat} {ms : List (Nat × Bool)} {is : List Nat} {L : Addr} {h' : Heap} {s₁ : Shared}
    (J : JLs w.params sa cx i m₁ ((sa, srcOf x tx y ty n) :: (cx, oc) :: (rl, listOf rv.toArray nr) :: fz) x y tx ty n nr oc rl rv rs D fz) (hi : i < 2) (hm : ∀ z, sto.contains z = false → m₁ z = m₀ z) (hoff : OwnOff own (((sa, srcOf x tx y ty n) :: (cx, oc) :: (rl, listOf rv.toArray nr) :: fz).map (·.1)))
    (hD : D'.Ok) (hn : D'.n = (i : Int)) (mix' : MixAt w.params (new ++ fz) D' vs ms) (hp : is.Perm (ms.map (·.1))) (hnd : is.Nodup) (hle : ∀ j ∈ is, j ≤ D'.many) (hl3 : is.length ≤ 3)
    (F : Fr h₀ L h' m') (N : News h₀ L h' ((sa, srcOf x' tx' y' ty' n') :: (cx, oc) :: (rl', listOf (rv.take 1 ++ vs ++ rv.drop 1).toArray nr') :: (new ++ (fz ++ own)))) (hr : m' (Str.ofString "rows") = some (.ref rl')) (hm' : ∀ z, sto.contains z = false → m' z = m₁ z)
    (b1 : 0 ≤ x') (b2 : 0 ≤ y') (b3 : y' < 2147483647) (f1 : rl' ≠ sa) (f2 : ∀ p ∈ new, p.1 ≠ sa) (f3 : ∀ q ∈ own, q.1 ≠ rl') (f4 : ∀ p ∈ new, ∀ q ∈ own, q.1 ≠ p.1) :
    TurnEnd h₀ L (JL w.params sa cx sto m₀ (i + 1)) own s₁ { s₁ with heap := h', toks := tk' } := by
  have hc : ∀ q ∈ rs, q.1 ≠ decide (i = 1) := by
    intro q hq e
    rcases (by omega : i = 0 ∨ i = 1) with h0 | h0
    · rw [J.z h0] at hq; cases hq
    · have := J.who q hq (by rw [e, h0]; decide); omega
  refine TurnEnd.intro (nx := (sa, srcOf x' tx' y' ty' n') :: (cx, oc) :: (rl', listOf (rv.take 1 ++ vs ++ rv.drop 1).toArray nr') :: (new ++ fz)) F N ⟨fun z hz => (hm' z hz).trans (hm z hz), x', y', tx', ty', n', nr', oc, rl', rv.take 1 ++ vs ++ rv.drop 1, rs.take 1 ++ (ms.map fun q => (decide (i = 1), q.1, q.2)) ++ rs.drop 1, (fun c' => if c' = decide (i = 1) then D' else D c'), new ++ fz, ⟨hr, rfl, J.cell, ?_, rowsOk_next J.ok hc hp hnd hle, ?_, ?_, (fun h => by omega), b1, b2, b3, J.ne1, f1, ?_, ?_, ?_, ?_⟩⟩ ?_ ?_ ?_
  · have hold : RowsAt w.params (new ++ fz) (fun c' => if c' = decide (i = 1) then D' else D c') rv rs := (J.rows.mono fun p hp => List.mem_append.mpr (.inr hp)).other fun q hq => if_neg (hc q hq)
    have hnew : RowsAt w.params (new ++ fz) (fun c' => if c' = decide (i = 1) then D' else D c') vs (ms.map fun q => (decide (i = 1), q.1, q.2)) := MixAt.rows (D := fun c' => if c' = decide (i = 1) then D' else D c') (c := decide (i = 1)) (by rw [if_pos rfl]; exact mix')
    exact ((hold.take 1).append hnew).append (hold.drop 1)
  · have h1 := hp.length_eq
    have h2 := J.len
    simp only [List.length_append, List.length_take, List.length_drop, List.length_map] at h1 ⊢
    omega
  · intro q hq e
    rcases List.mem_append.mp hq with hq | hq
    · rcases List.mem_append.mp hq with hq | hq
      · have := J.who q (List.mem_of_mem_take hq) e; omega
      · obtain ⟨a, -, rfl⟩ := List.mem_map.mp hq
        have : i = 1 := by simpa using e
        omega
    · have := J.who q (List.mem_of_mem_drop hq) e; omega
  · intro p hp
    rcases List.mem_append.mp hp with hp | hp
    · exact f2 p hp
    · exact J.off p hp
  · by_cases h : i = 1
    · rw [if_neg (by simp [h])]; exact J.n0
    · rw [if_pos (by simp [h]), hn]; omega
  · by_cases h : i = 1
    · rw [if_pos (by simp [h]), hn]; omega
    · rw [if_neg (by simp [h])]; exact J.n1
  · intro c'
    show (if c' = decide (i = 1) then D' else D c').Ok
    split
    · exact hD
    · exact J.dok c'
  · intro q hq b hb
    obtain ⟨z, hz, rfl⟩ := List.mem_map.mp hb
    rcases List.mem_cons.mp hz with rfl | hz
    · exact hoff q hq _ (by simp)
    rcases List.mem_cons.mp hz with rfl | hz
    · exact hoff q hq _ (by simp)
    rcases List.mem_cons.mp hz with rfl | hz
    · exact f3 q hq
    rcases List.mem_append.mp hz with hz | hz
    · exact f4 z hz q hq
    · exact hoff q hq _ (List.mem_map.mpr ⟨z, by simp [hz], rfl⟩)
  · intro p hp
    rcases List.mem_cons.mp hp with rfl | hp
    · simp
    rcases List.mem_cons.mp hp with rfl | hp
    · simp
    rcases List.mem_cons.mp hp with rfl | hp
    · simp
    rcases List.mem_append.mp hp with hp | hp <;> simp [hp]
  · intro p hp
    simp [hp]
end


theorem keep1 {h₀ h : Heap} {L cx : Addr} {oc : Obj} {news : List (Addr × Obj)} (N : News h₀ L h news) (hm : (cx, oc) ∈ news) : News h₀ L h [(cx, oc)] := newsub N (List.forall_mem_cons.mpr ⟨hm, List.forall_mem_nil _⟩)


def up {α : Type} (k : Nat) (x : α) (f : Nat → α) (n : Nat) : α := cond (Nat.beq n k) x (f n)
theorem neFun {β : Type} (h : Nonempty β) : Nonempty (Nat → β) := h.elim fun b => ⟨fun _ => b⟩
class Cx where
  lts : (Nat → Program) × (Nat → World) × (Nat → List Str) × (Nat → ExcName → Option Value) × (Nat → Str → Option Value) × (Nat → Nat) × (Nat → Option (List Code)) × (Nat → Str) × (Nat → Scope) × (Nat → Addr) × (Nat → Value) × (Nat → List (Str × Addr)) × (Nat → List Env) × (Nat → Around) × (Nat → Heap) × (Nat → List (Addr × Obj)) × (Nat → Shared) × (Nat → Value → Shared → Prop) × (Nat → Tok) × (Nat → List Value) × (Nat → Rws) × (Nat → List Row) × (Nat → Int) × (Nat → Bool) × (Nat → Option Hd) × (Nat → List (Int × Byt)) × (Nat → Hd) × (Nat → Byt) × (Nat → Option Int) × (Nat → List Int) × (Nat → Array Nat) × (Nat → Obj) × (Nat → Dg) × (Nat → List (List Int × Addr × Value)) × (Nat → Option (Hd × Byt)) × (Nat → List (Addr × Obj) → Prop) × (Nat → Bool → Dat) × (Nat → Dat)
namespace Cx
noncomputable def p09 [c : Cx] : Nat → Program := c.lts.1
noncomputable def p19 [c : Cx] : Nat → World := c.lts.2.1
noncomputable def p29 [c : Cx] : Nat → List Str := c.lts.2.2.1
noncomputable def p39 [c : Cx] : Nat → ExcName → Option Value := c.lts.2.2.2.1
noncomputable def p49 [c : Cx] : Nat → Str → Option Value := c.lts.2.2.2.2.1
noncomputable def p59 [c : Cx] : Nat → Nat := c.lts.2.2.2.2.2.1
noncomputable def p69 [c : Cx] : Nat → Option (List Code) := c.lts.2.2.2.2.2.2.1
noncomputable def p79 [c : Cx] : Nat → Str := c.lts.2.2.2.2.2.2.2.1
noncomputable def p89 [c : Cx] : Nat → Scope := c.lts.2.2.2.2.2.2.2.2.1
noncomputable def p99 [c : Cx] : Nat → Addr := c.lts.2.2.2.2.2.2.2.2.2.1
noncomputable def p109 [c : Cx] : Nat → Value := c.lts.2.2.2.2.2.2.2.2.2.2.1
noncomputable def p119 [c : Cx] : Nat → List (Str × Addr) := c.lts.2.2.2.2.2.2.2.2.2.2.2.1
noncomputable def p129 [c : Cx] : Nat → List Env := c.lts.2.2.2.2.2.2.2.2.2.2.2.2.1
noncomputable def p139 [c : Cx] : Nat → Around := c.lts.2.2.2.2.2.2.2.2.2.2.2.2.2.1
noncomputable def p149 [c : Cx] : Nat → Heap := c.lts.2.2.2.2.2.2.2.2.2.2.2.2.2.2.1
noncomputable def p159 [c : Cx] : Nat → List (Addr × Obj) := c.lts.2.2.2.2.2.2.2.2.2.2.2.2.2.2.2.1
noncomputable def p169 [c : Cx] : Nat → Shared := c.lts.2.2.2.2.2.2.2.2.2.2.2.2.2.2.2.2.1
noncomputable def p179 [c : Cx] : Nat → Value → Shared → Prop := c.lts.2.2.2.2.2.2.2.2.2.2.2.2.2.2.2.2.2.1
noncomputable def p189 [c : Cx] : Nat → Tok := c.lts.2.2.2.2.2.2.2.2.2.2.2.2.2.2.2.2.2.2.1
noncomputable def p199 [c : Cx] : Nat → List Value := c.lts.2.2.2.2.2.2.2.2.2.2.2.2.2.2.2.2.2.2.2.1
noncomputable def p209 [c : Cx] : Nat → Rws := c.lts.2.2.2.2.2.2.2.2.2.2.2.2.2.2.2.2.2.2.2.2.1
noncomputable def p219 [c : Cx] : Nat → List Row := c.lts.2.2.2.2.2.2.2.2.2.2.2.2.2.2.2.2.2.2.2.2.2.1
noncomputable def p229 [c : Cx] : Nat → Int := c.lts.2.2.2.2.2.2.2.2.2.2.2.2.2.2.2.2.2.2.2.2.2.2.1
noncomputable def p239 [c : Cx] : Nat → Bool := c.lts.2.2.2.2.2.2.2.2.2.2.2.2.2.2.2.2.2.2.2.2.2.2.2.1
noncomputable def p249 [c : Cx] : Nat → Option Hd := c.lts.2.2.2.2.2.2.2.2.2.2.2.2.2.2.2.2.2.2.2.2.2.2.2.2.1
noncomputable def p259 [c : Cx] : Nat → List (Int × Byt) := c.lts.2.2.2.2.2.2.2.2.2.2.2.2.2.2.2.2.2.2.2.2.2.2.2.2.2.1
noncomputable def p269 [c : Cx] : Nat → Hd := c.lts.2.2.2.2.2.2.2.2.2.2.2.2.2.2.2.2.2.2.2.2.2.2.2.2.2.2.1
noncomputable def p279 [c : Cx] : Nat → Byt := c.lts.2.2.2.2.2.2.2.2.2.2.2.2.2.2.2.2.2.2.2.2.2.2.2.2.2.2.2.1
noncomputable def p289 [c : Cx] : Nat → Option Int := c.lts.2.2.2.2.2.2.2.2.2.2.2.2.2.2.2.2.2.2.2.2.2.2.2.2.2.2.2.2.1
noncomputable def p299 [c : Cx] : Nat → List Int := c.lts.2.2.2.2.2.2.2.2.2.2.2.2.2.2.2.2.2.2.2.2.2.2.2.2.2.2.2.2.2.1
noncomputable def p309 [c : Cx] : Nat → Array Nat := c.lts.2.2.2.2.2.2.2.2.2.2.2.2.2.2.2.2.2.2.2.2.2.2.2.2.2.2.2.2.2.2.1
noncomputable def p319 [c : Cx] : Nat → Obj := c.lts.2.2.2.2.2.2.2.2.2.2.2.2.2.2.2.2.2.2.2.2.2.2.2.2.2.2.2.2.2.2.2.1
noncomputable def p329 [c : Cx] : Nat → Dg := c.lts.2.2.2.2.2.2.2.2.2.2.2.2.2.2.2.2.2.2.2.2.2.2.2.2.2.2.2.2.2.2.2.2.1
noncomputable def p339 [c : Cx] : Nat → List (List Int × Addr × Value) := c.lts.2.2.2.2.2.2.2.2.2.2.2.2.2.2.2.2.2.2.2.2.2.2.2.2.2.2.2.2.2.2.2.2.2.1
noncomputable def p349 [c : Cx] : Nat → Option (Hd × Byt) := c.lts.2.2.2.2.2.2.2.2.2.2.2.2.2.2.2.2.2.2.2.2.2.2.2.2.2.2.2.2.2.2.2.2.2.2.1
noncomputable def p359 [c : Cx] : Nat → List (Addr × Obj) → Prop := c.lts.2.2.2.2.2.2.2.2.2.2.2.2.2.2.2.2.2.2.2.2.2.2.2.2.2.2.2.2.2.2.2.2.2.2.2.1
noncomputable def p369 [c : Cx] : Nat → Bool → Dat := c.lts.2.2.2.2.2.2.2.2.2.2.2.2.2.2.2.2.2.2.2.2.2.2.2.2.2.2.2.2.2.2.2.2.2.2.2.2.1
noncomputable def p379 [c : Cx] : Nat → Dat := c.lts.2.2.2.2.2.2.2.2.2.2.2.2.2.2.2.2.2.2.2.2.2.2.2.2.2.2.2.2.2.2.2.2.2.2.2.2.2
noncomputable def pp [Cx] : Program := p09 0
noncomputable def w [Cx] : World := p19 0
noncomputable def loose [Cx] : List Str := p29 0
noncomputable def mean [Cx] : ExcName → Option Value := p39 0
noncomputable def mg [Cx] : Str → Option Value := p49 0
noncomputable def mb [Cx] : Str → Option Value := p49 1
noncomputable def dp [Cx] : Nat := p59 0
noncomputable def un [Cx] : Nat := p59 1
noncomputable def gd [Cx] : Option (List Code) := p69 0
noncomputable def cn [Cx] : Str := p79 0
noncomputable def cs [Cx] : Scope := p89 0
noncomputable def a [Cx] : Addr := p99 0
noncomputable def ccd [Cx] : Value := p109 0
noncomputable def cl [Cx] : List (Str × Addr) := p119 0
noncomputable def outer [Cx] : List Env := p129 0
noncomputable def A₀ [Cx] : Around := p139 0
noncomputable def base [Cx] : Heap := p149 0
noncomputable def h₀ [Cx] : Heap := p149 1
noncomputable def L [Cx] : Addr := p99 1
noncomputable def m [Cx] : Str → Option Value := p49 2
noncomputable def news [Cx] : List (Addr × Obj) := p159 0
noncomputable def s [Cx] : Shared := p169 0
noncomputable def Q [Cx] : Value → Shared → Prop := p179 0
noncomputable def E [Cx] : Value → Shared → Prop := p179 1
noncomputable def hg [Cx] : Addr := p99 2
noncomputable def ha [Cx] : Addr := p99 3
noncomputable def rl [Cx] : Addr := p99 4
noncomputable def k1 [Cx] : Tok := p189 0
noncomputable def k2 [Cx] : Tok := p189 1
noncomputable def most [Cx] : Value := p109 1
noncomputable def rvs [Cx] : List Value := p199 0
noncomputable def nr [Cx] : Nat := p59 2
noncomputable def rows [Cx] : Rws := p209 0
noncomputable def rows_2z [Cx] : List Row := p219 0
noncomputable def rest [Cx] : List (Addr × Obj) := p159 1
noncomputable def b [Cx] : Int := p229 0
noncomputable def e [Cx] : Int := p229 1
noncomputable def tb [Cx] : Tok := p189 2
noncomputable def te [Cx] : Tok := p189 3
noncomputable def M [Cx] : Int := p229 2
noncomputable def tM [Cx] : Tok := p189 4
noncomputable def t [Cx] : Addr := p99 5
noncomputable def a2 [Cx] : Int := p229 3
noncomputable def a2_2z [Cx] : Value := p109 2
noncomputable def ta [Cx] : Tok := p189 5
noncomputable def ta_2z [Cx] : Bool := p239 0
noncomputable def vs [Cx] : List Value := p199 1
noncomputable def d [Cx] : Addr := p99 6
noncomputable def da [Cx] : Addr := p99 7
noncomputable def pl [Cx] : Addr := p99 8
noncomputable def fv [Cx] : Value := p109 3
noncomputable def g1 [Cx] : Tok := p189 6
noncomputable def g2 [Cx] : Tok := p189 7
noncomputable def g3 [Cx] : Tok := p189 8
noncomputable def g4 [Cx] : Tok := p189 9
noncomputable def g5 [Cx] : Tok := p189 10
noncomputable def g6 [Cx] : Tok := p189 11
noncomputable def g7 [Cx] : Tok := p189 12
noncomputable def g8 [Cx] : Tok := p189 13
noncomputable def tA [Cx] : Tok := p189 14
noncomputable def tS [Cx] : Tok := p189 15
noncomputable def began [Cx] : Int := p229 4
noncomputable def ahead [Cx] : Int := p229 5
noncomputable def size [Cx] : Int := p229 6
noncomputable def tbb [Cx] : Tok := p189 16
noncomputable def tee [Cx] : Tok := p189 17
noncomputable def x [Cx] : Int := p229 7
noncomputable def tM2 [Cx] : Tok := p189 18
noncomputable def ta1 [Cx] : Tok := p189 19
noncomputable def ta2 [Cx] : Tok := p189 20
noncomputable def hh [Cx] : Addr := p99 9
noncomputable def hha [Cx] : Addr := p99 10
noncomputable def pvs [Cx] : List Value := p199 2
noncomputable def np_z [Cx] : Nat := p59 3
noncomputable def first [Cx] : Option Hd := p249 0
noncomputable def q1 [Cx] : Tok := p189 21
noncomputable def q2 [Cx] : Tok := p189 22
noncomputable def q3 [Cx] : Tok := p189 23
noncomputable def q4 [Cx] : Tok := p189 24
noncomputable def q5 [Cx] : Tok := p189 25
noncomputable def q6 [Cx] : Tok := p189 26
noncomputable def q7 [Cx] : Tok := p189 27
noncomputable def q8 [Cx] : Tok := p189 28
noncomputable def q9 [Cx] : Tok := p189 29
noncomputable def q10 [Cx] : Tok := p189 30
noncomputable def t9 [Cx] : Tok := p189 31
noncomputable def t10 [Cx] : Tok := p189 32
noncomputable def tp [Cx] : Tok := p189 33
noncomputable def s1 [Cx] : Value := p109 4
noncomputable def s2 [Cx] : Value := p109 5
noncomputable def s3 [Cx] : Value := p109 6
noncomputable def s4 [Cx] : Value := p109 7
noncomputable def s5 [Cx] : Value := p109 8
noncomputable def s6 [Cx] : Value := p109 9
noncomputable def s7 [Cx] : Value := p109 10
noncomputable def off [Cx] : Int := p229 8
noncomputable def parts [Cx] : List (Int × Byt) := p259 0
noncomputable def hdr [Cx] : Hd := p269 0
noncomputable def pb [Cx] : Byt := p279 0
noncomputable def fin [Cx] : Option Int := p289 0
noncomputable def r1 [Cx] : List (Addr × Obj) := p159 2
noncomputable def r1_2z [Cx] : Tok := p189 34
noncomputable def r2 [Cx] : List (Addr × Obj) := p159 3
noncomputable def r2_2z [Cx] : Tok := p189 35
noncomputable def rest0 [Cx] : List (Addr × Obj) := p159 4
noncomputable def e0 [Cx] : Addr := p99 11
noncomputable def e1 [Cx] : Addr := p99 12
noncomputable def ks [Cx] : List Int := p299 0
noncomputable def p9 [Cx] : Array Nat := p309 0
noncomputable def ev [Cx] : Value := p109 11
noncomputable def u0 [Cx] : Tok := p189 36
noncomputable def u1 [Cx] : Tok := p189 37
noncomputable def v0 [Cx] : Tok := p189 38
noncomputable def v1 [Cx] : Tok := p189 39
noncomputable def c0 [Cx] : Byt := p279 1
noncomputable def c1 [Cx] : Byt := p279 2
noncomputable def e2 [Cx] : Addr := p99 13
noncomputable def u2 [Cx] : Tok := p189 40
noncomputable def v2 [Cx] : Tok := p189 41
noncomputable def c2 [Cx] : Byt := p279 3
noncomputable def re [Cx] : Addr := p99 14
noncomputable def rd [Cx] : Addr := p99 15
noncomputable def wd [Cx] : Addr := p99 16
noncomputable def ka0 [Cx] : Addr := p99 17
noncomputable def d0 [Cx] : Addr := p99 18
noncomputable def da0 [Cx] : Addr := p99 19
noncomputable def wo [Cx] : Obj := p319 0
noncomputable def r3 [Cx] : Tok := p189 42
noncomputable def r3_2z [Cx] : List (Addr × Obj) := p159 5
noncomputable def r4 [Cx] : Tok := p189 43
noncomputable def tl1 [Cx] : Tok := p189 44
noncomputable def tl2 [Cx] : Tok := p189 45
noncomputable def tl3 [Cx] : Tok := p189 46
noncomputable def g01 [Cx] : Tok := p189 47
noncomputable def g02 [Cx] : Tok := p189 48
noncomputable def g03 [Cx] : Tok := p189 49
noncomputable def g04 [Cx] : Tok := p189 50
noncomputable def g05 [Cx] : Tok := p189 51
noncomputable def g06 [Cx] : Tok := p189 52
noncomputable def g07 [Cx] : Tok := p189 53
noncomputable def g08 [Cx] : Tok := p189 54
noncomputable def x01 [Cx] : Tok := p189 55
noncomputable def x02 [Cx] : Tok := p189 56
noncomputable def x03 [Cx] : Tok := p189 57
noncomputable def x04 [Cx] : Tok := p189 58
noncomputable def tz0 [Cx] : Tok := p189 59
noncomputable def lim [Cx] : Int := p229 9
noncomputable def a01 [Cx] : Int := p229 10
noncomputable def a02 [Cx] : Int := p229 11
noncomputable def a03 [Cx] : Int := p229 12
noncomputable def a04 [Cx] : Int := p229 13
noncomputable def z0 [Cx] : Int := p229 14
noncomputable def b01 [Cx] : Value := p109 12
noncomputable def b02 [Cx] : Value := p109 13
noncomputable def b03 [Cx] : Value := p109 14
noncomputable def b04 [Cx] : Value := p109 15
noncomputable def b05 [Cx] : Value := p109 16
noncomputable def b06 [Cx] : Value := p109 17
noncomputable def b07 [Cx] : Value := p109 18
noncomputable def ka1 [Cx] : Addr := p99 20
noncomputable def d1 [Cx] : Addr := p99 21
noncomputable def da1 [Cx] : Addr := p99 22
noncomputable def g11 [Cx] : Tok := p189 60
noncomputable def g12 [Cx] : Tok := p189 61
noncomputable def g13 [Cx] : Tok := p189 62
noncomputable def g14 [Cx] : Tok := p189 63
noncomputable def g15 [Cx] : Tok := p189 64
noncomputable def g16 [Cx] : Tok := p189 65
noncomputable def g17 [Cx] : Tok := p189 66
noncomputable def g18 [Cx] : Tok := p189 67
noncomputable def x11 [Cx] : Tok := p189 68
noncomputable def x12 [Cx] : Tok := p189 69
noncomputable def x13 [Cx] : Tok := p189 70
noncomputable def x14 [Cx] : Tok := p189 71
noncomputable def tz1 [Cx] : Tok := p189 72
noncomputable def a11 [Cx] : Int := p229 15
noncomputable def a12 [Cx] : Int := p229 16
noncomputable def a13 [Cx] : Int := p229 17
noncomputable def a14 [Cx] : Int := p229 18
noncomputable def z1 [Cx] : Int := p229 19
noncomputable def b11 [Cx] : Value := p109 19
noncomputable def b12 [Cx] : Value := p109 20
noncomputable def b13 [Cx] : Value := p109 21
noncomputable def b14 [Cx] : Value := p109 22
noncomputable def b15 [Cx] : Value := p109 23
noncomputable def b16 [Cx] : Value := p109 24
noncomputable def b17 [Cx] : Value := p109 25
noncomputable def y1 [Cx] : Tok := p189 73
noncomputable def y2 [Cx] : Tok := p189 74
noncomputable def y3 [Cx] : Tok := p189 75
noncomputable def y4 [Cx] : Tok := p189 76
noncomputable def tn [Cx] : Tok := p189 77
noncomputable def i1 [Cx] : Int := p229 20
noncomputable def i1_2z [Cx] : Nat := p59 4
noncomputable def i2 [Cx] : Int := p229 21
noncomputable def i2_2z [Cx] : Nat := p59 5
noncomputable def i3 [Cx] : Int := p229 22
noncomputable def i4 [Cx] : Int := p229 23
noncomputable def now [Cx] : Int := p229 24
noncomputable def gq [Cx] : Dg := p329 0
noncomputable def xs [Cx] : List (List Int × Addr × Value) := p339 0
noncomputable def zs [Cx] : List Int := p299 1
noncomputable def kd [Cx] : Addr := p99 23
noncomputable def val [Cx] : Byt := p279 4
noncomputable def zo [Cx] : Int := p229 25
noncomputable def v3 [Cx] : Tok := p189 78
noncomputable def v4 [Cx] : Tok := p189 79
noncomputable def lay [Cx] : Addr := p99 24
noncomputable def ld [Cx] : Addr := p99 25
noncomputable def f1 [Cx] : Tok := p189 80
noncomputable def f2 [Cx] : Tok := p189 81
noncomputable def f3 [Cx] : Tok := p189 82
noncomputable def f4 [Cx] : Tok := p189 83
noncomputable def f5 [Cx] : Tok := p189 84
noncomputable def fcv [Cx] : Value := p109 26
noncomputable def rtv [Cx] : Value := p109 27
noncomputable def fwv [Cx] : Value := p109 28
noncomputable def liv [Cx] : Value := p109 29
noncomputable def more [Cx] : Bool := p239 1
noncomputable def mu [Cx] : List (Addr × Obj) := p159 6
noncomputable def pre [Cx] : List (Addr × Obj) := p159 7
noncomputable def fz [Cx] : List (Addr × Obj) := p159 8
noncomputable def o [Cx] : Option (Hd × Byt) := p349 0
noncomputable def Post [Cx] : List (Addr × Obj) → Prop := p359 0
noncomputable def bs [Cx] : List (Addr × Obj) := p159 9
noncomputable def D [Cx] : Bool → Dat := p369 0
noncomputable def nn [Cx] : Nat := p59 6
noncomputable def l [Cx] : Addr := p99 26
noncomputable def y [Cx] : Int := p229 26
noncomputable def top [Cx] : Int := p229 27
noncomputable def tx [Cx] : Tok := p189 85
noncomputable def ty [Cx] : Tok := p189 86
noncomputable def tt [Cx] : Tok := p189 87
noncomputable def n [Cx] : Nat := p59 7
noncomputable def sl [Cx] : Addr := p99 27
noncomputable def tz [Cx] : Tok := p189 88
noncomputable def ns [Cx] : List Int := p299 2
noncomputable def tl [Cx] : Addr := p99 28
noncomputable def tl_2z [Cx] : List (Addr × Obj) := p159 10
noncomputable def t0 [Cx] : Tok := p189 89
noncomputable def t1 [Cx] : Tok := p189 90
noncomputable def t2 [Cx] : Tok := p189 91
noncomputable def n2 [Cx] : Nat := p59 8
noncomputable def num [Cx] : Int := p229 28
noncomputable def ob [Cx] : Byt := p279 5
noncomputable def cu [Cx] : Addr := p99 29
noncomputable def nc [Cx] : Nat := p59 9
noncomputable def many [Cx] : Nat := p59 10
noncomputable def cvs [Cx] : List Value := p199 3
noncomputable def sa [Cx] : Addr := p99 30
noncomputable def D0 [Cx] : Dat := p379 0
noncomputable def i0 [Cx] : Nat := p59 11
noncomputable def a0 [Cx] : Value := p109 30
noncomputable def a1 [Cx] : Value := p109 31
end Cx
theorem neHd : Nonempty Hd := ⟨⟨0, 0, 0, 0, 0, 0, false, false, 0⟩⟩
theorem neDat : Nonempty Dat := ⟨⟨0, 0, fun _ => #[], 0⟩⟩
theorem neDatF : Nonempty (Bool → Dat) := neDat.elim fun d => ⟨fun _ => d⟩
theorem neStt : Nonempty Stt := ⟨⟨default, default, default, [], [], none, none, none, none, []⟩⟩
theorem neDg : Nonempty Dg := ⟨Dg.new 0⟩
theorem neCx : Nonempty Cx := ⟨⟨Classical.choice (by repeat' (first | refine neP ?_ ?_ | exact neWorld | exact neAround | exact neShared | exact neHd | exact neDat | exact neDatF | exact neStt | exact neDg | infer_instance | refine neFun ?_))⟩⟩
noncomputable def zC : Cx := Classical.choice neCx
noncomputable def zC0 := zC.lts.1
noncomputable def zC1 := zC.lts.2.1
noncomputable def zC2 := zC.lts.2.2.1
noncomputable def zC3 := zC.lts.2.2.2.1
noncomputable def zC4 := zC.lts.2.2.2.2.1
noncomputable def zC5 := zC.lts.2.2.2.2.2.1
noncomputable def zC6 := zC.lts.2.2.2.2.2.2.1
noncomputable def zC7 := zC.lts.2.2.2.2.2.2.2.1
noncomputable def zC8 := zC.lts.2.2.2.2.2.2.2.2.1
noncomputable def zC9 := zC.lts.2.2.2.2.2.2.2.2.2.1
noncomputable def zC10 := zC.lts.2.2.2.2.2.2.2.2.2.2.1
noncomputable def zC11 := zC.lts.2.2.2.2.2.2.2.2.2.2.2.1
noncomputable def zC12 := zC.lts.2.2.2.2.2.2.2.2.2.2.2.2.1
noncomputable def zC13 := zC.lts.2.2.2.2.2.2.2.2.2.2.2.2.2.1
noncomputable def zC14 := zC.lts.2.2.2.2.2.2.2.2.2.2.2.2.2.2.1
noncomputable def zC15 := zC.lts.2.2.2.2.2.2.2.2.2.2.2.2.2.2.2.1
noncomputable def zC16 := zC.lts.2.2.2.2.2.2.2.2.2.2.2.2.2.2.2.2.1
noncomputable def zC17 := zC.lts.2.2.2.2.2.2.2.2.2.2.2.2.2.2.2.2.2.1
noncomputable def zC18 := zC.lts.2.2.2.2.2.2.2.2.2.2.2.2.2.2.2.2.2.2.1
noncomputable def zC19 := zC.lts.2.2.2.2.2.2.2.2.2.2.2.2.2.2.2.2.2.2.2.1
noncomputable def zC20 := zC.lts.2.2.2.2.2.2.2.2.2.2.2.2.2.2.2.2.2.2.2.2.1
noncomputable def zC21 := zC.lts.2.2.2.2.2.2.2.2.2.2.2.2.2.2.2.2.2.2.2.2.2.1
noncomputable def zC22 := zC.lts.2.2.2.2.2.2.2.2.2.2.2.2.2.2.2.2.2.2.2.2.2.2.1
noncomputable def zC23 := zC.lts.2.2.2.2.2.2.2.2.2.2.2.2.2.2.2.2.2.2.2.2.2.2.2.1
noncomputable def zC24 := zC.lts.2.2.2.2.2.2.2.2.2.2.2.2.2.2.2.2.2.2.2.2.2.2.2.2.1
noncomputable def zC25 := zC.lts.2.2.2.2.2.2.2.2.2.2.2.2.2.2.2.2.2.2.2.2.2.2.2.2.2.1
noncomputable def zC26 := zC.lts.2.2.2.2.2.2.2.2.2.2.2.2.2.2.2.2.2.2.2.2.2.2.2.2.2.2.1
noncomputable def zC27 := zC.lts.2.2.2.2.2.2.2.2.2.2.2.2.2.2.2.2.2.2.2.2.2.2.2.2.2.2.2.1
noncomputable def zC28 := zC.lts.2.2.2.2.2.2.2.2.2.2.2.2.2.2.2.2.2.2.2.2.2.2.2.2.2.2.2.2.1
noncomputable def zC29 := zC.lts.2.2.2.2.2.2.2.2.2.2.2.2.2.2.2.2.2.2.2.2.2.2.2.2.2.2.2.2.2.1
noncomputable def zC30 := zC.lts.2.2.2.2.2.2.2.2.2.2.2.2.2.2.2.2.2.2.2.2.2.2.2.2.2.2.2.2.2.2.1
noncomputable def zC31 := zC.lts.2.2.2.2.2.2.2.2.2.2.2.2.2.2.2.2.2.2.2.2.2.2.2.2.2.2.2.2.2.2.2.1
noncomputable def zC32 := zC.lts.2.2.2.2.2.2.2.2.2.2.2.2.2.2.2.2.2.2.2.2.2.2.2.2.2.2.2.2.2.2.2.2.1
noncomputable def zC33 := zC.lts.2.2.2.2.2.2.2.2.2.2.2.2.2.2.2.2.2.2.2.2.2.2.2.2.2.2.2.2.2.2.2.2.2.1
noncomputable def zC34 := zC.lts.2.2.2.2.2.2.2.2.2.2.2.2.2.2.2.2.2.2.2.2.2.2.2.2.2.2.2.2.2.2.2.2.2.2.1
noncomputable def zC35 := zC.lts.2.2.2.2.2.2.2.2.2.2.2.2.2.2.2.2.2.2.2.2.2.2.2.2.2.2.2.2.2.2.2.2.2.2.2.1
noncomputable def zC36 := zC.lts.2.2.2.2.2.2.2.2.2.2.2.2.2.2.2.2.2.2.2.2.2.2.2.2.2.2.2.2.2.2.2.2.2.2.2.2.1
noncomputable def zC37 := zC.lts.2.2.2.2.2.2.2.2.2.2.2.2.2.2.2.2.2.2.2.2.2.2.2.2.2.2.2.2.2.2.2.2.2.2.2.2.2
noncomputable def zCt1 := zC.lts.2
noncomputable def zCt2 := zC.lts.2.2
noncomputable def zCt3 := zC.lts.2.2.2
noncomputable def zCt4 := zC.lts.2.2.2.2
noncomputable def zCt5 := zC.lts.2.2.2.2.2
noncomputable def zCt6 := zC.lts.2.2.2.2.2.2
noncomputable def zCt7 := zC.lts.2.2.2.2.2.2.2
noncomputable def zCt8 := zC.lts.2.2.2.2.2.2.2.2
noncomputable def zCt9 := zC.lts.2.2.2.2.2.2.2.2.2
noncomputable def zCt10 := zC.lts.2.2.2.2.2.2.2.2.2.2
noncomputable def zCt11 := zC.lts.2.2.2.2.2.2.2.2.2.2.2
noncomputable def zCt12 := zC.lts.2.2.2.2.2.2.2.2.2.2.2.2
noncomputable def zCt13 := zC.lts.2.2.2.2.2.2.2.2.2.2.2.2.2
noncomputable def zCt14 := zC.lts.2.2.2.2.2.2.2.2.2.2.2.2.2.2
noncomputable def zCt15 := zC.lts.2.2.2.2.2.2.2.2.2.2.2.2.2.2.2
noncomputable def zCt16 := zC.lts.2.2.2.2.2.2.2.2.2.2.2.2.2.2.2.2
noncomputable def zCt17 := zC.lts.2.2.2.2.2.2.2.2.2.2.2.2.2.2.2.2.2
noncomputable def zCt18 := zC.lts.2.2.2.2.2.2.2.2.2.2.2.2.2.2.2.2.2.2
noncomputable def zCt19 := zC.lts.2.2.2.2.2.2.2.2.2.2.2.2.2.2.2.2.2.2.2
noncomputable def zCt20 := zC.lts.2.2.2.2.2.2.2.2.2.2.2.2.2.2.2.2.2.2.2.2
noncomputable def zCt21 := zC.lts.2.2.2.2.2.2.2.2.2.2.2.2.2.2.2.2.2.2.2.2.2
noncomputable def zCt22 := zC.lts.2.2.2.2.2.2.2.2.2.2.2.2.2.2.2.2.2.2.2.2.2.2
noncomputable def zCt23 := zC.lts.2.2.2.2.2.2.2.2.2.2.2.2.2.2.2.2.2.2.2.2.2.2.2
noncomputable def zCt24 := zC.lts.2.2.2.2.2.2.2.2.2.2.2.2.2.2.2.2.2.2.2.2.2.2.2.2
noncomputable def zCt25 := zC.lts.2.2.2.2.2.2.2.2.2.2.2.2.2.2.2.2.2.2.2.2.2.2.2.2.2
noncomputable def zCt26 := zC.lts.2.2.2.2.2.2.2.2.2.2.2.2.2.2.2.2.2.2.2.2.2.2.2.2.2.2
noncomputable def zCt27 := zC.lts.2.2.2.2.2.2.2.2.2.2.2.2.2.2.2.2.2.2.2.2.2.2.2.2.2.2.2
noncomputable def zCt28 := zC.lts.2.2.2.2.2.2.2.2.2.2.2.2.2.2.2.2.2.2.2.2.2.2.2.2.2.2.2.2
noncomputable def zCt29 := zC.lts.2.2.2.2.2.2.2.2.2.2.2.2.2.2.2.2.2.2.2.2.2.2.2.2.2.2.2.2.2
noncomputable def zCt30 := zC.lts.2.2.2.2.2.2.2.2.2.2.2.2.2.2.2.2.2.2.2.2.2.2.2.2.2.2.2.2.2.2
noncomputable def zCt31 := zC.lts.2.2.2.2.2.2.2.2.2.2.2.2.2.2.2.2.2.2.2.2.2.2.2.2.2.2.2.2.2.2.2
noncomputable def zCt32 := zC.lts.2.2.2.2.2.2.2.2.2.2.2.2.2.2.2.2.2.2.2.2.2.2.2.2.2.2.2.2.2.2.2.2
noncomputable def zCt33 := zC.lts.2.2.2.2.2.2.2.2.2.2.2.2.2.2.2.2.2.2.2.2.2.2.2.2.2.2.2.2.2.2.2.2.2
noncomputable def zCt34 := zC.lts.2.2.2.2.2.2.2.2.2.2.2.2.2.2.2.2.2.2.2.2.2.2.2.2.2.2.2.2.2.2.2.2.2.2
noncomputable def zCt35 := zC.lts.2.2.2.2.2.2.2.2.2.2.2.2.2.2.2.2.2.2.2.2.2.2.2.2.2.2.2.2.2.2.2.2.2.2.2
noncomputable def zCt36 := zC.lts.2.2.2.2.2.2.2.2.2.2.2.2.2.2.2.2.2.2.2.2.2.2.2.2.2.2.2.2.2.2.2.2.2.2.2.2
class Rx where
  lts : (Nat → Heap) × (Nat → Addr) × (Nat → Nat) × (Nat → Obj) × (Nat → Bool) × (Nat → Tok) × (Nat → Str → Option Value) × (Nat → Stt) × (Nat → Led) × (Nat → Option Value) × (Nat → Flow → Shared → Prop) × (Nat → List (Int × Value)) × (Nat → Hd) × (Nat → Byt) × (Nat → Int) × (Nat → List Value) × (Nat → List Row) × (Nat → Bool → Dat)
namespace Rx
noncomputable def p09 [c : Rx] : Nat → Heap := c.lts.1
noncomputable def p19 [c : Rx] : Nat → Addr := c.lts.2.1
noncomputable def p29 [c : Rx] : Nat → Nat := c.lts.2.2.1
noncomputable def p39 [c : Rx] : Nat → Obj := c.lts.2.2.2.1
noncomputable def p49 [c : Rx] : Nat → Bool := c.lts.2.2.2.2.1
noncomputable def p59 [c : Rx] : Nat → Tok := c.lts.2.2.2.2.2.1
noncomputable def p69 [c : Rx] : Nat → Str → Option Value := c.lts.2.2.2.2.2.2.1
noncomputable def p79 [c : Rx] : Nat → Stt := c.lts.2.2.2.2.2.2.2.1
noncomputable def p89 [c : Rx] : Nat → Led := c.lts.2.2.2.2.2.2.2.2.1
noncomputable def p99 [c : Rx] : Nat → Option Value := c.lts.2.2.2.2.2.2.2.2.2.1
noncomputable def p109 [c : Rx] : Nat → Flow → Shared → Prop := c.lts.2.2.2.2.2.2.2.2.2.2.1
noncomputable def p119 [c : Rx] : Nat → List (Int × Value) := c.lts.2.2.2.2.2.2.2.2.2.2.2.1
noncomputable def p129 [c : Rx] : Nat → Hd := c.lts.2.2.2.2.2.2.2.2.2.2.2.2.1
noncomputable def p139 [c : Rx] : Nat → Byt := c.lts.2.2.2.2.2.2.2.2.2.2.2.2.2.1
noncomputable def p149 [c : Rx] : Nat → Int := c.lts.2.2.2.2.2.2.2.2.2.2.2.2.2.2.1
noncomputable def p159 [c : Rx] : Nat → List Value := c.lts.2.2.2.2.2.2.2.2.2.2.2.2.2.2.2.1
noncomputable def p169 [c : Rx] : Nat → List Row := c.lts.2.2.2.2.2.2.2.2.2.2.2.2.2.2.2.2.1
noncomputable def p179 [c : Rx] : Nat → Bool → Dat := c.lts.2.2.2.2.2.2.2.2.2.2.2.2.2.2.2.2.2
noncomputable def rr_g1_0 [Rx] : Heap := p09 0
noncomputable def rr_L1_0 [Rx] : Addr := p19 0
noncomputable def rr_h1_0 [Rx] : Heap := p09 1
noncomputable def rr_h1_1 [Rx] : Addr := p19 1
noncomputable def rr_tk1_0 [Rx] : Nat := p29 0
noncomputable def rr_oc1_0 [Rx] : Obj := p39 0
noncomputable def rr_d1_0 [Rx] : Addr := p19 2
noncomputable def rr_h2_0 [Rx] : Heap := p09 2
noncomputable def rr_h2_1 [Rx] : Addr := p19 3
noncomputable def rr_o2_0 [Rx] : Obj := p39 1
noncomputable def rr_h3_0 [Rx] : Heap := p09 3
noncomputable def rr_tk3_0 [Rx] : Nat := p29 1
noncomputable def rr_k_0 [Rx] : Nat := p29 2
noncomputable def rr_c_0 [Rx] : Bool := p49 0
noncomputable def rr_i_0 [Rx] : Nat := p29 3
noncomputable def rr_ta_0 [Rx] : Bool := p49 1
noncomputable def rr_t_0 [Rx] : Addr := p19 4
noncomputable def rr_hh_0 [Rx] : Addr := p19 5
noncomputable def rr_hha_0 [Rx] : Addr := p19 6
noncomputable def rr_q1_0 [Rx] : Tok := p59 0
noncomputable def rr_q2_0 [Rx] : Tok := p59 1
noncomputable def rr_q3_0 [Rx] : Tok := p59 2
noncomputable def rr_q4_0 [Rx] : Tok := p59 3
noncomputable def rr_q5_0 [Rx] : Tok := p59 4
noncomputable def rr_q6_0 [Rx] : Tok := p59 5
noncomputable def rr_q7_0 [Rx] : Tok := p59 6
noncomputable def rr_q8_0 [Rx] : Tok := p59 7
noncomputable def rr_q9_0 [Rx] : Tok := p59 8
noncomputable def rr_q10_0 [Rx] : Tok := p59 9
noncomputable def rr_t1_0 [Rx] : Tok := p59 10
noncomputable def rr_t1_1 [Rx] : Addr := p19 7
noncomputable def rr_t2_0 [Rx] : Tok := p59 11
noncomputable def rr_t2_1 [Rx] : Addr := p19 8
noncomputable def rr_t3_0 [Rx] : Tok := p59 12
noncomputable def rr_t4_0 [Rx] : Tok := p59 13
noncomputable def rr_t5_0 [Rx] : Tok := p59 14
noncomputable def rr_t6_0 [Rx] : Tok := p59 15
noncomputable def rr_t9_0 [Rx] : Tok := p59 16
noncomputable def rr_t10_0 [Rx] : Tok := p59 17
noncomputable def rr_tn_0 [Rx] : Tok := p59 18
noncomputable def rr_tb_0 [Rx] : Tok := p59 19
noncomputable def rr_u_0 [Rx] : Str → Option Value := p69 0
noncomputable def rr_S_0 [Rx] : Stt := p79 0
noncomputable def rr_own_0 [Rx] : Led := p89 0
noncomputable def rr_h_0 [Rx] : Heap := p09 4
noncomputable def rr_tk_0 [Rx] : Nat := p29 4
noncomputable def rr_cv_0 [Rx] : Option Value := p99 0
noncomputable def rr_Z_0 [Rx] : Flow → Shared → Prop := p109 0
noncomputable def rr_la_0 [Rx] : Addr := p19 9
noncomputable def rr_lo_0 [Rx] : Obj := p39 2
noncomputable def rr_kvs_0 [Rx] : List (Int × Value) := p119 0
noncomputable def rr_kv_0 [Rx] : List (Int × Value) := p119 1
noncomputable def rr_tl_0 [Rx] : Addr := p19 10
noncomputable def rr_oc_0 [Rx] : Obj := p39 3
noncomputable def rr_nl_0 [Rx] : Nat := p29 5
noncomputable def rr_mz_0 [Rx] : Str → Option Value := p69 1
noncomputable def rr_need_0 [Rx] : Led := p89 1
noncomputable def rr_H0_0 [Rx] : Hd := p129 0
noncomputable def rr_b0_0 [Rx] : Byt := p139 0
noncomputable def rr_t0_0 [Rx] : Addr := p19 11
noncomputable def rr_h0_0 [Rx] : Addr := p19 12
noncomputable def rr_c0_0 [Rx] : Tok := p59 20
noncomputable def rr_a0_0 [Rx] : Addr := p19 13
noncomputable def rr_e01_0 [Rx] : Tok := p59 21
noncomputable def rr_e02_0 [Rx] : Tok := p59 22
noncomputable def rr_e03_0 [Rx] : Tok := p59 23
noncomputable def rr_e04_0 [Rx] : Tok := p59 24
noncomputable def rr_e05_0 [Rx] : Tok := p59 25
noncomputable def rr_e06_0 [Rx] : Tok := p59 26
noncomputable def rr_e07_0 [Rx] : Tok := p59 27
noncomputable def rr_e08_0 [Rx] : Tok := p59 28
noncomputable def rr_e09_0 [Rx] : Tok := p59 29
noncomputable def rr_e010_0 [Rx] : Tok := p59 30
noncomputable def rr_f01_0 [Rx] : Tok := p59 31
noncomputable def rr_f02_0 [Rx] : Tok := p59 32
noncomputable def rr_f03_0 [Rx] : Tok := p59 33
noncomputable def rr_f04_0 [Rx] : Tok := p59 34
noncomputable def rr_f05_0 [Rx] : Tok := p59 35
noncomputable def rr_f06_0 [Rx] : Tok := p59 36
noncomputable def rr_f09_0 [Rx] : Tok := p59 37
noncomputable def rr_f00_0 [Rx] : Tok := p59 38
noncomputable def rr_H1_0 [Rx] : Hd := p129 1
noncomputable def rr_b1_0 [Rx] : Byt := p139 1
noncomputable def rr_c1_0 [Rx] : Tok := p59 39
noncomputable def rr_a1_0 [Rx] : Addr := p19 14
noncomputable def rr_e11_0 [Rx] : Tok := p59 40
noncomputable def rr_e12_0 [Rx] : Tok := p59 41
noncomputable def rr_e13_0 [Rx] : Tok := p59 42
noncomputable def rr_e14_0 [Rx] : Tok := p59 43
noncomputable def rr_e15_0 [Rx] : Tok := p59 44
noncomputable def rr_e16_0 [Rx] : Tok := p59 45
noncomputable def rr_e17_0 [Rx] : Tok := p59 46
noncomputable def rr_e18_0 [Rx] : Tok := p59 47
noncomputable def rr_e19_0 [Rx] : Tok := p59 48
noncomputable def rr_e110_0 [Rx] : Tok := p59 49
noncomputable def rr_f11_0 [Rx] : Tok := p59 50
noncomputable def rr_f12_0 [Rx] : Tok := p59 51
noncomputable def rr_f13_0 [Rx] : Tok := p59 52
noncomputable def rr_f14_0 [Rx] : Tok := p59 53
noncomputable def rr_f15_0 [Rx] : Tok := p59 54
noncomputable def rr_f16_0 [Rx] : Tok := p59 55
noncomputable def rr_f19_0 [Rx] : Tok := p59 56
noncomputable def rr_f10_0 [Rx] : Tok := p59 57
noncomputable def rr_tu_0 [Rx] : Addr := p19 15
noncomputable def rr_tr_0 [Rx] : Addr := p19 16
noncomputable def rr_w1_0 [Rx] : Tok := p59 58
noncomputable def rr_w2_0 [Rx] : Tok := p59 59
noncomputable def rr_v1_0 [Rx] : Tok := p59 60
noncomputable def rr_v2_0 [Rx] : Tok := p59 61
noncomputable def rr_v3_0 [Rx] : Tok := p59 62
noncomputable def rr_v4_0 [Rx] : Tok := p59 63
noncomputable def rr_v5_0 [Rx] : Tok := p59 64
noncomputable def rr_v6_0 [Rx] : Tok := p59 65
noncomputable def rr_v9_0 [Rx] : Tok := p59 66
noncomputable def rr_v10_0 [Rx] : Tok := p59 67
noncomputable def rr_H2_0 [Rx] : Hd := p129 2
noncomputable def rr_b2_0 [Rx] : Byt := p139 2
noncomputable def rr_c2_0 [Rx] : Tok := p59 68
noncomputable def rr_a2_0 [Rx] : Addr := p19 17
noncomputable def rr_e21_0 [Rx] : Tok := p59 69
noncomputable def rr_e22_0 [Rx] : Tok := p59 70
noncomputable def rr_e23_0 [Rx] : Tok := p59 71
noncomputable def rr_e24_0 [Rx] : Tok := p59 72
noncomputable def rr_e25_0 [Rx] : Tok := p59 73
noncomputable def rr_e26_0 [Rx] : Tok := p59 74
noncomputable def rr_e27_0 [Rx] : Tok := p59 75
noncomputable def rr_e28_0 [Rx] : Tok := p59 76
noncomputable def rr_e29_0 [Rx] : Tok := p59 77
noncomputable def rr_e210_0 [Rx] : Tok := p59 78
noncomputable def rr_f21_0 [Rx] : Tok := p59 79
noncomputable def rr_f22_0 [Rx] : Tok := p59 80
noncomputable def rr_f23_0 [Rx] : Tok := p59 81
noncomputable def rr_f24_0 [Rx] : Tok := p59 82
noncomputable def rr_f25_0 [Rx] : Tok := p59 83
noncomputable def rr_f26_0 [Rx] : Tok := p59 84
noncomputable def rr_f29_0 [Rx] : Tok := p59 85
noncomputable def rr_f20_0 [Rx] : Tok := p59 86
noncomputable def rr_wL_0 [Rx] : Addr := p19 18
noncomputable def rr_wl_0 [Rx] : Addr := p19 19
noncomputable def rr_wr_0 [Rx] : Addr := p19 20
noncomputable def rr_wrl9_0 [Rx] : Addr := p19 21
noncomputable def rr_wrh9_0 [Rx] : Heap := p09 5
noncomputable def rr_wtk9_0 [Rx] : Nat := p29 6
noncomputable def rr_wrx9_0 [Rx] : Heap := p09 6
noncomputable def rr_wrx8_0 [Rx] : Nat := p29 7
noncomputable def rr_wi_0 [Rx] : Nat := p29 8
noncomputable def rr_wt_0 [Rx] : Tok := p59 87
noncomputable def rr_wm2_0 [Rx] : Str → Option Value := p69 2
noncomputable def rr_wx2_0 [Rx] : Int := p149 0
noncomputable def rr_wy2_0 [Rx] : Int := p149 1
noncomputable def rr_wtx2_0 [Rx] : Tok := p59 88
noncomputable def rr_wty2_0 [Rx] : Tok := p59 89
noncomputable def rr_wn2_0 [Rx] : Nat := p29 9
noncomputable def rr_wnr_0 [Rx] : Nat := p29 10
noncomputable def rr_woc_0 [Rx] : Obj := p39 4
noncomputable def rr_wrl_0 [Rx] : Addr := p19 22
noncomputable def rr_wrv_0 [Rx] : List Value := p159 0
noncomputable def rr_wrs_0 [Rx] : List Row := p169 0
noncomputable def rr_wD2_0 [Rx] : Bool → Dat := p179 0
noncomputable def rr_wfz_0 [Rx] : Led := p89 2
noncomputable def rr_wh9_0 [Rx] : Heap := p09 7
noncomputable def rr_wtk9q_0 [Rx] : Nat := p29 11
noncomputable def rr_wown_0 [Rx] : Led := p89 3
noncomputable def rr_wk_0 [Rx] : Nat := p29 12
end Rx
theorem neRx : Nonempty Rx := ⟨⟨Classical.choice (by repeat' (first | refine neP ?_ ?_ | exact neWorld | exact neAround | exact neShared | exact neHd | exact neDat | exact neDatF | exact neStt | exact neDg | infer_instance | refine neFun ?_))⟩⟩
noncomputable def zR : Rx := Classical.choice neRx
noncomputable def zR0 := zR.lts.1
noncomputable def zR1 := zR.lts.2.1
noncomputable def zR2 := zR.lts.2.2.1
noncomputable def zR3 := zR.lts.2.2.2.1
noncomputable def zR4 := zR.lts.2.2.2.2.1
noncomputable def zR5 := zR.lts.2.2.2.2.2.1
noncomputable def zR6 := zR.lts.2.2.2.2.2.2.1
noncomputable def zR7 := zR.lts.2.2.2.2.2.2.2.1
noncomputable def zR8 := zR.lts.2.2.2.2.2.2.2.2.1
noncomputable def zR9 := zR.lts.2.2.2.2.2.2.2.2.2.1
noncomputable def zR10 := zR.lts.2.2.2.2.2.2.2.2.2.2.1
noncomputable def zR11 := zR.lts.2.2.2.2.2.2.2.2.2.2.2.1
noncomputable def zR12 := zR.lts.2.2.2.2.2.2.2.2.2.2.2.2.1
noncomputable def zR13 := zR.lts.2.2.2.2.2.2.2.2.2.2.2.2.2.1
noncomputable def zR14 := zR.lts.2.2.2.2.2.2.2.2.2.2.2.2.2.2.1
noncomputable def zR15 := zR.lts.2.2.2.2.2.2.2.2.2.2.2.2.2.2.2.1
noncomputable def zR16 := zR.lts.2.2.2.2.2.2.2.2.2.2.2.2.2.2.2.2.1
noncomputable def zR17 := zR.lts.2.2.2.2.2.2.2.2.2.2.2.2.2.2.2.2.2
noncomputable def zRt1 := zR.lts.2
noncomputable def zRt2 := zR.lts.2.2
noncomputable def zRt3 := zR.lts.2.2.2
noncomputable def zRt4 := zR.lts.2.2.2.2
noncomputable def zRt5 := zR.lts.2.2.2.2.2
noncomputable def zRt6 := zR.lts.2.2.2.2.2.2
noncomputable def zRt7 := zR.lts.2.2.2.2.2.2.2
noncomputable def zRt8 := zR.lts.2.2.2.2.2.2.2.2
noncomputable def zRt9 := zR.lts.2.2.2.2.2.2.2.2.2
noncomputable def zRt10 := zR.lts.2.2.2.2.2.2.2.2.2.2
noncomputable def zRt11 := zR.lts.2.2.2.2.2.2.2.2.2.2.2
noncomputable def zRt12 := zR.lts.2.2.2.2.2.2.2.2.2.2.2.2
noncomputable def zRt13 := zR.lts.2.2.2.2.2.2.2.2.2.2.2.2.2
noncomputable def zRt14 := zR.lts.2.2.2.2.2.2.2.2.2.2.2.2.2.2
noncomputable def zRt15 := zR.lts.2.2.2.2.2.2.2.2.2.2.2.2.2.2.2
noncomputable def zRt16 := zR.lts.2.2.2.2.2.2.2.2.2.2.2.2.2.2.2.2
local macro_rules | `(tactic| omega) => `(tactic| k_extra "my:om")
local macro_rules | `(tactic| k_ne) => `(tactic| k_extra "my:ne")
local macro_rules | `(tactic| k_lt $h:ident) => `(tactic| (replace $h := allLt_of $h; dsimp only [AllLt] at $h:ident))
local macro_rules | `(tactic| k_in) => `(tactic| (with_reducible first | assumption | exact Frag.In.keeps (by assumption) (Fr.keep (by assumption))))
local macro_rules | `(tactic| k_room) => `(tactic| ((try simp only [depth_under_make, depth_under_kw, depth_in1, depth_deeper, depth_caller]); (try dsimp only [ktrTop]); (try unfold recursionLimit); omega))
local macro_rules | `(tactic| k_all) => `(tactic| first | assumption | exact Mine.allLt_ne (by assumption) | exact Mine.gt_ne (by assumption) (by omega) | (refine List.forall_mem_append.mpr ⟨?aa, ?bb⟩; (case aa => k_all); (case bb => k_all)))
local macro_rules | `(tactic| k_upd) => `(tactic| (refine' Mine.updApp ?a ?b; (case a => k_all); (case b => k_upd)))
local macro_rules | `(tactic| k_handed) => `(tactic| assumption)
local macro_rules | `(tactic| k_updF) => `(tactic| (refine' Mine.updFApp ?a ?b; (case a => k_all); (case b => k_updF)))
local macro_rules | `(tactic| walk_at $s:str) => `(tactic| k_extra $(Lean.Syntax.mkStrLit ("my:" ++ s.getString)))
local macro_rules
  | `(tactic| row_timed $_:str ($t:tacticSeq)) => do
    let t' ← t.raw.replaceM fun x => do
      if x.isOfKind ``Lean.Parser.Term.syntheticHole || x.isOfKind ``Lean.Parser.Tactic.caseArg then
        some <$> x.replaceM fun y => do
          match y with
          | .ident i r n q => return some (.ident i r (← Lean.Macro.addMacroScope n) q)
          | _ => return none
      else return none
    `(tactic| ($(⟨t'⟩):tacticSeq))
local macro_rules | `(tactic| k_gentoks) => `(tactic| ((with_reducible refine Mine.gentoks ?_); (refine Mine.eps1 ?ne ?_; (case ne => exact inferInstance); intros tk; clear_value tk)))
local macro_rules | `(tactic| ktu_obj) => `(tactic| (refine AllObj.cons ?_; intro o' hc'; (try dsimp only at hc')))
local macro_rules
  | `(tactic| intro $x:term $xs:term*) => do
    let q := Char.ofNat 39
    let isD (t : Lean.Term) : Bool :=
      if t.raw.isIdent then
        let c := t.raw.getId.eraseMacroScopes.toString.toList
        t.raw.getId.eraseMacroScopes == `tk || c.getLast? == some q && (c == ['L', q] || c == ['D', q] || c == ['Z', q] || c == ['S', q] || c == ['I', q] || c == ['C', q] || c == ['E', q] || (match c with | 'h' :: 'h' :: _ => true | ['h', d, _] => d.isDigit | ['H', d, _] => d.isDigit | 'h' :: _ :: _ :: _ => false | a :: _ => a.isLower | [] => false))
      else false
    let l := #[x] ++ xs
    let isH (t : Lean.Term) : Bool := t.raw.isOfKind ``Lean.Parser.Term.hole
    unless (l.any isD || isH l[0]!) && l.all (fun t => t.raw.isIdent || isH t) do Lean.Macro.throwUnsupported
    if isH l[0]! then
      let rest := l.extract 1 l.size
      let one ← `(tactic| first | (first | refine Mine.eps1 (α0 := Heap) ?ne ?_ | refine Mine.eps1 (α0 := Nat) ?ne ?_); (case ne => exact inferInstance); intros x; clear_value x | intros _)
      if rest.size == 0 then return one
      return (← `(tactic| ($one; intro $rest*)))
    let ps := l.takeWhile (fun t => !isD t && !isH t)
    if ps.size > 0 then
      let rest := l.extract ps.size l.size
      let ids : Lean.TSyntaxArray [`ident, ``Lean.Parser.Term.hole] := ps.map fun t => ⟨t.raw⟩
      `(tactic| (intros $ids*; intro $rest*))
    else
      let ds := (l.takeWhile isD).extract 0 10
      let rest := l.extract ds.size l.size
      let ids : Lean.TSyntaxArray [`ident, ``Lean.Parser.Term.hole] := ds.map fun t => ⟨t.raw⟩
      let e : Lean.Ident := Lean.mkIdent (Lean.Name.mkStr `Mine s!"eps{ds.size}")
      let ts ← ds.mapM fun t => `(Lean.Parser.Tactic.clearValueArg| $t:term)
      let mut sq : Array (Lean.TSyntax `tactic) := #[]
      for t in ds do
        let y : Lean.Ident := ⟨t.raw⟩
        sq := sq.push (← `(tactic| first | (refine Mine.eps1 ?ne ?_; (case ne => repeat (first | exact inferInstance | exact Mine.neWorld | exact Mine.neAround | exact Mine.neShared | exact Mine.neHd | exact Mine.neDat | exact Mine.neStt | refine Mine.neP ?_ ?_)); intros $y:ident; clear_value $y:ident) | intros $y:ident))
      let one ← `(tactic| first | (refine $e:ident ?ne ?_; (case ne => repeat (first | exact inferInstance | exact Mine.neWorld | exact Mine.neAround | exact Mine.neShared | exact Mine.neHd | exact Mine.neDat | exact Mine.neStt | refine Mine.neP ?_ ?_)); intros $ids*; clear_value $ts*) | ($[$sq];*))
      if rest.size == 0 then return one
      `(tactic| ($one; intro $rest*))
local macro_rules | `(tactic| k_fold) => `(tactic| k_extra "nofold")
theorem rows_base : True := by
  k_with "my:kd" => row_timed "f" (first | ((try dsimp only [depth_under_make, depth_under_kw, depth_in1, depth_deeper, depth_caller, units_deeper, units_in1, units_under_make, ktrTop, cLine, recursionLimit]); with_reducible first | exact Mine.lt_add (by assumption) rfl | exact Mine.lt_add2 (by assumption) rfl | exact Mine.lt_add0 (by assumption) rfl) | (first | decide | ((try simp only [depth_under_make, depth_under_kw, depth_in1, depth_deeper, depth_caller]); (try dsimp only [ktrTop]); omega)) | (first | omega | ((try simp only [units_deeper, units_in1, units_under_make]); (try dsimp only [ktrTop]); omega)) | (first | omega | ((try simp only [units_deeper, units_in1, units_under_make]); (try dsimp only [ktrTop]); (try unfold cLine); omega)))
  k_with "my:ne" => row_timed "f" (first | exact Mine.Apt.ne (by assumption) | exact Mine.Apt.ne' (by assumption) | (refine Mine.ltNe ?_; focus k_extra "my:pk") | (refine Mine.gtNe ?_; focus k_extra "my:pk") | (focus k_extra "my:pn") | (refine Ne.symm ?_; focus k_extra "my:pn"))
  k_with "my:pk" => row_timed "f" ((try dsimp only); first | (with_reducible assumption) | ((refine Mine.pk0 (by with_reducible assumption) ?_); (repeat (first | with_reducible exact And.left | with_reducible refine Mine.pkS ?_)); done) | ((with_reducible refine Mine.lt_tr (by assumption) ?_); first | (with_reducible assumption) | ((refine Mine.pk0 (by with_reducible assumption) ?_); (repeat (first | with_reducible exact And.left | with_reducible refine Mine.pkS ?_)); done)))
  k_with "my:pn" => row_timed "f" ((refine Mine.pn0 (by with_reducible assumption) ?_); (repeat (first | with_reducible exact And.left | with_reducible refine Mine.pkS ?_)); done)
  k_with "my:om" => row_timed "f" (first | with_reducible assumption | decide | with_reducible exact Mine.lt_add (by assumption) rfl | with_reducible exact Mine.lt_add2 (by assumption) rfl | with_reducible exact Mine.lt_add0 (by assumption) rfl | (focus k_extra "my:pk") | (with_reducible refine Nat.le_of_lt ?_; focus k_extra "my:pk") | (refine Mine.ltNe ?_; focus k_extra "my:pk") | (refine Mine.gtNe ?_; focus k_extra "my:pk") | (focus k_extra "my:pn") | (refine Ne.symm ?_; focus k_extra "my:pn") | exact Mine.ob_lo (by with_reducible assumption) (by with_reducible assumption) (by with_reducible assumption) (by decide) | exact Mine.ob_hi (by with_reducible assumption) (by with_reducible assumption) (by with_reducible assumption) (by with_reducible assumption) (by decide))
  k_with "my:enter" => ((case kA => exact rfl); (case kF => exact rfl); (case kK => exact hk); (case k1 => k_asm); (case k2 => k_asm); (case k3 => k_asm); (case k4 => k_asm); (case k5 => k_asm); (case k6 => k_is); (case k7 => k_is); (case k8 => (first | (show dp < recursionLimit; unfold recursionLimit; omega) | (show dp + _ < recursionLimit; unfold recursionLimit; omega))); (case k9 => first | exact BindsTo.of_eq rfl | exact binds_K (by k_in) rfl (by k_is) rfl rfl rfl); (case c5 => decide); (case kB => exact locs rfl); (case c2 => exact rfl); (case c3 => exact rfl); (case c4 => exact rfl))
  k_with "my:enterC" => ((case kA => exact rfl); (case kF => exact rfl); (case kK => exact hk); (case k1 => k_asm); (case k2 => k_asm); (case k3 => k_asm); (case k4 => k_asm); (case k5 => k_asm); (case k6 => k_is); (case k7 => k_is); (case k8 => (first | (show dp < recursionLimit; unfold recursionLimit; omega) | (show dp + _ < recursionLimit; unfold recursionLimit; omega))); (case k9 => first | exact BindsTo.of_eq rfl | exact binds_K (by k_in) rfl (by k_is) rfl rfl rfl); (case kB => exact rfl); (case kD => decide +kernel); (case c2 => exact rfl); (case c3 => exact rfl); (case c4 => exact rfl))
  k_with "my:laany" => (first | with_reducible assumption | exact Mine.la_1 (by with_reducible assumption) | exact Mine.la_2 (by with_reducible assumption) | exact Mine.la_3 (by with_reducible assumption) | exact Mine.la_4 (by with_reducible assumption) | exact Mine.la_5 (by with_reducible assumption) | exact Mine.la_6 (by with_reducible assumption) | exact Mine.la_7 (by with_reducible assumption) | exact Mine.la_8 (by with_reducible assumption) | exact Mine.la_9 (by with_reducible assumption) | exact Mine.la_10 (by with_reducible assumption) | exact Mine.la_11 (by with_reducible assumption) | exact Mine.la_12 (by with_reducible assumption) | exact Mine.la_13 (by with_reducible assumption) | exact Mine.la_14 (by with_reducible assumption) | exact Mine.la_15 (by with_reducible assumption) | exact Mine.la_16 (by with_reducible assumption) | exact Mine.la_17 (by with_reducible assumption) | exact Mine.la_18 (by with_reducible assumption))
  k_with "my:subscriptTail Name Constant ref int" => row_timed "f" ((k_here; (with_reducible show wpAny _ _ (subscriptTail _ _ (Value.ref _) (Value.int _ _)) _ _ _); k_dflt (refine' Mine.item_L ?k1 ?k2 ?k3 ?k4 ?k5 ?_ ?k6; (case k1 => k_asm); (case k2 => k_mem); (case k3 => decide); (case k4 => decide); (case k5 => exact rfl); (case k6 => with_unfolding_all rfl); k_whole)))
  k_with "my:binaryOp FloorDiv int int" => row_timed "f" (((with_reducible refine floordiv_int ?kb ?_ (Or.inl (Mine.np ?kc ?kd))); (case kb => omega); (case kc => omega); (case kd => omega)))
  k_with "my:callWith ref" => row_timed "f" ((k_here; (with_reducible show wpAny _ _ (callWith _ _ _ (backTo _ (starEach [] _)) []) _ _ _); (try dsimp only); k_dflt (refine' callWith_K0 ?k1 ?k2 ?_; (case k1 => k_in); (case k2 => k_is); k_whole); (try dsimp only [List.cons_append, List.nil_append])))
  k_with "my:ItemsRest" => row_timed "f" (first | ((with_unfolding_all refine ItemsRest.pair ?_); intro t9' t' h' tk' hT' F'; (try dsimp only at hT'); ktu_objs) | ((with_unfolding_all refine ItemsRest.zero ?_); intro h' tk' F' N'))
  trivial
theorem rows_TK1 : True := by
  k_with "my:eval Call Name" => row_timed "f" (((with_reducible show wpAny _ _ (eval (Expr.Call (Expr.Name "_law_take" _) _ _ _) _) _ _ _); refine Call_ ?_))
  trivial
def take_spec_S (pp : Program) (w : World) (loose : List Str) (mean : ExcName → Option Value) (mg : Str → Option Value) (mb : Str → Option Value) (dp : Nat) (un : Nat) (gd : Option (List Code)) (cn : Str) (cs : Scope) (a : Addr) (ccd : Value) (cl : List (Str × Addr)) (outer : List Env) (A₀ : Around) (base : Heap) (h₀ : Heap) (L : Addr) (m : Str → Option Value) (news : List (Addr × Obj)) (s : Shared) (Q : Value → Shared → Prop) (E : Value → Shared → Prop) (rest : List (Addr × Obj)) (l : Addr) (x : Int) (y : Int) (top : Int) (tx : Tok) (ty : Tok) (tt : Tok) (n : Nat) : Prop := Below A₀ base outer h₀ → Fr h₀ L s.heap m → (Mine.hd.heap_1 w.params).In h₀ → News h₀ L s.heap news → Top pp loose mean mg mb h₀ → cs.kind = .function → dp < 495 → un < 8950 → 
    Sel l (listOf #[Value.int x tx, Value.int y ty] n) news rest → (∀ p ∈ rest, p.1 ≠ l) → 0 ≤ x → 0 ≤ y → y < 2147483647 → 0 < top → top ≤ 4294967296 → 
    (∀ r tr x' tx' y' ty' h' tk', 0 ≤ r → r < top → 0 ≤ x' → 0 ≤ y' → y' < 2147483647 → Fr h₀ L h' m → News h₀ L h' ((l, listOf #[Value.int x' tx', Value.int y' ty'] n) :: rest) →  Q (.int r tr) { s with heap := h', toks := tk' }) →
    wpAny (model Challenge.rw_xw0340_01.row.prog w) (ktrTop dp un gd cn cs L a ccd cl outer) (call (.ref 553) [.ref l, .int top tt]) Q E s
open Cx in
def take_spec_P [Cx] : Prop := take_spec_S pp w loose mean mg mb dp un gd cn cs a ccd cl outer A₀ base h₀ L m news s Q E rest l x y top tx ty tt n
noncomputable def take_spec_C : Cx := Mine.ep neCx (fun c => ¬ @take_spec_P c)
noncomputable instance take_spec_I : Cx := take_spec_C
open Cx in
set_option maxHeartbeats 4000000 in
theorem take_spec_T : take_spec_P := by
  unfold take_spec_P take_spec_S
  k_fill
  intro B F X N T hk hd hu S hap hx hy hy2 ht ht2 ret
  refine wpAny_call ?_
  refine' code_part (rw := [(l, listOf #[Value.int x tx, Value.int y ty] n)]) (ro := []) (rest := rest) ?k1 ?k2 ?k3 ?k4 ?k5 ?kA ?kF ?kK ?k6 ?k7 ?k8 ?k9 ?kB ?r1 ?r2 ?r3 ?r4 ?_ ?c2 ?c3 ?c4 ?c5
  k_extra "my:enter"
  (case r1 => intro q hq; rw [List.mem_singleton.mp hq]; exact S.mem)
  (case r2 => exact S.sub)
  (case r3 => intro q hq; cases hq)
  (case r4 => intro q hq q' hq'; rw [List.mem_singleton.mp hq]; exact hap q' hq')
  intro g' L' h' FG' F' N' B' X' T' hLt hst
  (try simp only [List.nil_append, List.cons_append] at N' hLt)
  (try dsimp only)
  k_steps
  all_goals (rename (News _ _ _ _ → News _ _ _ _) => hR)
  all_goals (refine' ret _ _ _ _ _ _ _ _ ?b1 ?b2 ?b3 ?b4 ?b5 ?f ?nn; (case nn => exact join1 (by k_asm) hR); (case f => k_asm); (case b1 => exact Int.fmod_nonneg_of_pos _ ht); (case b2 => exact Int.fmod_lt_of_pos _ ht); (case b3 => first | assumption | exact Int.fdiv_nonneg hx (Int.le_of_lt ht)); (case b4 => first | assumption | exact Int.fmod_nonneg_of_pos _ (by decide)); (case b5 => first | assumption | exact Int.fmod_lt_of_pos _ (by decide)))
theorem take_spec : take_spec_S pp w loose mean mg mb dp un gd cn cs a ccd cl outer A₀ base h₀ L m news s Q E rest l x y top tx ty tt n := Mine.ep_all (P := fun c => @take_spec_P c) neCx take_spec_T ⟨(up 0 pp zC0, up 0 w zC1, up 0 loose zC2, up 0 mean zC3, up 0 mg (up 1 mb (up 2 m zC4)), up 0 dp (up 1 un (up 7 n zC5)), up 0 gd zC6, up 0 cn zC7, up 0 cs zC8, up 0 a (up 1 L (up 26 l zC9)), up 0 ccd zC10, up 0 cl zC11, up 0 outer zC12, up 0 A₀ zC13, up 0 base (up 1 h₀ zC14), up 0 news (up 1 rest zC15), up 0 s zC16, up 0 Q (up 1 E zC17), up 85 tx (up 86 ty (up 87 tt zC18)), zC19, zC20, zC21, up 7 x (up 26 y (up 27 top zC22)), zCt23)⟩ 
def pool_spec_S (pp : Program) (w : World) (loose : List Str) (mean : ExcName → Option Value) (mg : Str → Option Value) (mb : Str → Option Value) (dp : Nat) (un : Nat) (gd : Option (List Code)) (cn : Str) (cs : Scope) (a : Addr) (ccd : Value) (cl : List (Str × Addr)) (outer : List Env) (A₀ : Around) (base : Heap) (h₀ : Heap) (L : Addr) (m : Str → Option Value) (news : List (Addr × Obj)) (s : Shared) (Q : Value → Shared → Prop) (E : Value → Shared → Prop) (sl : Addr) (tz : Tok) (vs : List Value) (ns : List Int) : Prop := Below A₀ base outer h₀ → Fr h₀ L s.heap m → (Mine.hd.heap_1 w.params).In h₀ → News h₀ L s.heap news → Top pp loose mean mg mb h₀ → cs.kind = .function → dp < 450 → un < 8500 → 
    h₀.IsList sl vs.toArray → IntsAre vs ns → ns.length ≤ 63 → 
    (∀ r x tx y ty n h' tk', 0 ≤ x → 0 ≤ y → y < 2147483647 → (∀ p ∈ news, p.1 ≠ r) → Fr h₀ L h' m → News h₀ L h' ((r, listOf #[Value.int x tx, Value.int y ty] n) :: news) →  Q (.ref r) { s with heap := h', toks := tk' }) →
    wpAny (model Challenge.rw_xw0340_01.row.prog w) (ktrTop dp un gd cn cs L a ccd cl outer) (call (.ref 546) [.ref sl, .int 0 tz]) Q E s
open Cx in
def pool_spec_P [Cx] : Prop := pool_spec_S pp w loose mean mg mb dp un gd cn cs a ccd cl outer A₀ base h₀ L m news s Q E sl tz vs ns
noncomputable def pool_spec_C : Cx := Mine.ep neCx (fun c => ¬ @pool_spec_P c)
noncomputable instance pool_spec_I : Cx := pool_spec_C
open Cx in
set_option maxHeartbeats 4000000 in
theorem pool_spec_T : pool_spec_P := by
  unfold pool_spec_P pool_spec_S
  k_fill
  intro B F X N T hk hd hu hL hI hlen ret
  refine wpAny_call ?_
  refine' code_part (rw := []) (ro := []) (rest := news) ?k1 ?k2 ?k3 ?k4 ?k5 ?kA ?kF ?kK ?k6 ?k7 ?k8 ?k9 ?kB ?r1 ?r2 ?r3 ?r4 ?_ ?c2 ?c3 ?c4 ?c5
  k_extra "my:enter"
  (case r1 => intro q hq; cases hq)
  (case r2 => exact fun q hq => hq)
  (case r3 => intro q hq; cases hq)
  (case r4 => intro q hq; cases hq)
  intro g' L' h' FG' F' N' B' X' T' hLt hst
  (try simp only [List.nil_append, List.cons_append] at N' hLt)
  (try dsimp only)
  have hLg := stays_list (fun b o e => FG'.keep b o e) hL
  k_steps
  all_goals (rename (News _ _ _ _ → News _ _ _ _) => hR)
  all_goals (refine' ret _ _ _ _ _ _ _ _ ?b1 ?b2 ?b3 ?fr ?f ?nn; (case nn => exact newsc (by k_asm) (by k_mem) (hR News.nil)); (case f => k_asm); (case b1 => exact Int.mul_nonneg (gr_nonneg _) ite01); (case b2 => exact Int.fmod_nonneg_of_pos _ (by decide)); (case b3 => exact Int.fmod_lt_of_pos _ (by decide)); (case fr => exact fresh_of N hst (by with_reducible assumption) (by k_mem) (by simp)))
theorem pool_spec : pool_spec_S pp w loose mean mg mb dp un gd cn cs a ccd cl outer A₀ base h₀ L m news s Q E sl tz vs ns := Mine.ep_all (P := fun c => @pool_spec_P c) neCx pool_spec_T ⟨(up 0 pp zC0, up 0 w zC1, up 0 loose zC2, up 0 mean zC3, up 0 mg (up 1 mb (up 2 m zC4)), up 0 dp (up 1 un zC5), up 0 gd zC6, up 0 cn zC7, up 0 cs zC8, up 0 a (up 1 L (up 27 sl zC9)), up 0 ccd zC10, up 0 cl zC11, up 0 outer zC12, up 0 A₀ zC13, up 0 base (up 1 h₀ zC14), up 0 news zC15, up 0 s zC16, up 0 Q (up 1 E zC17), up 88 tz zC18, up 1 vs zC19, zC20, zC21, zC22, zC23, zC24, zC25, zC26, zC27, zC28, up 2 ns zC29, zCt30)⟩ 
theorem rows_TK3 : True := by
  k_with "my:compareOp NotEq ref ref" => row_timed "f" (k_dflt (refine' Mine.ne_nilC ?N ?l ?b ?u ?_; (case N => k_asm); (case l => k_mem); (case b => k_mem); (case u => k_extra "my:kd")))
  k_with "my:compareOp NotEq ref ref" => row_timed "f" (k_dflt (refine' Mine.ne_nil ?N ?l ?b ?u ?_; (case N => k_asm); (case l => k_mem); (case b => k_mem); (case u => k_extra "my:kd")))
  k_with "my:subscriptTail Name UnaryOp ref int" => row_timed "f" ((k_here; (with_reducible show wpAny _ _ (subscriptTail _ _ (Value.ref _) (Value.int _ _)) _ _ _); k_dflt (refine' Mine.item_last ?k1 ?k2 ?_ ?k6; (case k1 => k_asm); (case k2 => k_mem); (case k6 => with_unfolding_all rfl); k_whole)))
  k_with "my:compareOp Eq ref ref" => row_timed "f" (k_dflt (refine' Mine.eq_nil ?N ?l ?b ?u ?_; (case N => k_asm); (case l => k_mem); (case b => k_mem); (case u => k_extra "my:kd")))
  k_with "my:call builtin:list.append" => row_timed "f" (((with_reducible show wpAny _ _ (call (Value.builtin _) [Value.ref _, _]) _ _ _); k_dflt (refine' Mine.append_T ?k1 ?k2 ?k3 ?z ?_; (case k1 => k_asm); (case k2 => k_asm); (case k3 => k_upd); (case z => (first | exact Nat.le_of_ble_eq_true rfl | ((try simp only [List.length_append, List.length_cons, List.length_nil]); omega))); k_whole); intro h' F' N'; (try k_sweep)))
  k_with "my:call ref cons nil" => row_timed "f" ((k_here; (with_reducible show wpAny _ _ (call (Value.ref 553) _) _ _ _); k_dflt (refine' Mine.take_spec ?k1 ?k2 ?k3 ?k4 ?k5 ?kK ?kd ?ku ?e0 ?e1 ?e2 ?e3 ?e4 ?e5 ?e6 ?_; (case k1 => k_asm); (case k2 => k_asm); (case k3 => k_asm); (case k4 => k_asm); (case k5 => k_asm); (case kK => first | exact rfl | assumption); (case e0 => repeat (first | exact Sel.head | apply Sel.tail)); (case e1 => (repeat (first | exact List.forall_mem_nil _ | (with_reducible assumption) | (refine List.forall_mem_cons.mpr ⟨by first | assumption | k_ne, ?_⟩) | k_all))); (case e2 => first | assumption | omega); (case e3 => first | assumption | omega); (case e4 => first | assumption | omega); (case e5 => first | decide | omega); (case e6 => first | decide | omega); (case kd => k_extra "my:kd"); (case ku => k_extra "my:kd"); k_whole); intro r' tr' x' tx' y' ty' h' tk' hr1' hr2' hx' hy1' hy2' F' N'; (try simp only [Int.reduceToNat, Int.reducePow] at hr2'); (try k_sweep)))
  k_with "my:call ref" => row_timed "f" (((with_reducible show wpAny _ _ (call (Prod.fst _) _) _ _ _); (dsimp only [List.cons_append, List.nil_append])))
  k_with "my:compareOp IsNot" => row_timed "f" (((with_reducible show wpAny _ _ (compareOp CmpOp.IsNot _ Value.none) _ _ _); (refine Mine.isnot_first (by assumption) ?_ ?_); (all_goals first | (intro x' hx') | (intro hx' hy'))))
  trivial
def one_spec_S (pp : Program) (w : World) (loose : List Str) (mean : ExcName → Option Value) (mg : Str → Option Value) (mb : Str → Option Value) (dp : Nat) (un : Nat) (gd : Option (List Code)) (cn : Str) (cs : Scope) (a : Addr) (ccd : Value) (cl : List (Str × Addr)) (outer : List Env) (A₀ : Around) (base : Heap) (h₀ : Heap) (L : Addr) (m : Str → Option Value) (news : List (Addr × Obj)) (s : Shared) (Q : Value → Shared → Prop) (E : Value → Shared → Prop) (rest : List (Addr × Obj)) (l : Addr) (tl : Addr) (x : Int) (y : Int) (tx : Tok) (ty : Tok) (t0 : Tok) (t1 : Tok) (t2 : Tok) (n : Nat) (n2 : Nat) : Prop := Below A₀ base outer h₀ → Fr h₀ L s.heap m → (Mine.hd.heap_1 w.params).In h₀ → News h₀ L s.heap news → Top pp loose mean mg mb h₀ → cs.kind = .function → dp < 490 → un < 8900 → 
    Sel l (listOf #[Value.int x tx, Value.int y ty] n) news rest → (∀ p ∈ rest, p.1 ≠ l) → (tl, listOf #[Value.int 2 t0, Value.int 1 t1, Value.int 0 t2] n2) ∈ rest → 0 ≤ x → 0 ≤ y → y < 2147483647 → 
    (∀ r tr x' tx' y' ty' h' tk', 0 ≤ r → r ≤ 2 → 0 ≤ x' → 0 ≤ y' → y' < 2147483647 → Fr h₀ L h' m → News h₀ L h' ((l, listOf #[Value.int x' tx', Value.int y' ty'] n) :: rest) →  Q (.int r tr) { s with heap := h', toks := tk' }) →
    wpAny (model Challenge.rw_xw0340_01.row.prog w) (ktrTop dp un gd cn cs L a ccd cl outer) (call (.ref 560) [.ref l, .ref tl]) Q E s
open Cx in
def one_spec_P [Cx] : Prop := one_spec_S pp w loose mean mg mb dp un gd cn cs a ccd cl outer A₀ base h₀ L m news s Q E rest l tl x y tx ty t0 t1 t2 n n2
noncomputable def one_spec_C : Cx := Mine.ep neCx (fun c => ¬ @one_spec_P c)
noncomputable instance one_spec_I : Cx := one_spec_C
open Cx in
set_option maxHeartbeats 4000000 in
theorem one_spec_T : one_spec_P := by
  unfold one_spec_P one_spec_S
  k_fill
  intro B F X N T hk hd hu S hap mt hx hy hy2 ret
  refine wpAny_call ?_
  refine' code_part (rw := [(l, listOf #[Value.int x tx, Value.int y ty] n)]) (ro := [(tl, listOf #[Value.int 2 t0, Value.int 1 t1, Value.int 0 t2] n2)]) (rest := rest) ?k1 ?k2 ?k3 ?k4 ?k5 ?kA ?kF ?kK ?k6 ?k7 ?k8 ?k9 ?kB ?r1 ?r2 ?r3 ?r4 ?_ ?c2 ?c3 ?c4 ?c5
  k_extra "my:enter"
  (case r1 => intro q hq; rw [List.mem_singleton.mp hq]; exact S.mem)
  (case r2 => exact S.sub)
  (case r3 => intro q hq; rw [List.mem_singleton.mp hq]; exact mt)
  (case r4 => intro q hq q' hq'; rw [List.mem_singleton.mp hq]; exact hap q' hq')
  intro g' L' h' FG' F' N' B' X' T' hLt hst
  (try simp only [List.nil_append, List.cons_append] at N' hLt)
  (try dsimp only)
  have e01 : tl ≠ l := hap _ mt
  k_steps
  all_goals (rename (News _ _ _ _ → News _ _ _ _) => hR)
  all_goals (refine' ret _ _ _ _ _ _ _ _ ?b1 ?b2 ?b3 ?b4 ?b5 ?f ?nn; (case nn => exact newsc (by k_asm) (by k_mem) (hR (newsl (by k_asm) (by k_subL)))); (case f => k_asm); (case b1 => exact (item3i (by assumption) (by assumption)).1); (case b2 => exact (item3i (by assumption) (by assumption)).2); (case b3 => assumption); (case b4 => assumption); (case b5 => assumption))
theorem one_spec : one_spec_S pp w loose mean mg mb dp un gd cn cs a ccd cl outer A₀ base h₀ L m news s Q E rest l tl x y tx ty t0 t1 t2 n n2 := Mine.ep_all (P := fun c => @one_spec_P c) neCx one_spec_T ⟨(up 0 pp zC0, up 0 w zC1, up 0 loose zC2, up 0 mean zC3, up 0 mg (up 1 mb (up 2 m zC4)), up 0 dp (up 1 un (up 7 n (up 8 n2 zC5))), up 0 gd zC6, up 0 cn zC7, up 0 cs zC8, up 0 a (up 1 L (up 26 l (up 28 tl zC9))), up 0 ccd zC10, up 0 cl zC11, up 0 outer zC12, up 0 A₀ zC13, up 0 base (up 1 h₀ zC14), up 0 news (up 1 rest zC15), up 0 s zC16, up 0 Q (up 1 E zC17), up 85 tx (up 86 ty (up 89 t0 (up 90 t1 (up 91 t2 zC18)))), zC19, zC20, zC21, up 7 x (up 26 y zC22), zCt23)⟩ 
theorem rows_MX2 : True := by
  k_with "my:compareOp NotEq ref ref" => row_timed "f" ((k_here; k_dflt (first | (refine' Mine.ne_nil ?N ?a ?b ?u ?_; (case N => k_asm); (case a => kba_same); (case b => kba_same); (case u => k_extra "my:kd")) | (refine' Mine.ne_empty ?N ?a ?b ?u ?_; (case N => k_asm); (case a => kba_same); (case b => kba_same); (case u => k_extra "my:kd")))))
  k_with "my:call ref cons nil" => row_timed "f" ((k_here; (with_reducible show wpAny _ _ (call (Value.ref 374) _) _ _ _); k_dflt (refine' Mine.fill_spec ?k1 ?k2 ?k3 ?k4 ?k5 ?kK ?kd ?ku ?e0 ?e1 ?e2 ?e3 ?e4 ?e5 ?_; (case k1 => k_asm); (case k2 => k_asm); (case k3 => k_asm); (case k4 => k_asm); (case k5 => k_asm); (case kK => first | exact rfl | assumption); (case e0 => repeat (first | exact Sel.head | apply Sel.tail | apply Mine.Sel.app)); (case e1 => k_all); (case e2 => k_mem); (case e3 => k_mem); (case e4 => (refine' Mine.Pairs.mono ?hs ?hp; (case hp => assumption); (case hs => kcf_all))); (case e5 => first | assumption | omega); (case kd => k_extra "my:kd"); (case ku => k_extra "my:kd"); k_whole); intro fl' rl' fvs' rvs' nf' nr' tl' h' tk' ha' hf' hr' ht' hP1' hP2' F' N'; (try simp only [AllLt, and_true] at hf'); (try dsimp only [List.cons_append, List.nil_append] at N'); (try k_sweep)))
  k_with "my:call ref cons nil" => row_timed "f" ((k_here; (with_reducible show wpAny _ _ (call (Value.ref 381) _) _ _ _); k_dflt (refine' Mine.end_at_spec ?k1 ?k2 ?k3 ?k4 ?k5 ?kK ?kd ?ku ?e0 ?e1 ?e2 ?e3 ?e4 ?e5 ?_; (case k1 => k_asm); (case k2 => k_asm); (case k3 => k_asm); (case k4 => k_asm); (case k5 => k_asm); (case kK => first | exact rfl | assumption); (case e0 => repeat (first | exact Sel.head | apply Sel.tail | apply Mine.Sel.app)); (case e1 => k_all); (case e2 => k_mem); (case e3 => k_mem); (case e4 => (refine' Mine.Pairs.mono ?hs ?hp; (case hp => assumption); (case hs => kcf_all))); (case e5 => first | assumption | omega); (case kd => k_extra "my:kd"); (case ku => k_extra "my:kd"); k_whole); intro rl' rvs' nr' tl' h' tk' ha' hr' ht' hP1' F' N'; (try simp only [AllLt, and_true] at hr'); (try dsimp only [List.cons_append, List.nil_append] at N'); (try k_sweep)))
  k_with "my:call ref cons nil" => row_timed "f" ((k_here; (with_reducible show wpAny _ _ (call (Value.ref 395) _) _ _ _); k_dflt (refine' Mine.hwhole_spec ?k1 ?k2 ?k3 ?k4 ?k5 ?kK ?kd ?ku ?e0 ?e1 ?e2 ?_; (case k1 => k_asm); (case k2 => k_asm); (case k3 => k_asm); (case k4 => k_asm); (case k5 => k_asm); (case kK => first | exact rfl | assumption); (case e0 => k_mem); (case e1 => k_mem); (case e2 => k_mem); (case kd => k_extra "my:kd"); (case ku => k_extra "my:kd"); k_whole); intro h' tk' F' N'; (try k_sweep)))
  k_with "my:call ref cons nil" => row_timed "f" ((k_here; (with_reducible show wpAny _ _ (call (Value.ref 388) _) _ _ _); k_dflt (refine' Mine.reach_spec ?k1 ?k2 ?k3 ?k4 ?k5 ?kK ?kd ?ku ?e0 ?e1 ?e2 ?e3 ?_; (case k1 => k_asm); (case k2 => k_asm); (case k3 => k_asm); (case k4 => k_asm); (case k5 => k_asm); (case kK => first | exact rfl | assumption); (case e0 => k_mem); (case e1 => k_mem); (case e2 => k_mem); (case e3 => k_mem); (case kd => k_extra "my:kd"); (case ku => k_extra "my:kd"); k_whole); intro h' tk' F' N'; (try k_sweep)))
  k_with "my:call ref cons nil" => row_timed "f" ((k_here; (with_reducible show wpAny _ _ (call (Value.ref 423) _) _ _ _); k_dflt (refine' Mine.against_m ?k1 ?k2 ?k3 ?k4 ?k5 ?kK ?kd ?ku ?e0 ?e1 ?e2 ?e3 ?_; (case k1 => k_asm); (case k2 => k_asm); (case k3 => k_asm); (case k4 => k_asm); (case k5 => k_asm); (case kK => first | exact rfl | assumption); (case e0 => k_mem); (case e1 => k_mem); (case e2 => omega); (case e3 => assumption); (case kd => k_extra "my:kd"); (case ku => k_extra "my:kd"); k_whole); intro h' tk' F' N'; (try k_sweep)))
  k_with "my:call ref cons nil" => row_timed "f" ((k_here; (with_reducible show wpAny _ _ (call (Value.ref 423) _) _ _ _); k_dflt (refine' Mine.against_c ?k1 ?k2 ?k3 ?k4 ?k5 ?kK ?kd ?ku ?e0 ?e1 ?e2 ?e3 ?e4 ?e5 ?e6 ?e7 ?e8 ?_; (case k1 => k_asm); (case k2 => k_asm); (case k3 => k_asm); (case k4 => k_asm); (case k5 => k_asm); (case kK => first | exact rfl | assumption); (case e0 => k_mem); (case e1 => k_mem); (case e2 => k_mem); (case e3 => k_mem); (case e4 => k_mem); (case e5 => k_mem); (case e6 => omega); (case e7 => omega); (case e8 => omega); (case kd => k_extra "my:kd"); (case ku => k_extra "my:kd"); k_whole); intro h' tk' F' N'; (try k_sweep)))
  k_with "my:call ref cons nil" => row_timed "f" ((k_here; (with_reducible show wpAny _ _ (call (Value.ref 437) _) _ _ _); (have mk9 : Mine.MkNM := (by with_reducible assumption)); clear mk9; k_dflt (refine' Mine.dwhole_a ?k1 ?k2 ?k3 ?k4 ?k5 ?kK ?kd ?ku ?e0 ?e1 ?_; (case k1 => k_asm); (case k2 => k_asm); (case k3 => k_asm); (case k4 => k_asm); (case k5 => k_asm); (case kK => first | exact rfl | assumption); (case e0 => k_mem); (case e1 => k_mem); (case kd => k_extra "my:kd"); (case ku => k_extra "my:kd"); k_whole); intro h' tk' F' N'; (try k_sweep)))
  k_with "my:call ref cons nil" => row_timed "f" ((k_here; (with_reducible show wpAny _ _ (call (Value.ref 504) _) _ _ _); k_dflt (refine' Mine.stored_1 ?k1 ?k2 ?k3 ?k4 ?k5 ?kK ?kd ?ku ?e0 ?e1 ?e2 ?e3 ?e4 ?e5 ?e6 ?e7 ?e8 ?e9 ?_; (case k1 => k_asm); (case k2 => k_asm); (case k3 => k_asm); (case k4 => k_asm); (case k5 => k_asm); (case kK => first | exact rfl | assumption); (case e0 => assumption); (case e1 => assumption); (case e2 => k_mem); (case e3 => k_mem); (case e4 => k_mem); (case e5 => k_mem); (case e6 => k_mem); (case e7 => k_mem); (case e8 => omega); (case e9 => omega); (case kd => k_extra "my:kd"); (case ku => k_extra "my:kd"); k_whole); intro sm' tr' h' tk' hs' F' N'; (try k_sweep)))
  k_with "my:call ref cons nil" => row_timed "f" ((k_here; (with_reducible show wpAny _ _ (call (Value.ref 504) _) _ _ _); k_dflt (refine' Mine.stored_2 ?k1 ?k2 ?k3 ?k4 ?k5 ?kK ?kd ?ku ?e0 ?e1 ?e2 ?e3 ?e4 ?e5 ?e6 ?e7 ?e8 ?e9 ?e10 ?e11 ?e12 ?e13 ?e14 ?_; (case k1 => k_asm); (case k2 => k_asm); (case k3 => k_asm); (case k4 => k_asm); (case k5 => k_asm); (case kK => first | exact rfl | assumption); (case e0 => assumption); (case e1 => assumption); (case e2 => k_mem); (case e3 => k_mem); (case e4 => k_mem); (case e5 => k_mem); (case e6 => k_mem); (case e7 => k_mem); (case e8 => k_mem); (case e9 => k_mem); (case e10 => k_mem); (case e11 => omega); (case e12 => omega); (case e13 => omega); (case e14 => omega); (case kd => k_extra "my:kd"); (case ku => k_extra "my:kd"); k_whole); intro sm' tr' h' tk' hs' F' N'; (try k_sweep)))
  k_with "my:call ref cons nil" => row_timed "f" ((k_here; (with_reducible show wpAny _ _ (call (Value.ref 518) _) _ _ _); k_dflt (refine' Mine.mroom_1 ?k1 ?k2 ?k3 ?k4 ?k5 ?kK ?kd ?ku ?e0 ?e1 ?e2 ?e3 ?e4 ?e5 ?e6 ?e7 ?e8 ?e9 ?_; (case k1 => k_asm); (case k2 => k_asm); (case k3 => k_asm); (case k4 => k_asm); (case k5 => k_asm); (case kK => first | exact rfl | assumption); (case e0 => assumption); (case e1 => assumption); (case e2 => k_mem); (case e3 => k_mem); (case e4 => k_mem); (case e5 => k_mem); (case e6 => k_mem); (case e7 => k_mem); (case e8 => omega); (case e9 => omega); (case kd => k_extra "my:kd"); (case ku => k_extra "my:kd"); k_whole); intro h' tk' F' N'; (try k_sweep)))
  k_with "my:call ref cons nil" => row_timed "f" ((k_here; (with_reducible show wpAny _ _ (call (Value.ref 518) _) _ _ _); k_dflt (refine' Mine.mroom_2 ?k1 ?k2 ?k3 ?k4 ?k5 ?kK ?kd ?ku ?e0 ?e1 ?e2 ?e3 ?e4 ?e5 ?e6 ?e7 ?e8 ?e9 ?e10 ?e11 ?e12 ?e13 ?_; (case k1 => k_asm); (case k2 => k_asm); (case k3 => k_asm); (case k4 => k_asm); (case k5 => k_asm); (case kK => first | exact rfl | assumption); (case e0 => assumption); (case e1 => assumption); (case e2 => k_mem); (case e3 => k_mem); (case e4 => k_mem); (case e5 => k_mem); (case e6 => k_mem); (case e7 => k_mem); (case e8 => k_mem); (case e9 => k_mem); (case e10 => k_mem); (case e11 => omega); (case e12 => omega); (case e13 => omega); (case kd => k_extra "my:kd"); (case ku => k_extra "my:kd"); k_whole); intro h' tk' F' N'; (try k_sweep)))
  k_with "my:call ref cons nil" => row_timed "f" ((k_here; (with_reducible show wpAny _ _ (call (Value.ref 442) _) _ _ _); k_dflt (refine' Mine.octets_any ?k1 ?k2 ?k3 ?k4 ?k5 ?kK ?kd ?ku ?e0 ?e1 ?e2 ?e3 ?e4 ?e5 ?_; (case k1 => k_asm); (case k2 => k_asm); (case k3 => k_asm); (case k4 => k_asm); (case k5 => k_asm); (case kK => first | exact rfl | assumption); (case e0 => k_mem); (case e1 => k_mem); (case e2 => k_mem); (case e3 => (refine' Mine.Parts.mono ?hs ?hp; (case hp => assumption); (case hs => kcf_all))); (case e4 => assumption); (case e5 => assumption); (case kd => k_extra "my:kd"); (case ku => k_extra "my:kd"); k_whole); intro tr' h' tk' F' N'; (try k_sweep)))
  k_with "my:call ref cons nil" => row_timed "f" ((k_here; (with_reducible show wpAny _ _ (call (Value.ref 518) _) _ _ _); k_dflt (refine' Mine.mroom_any ?k1 ?k2 ?k3 ?k4 ?k5 ?kK ?kd ?ku ?e0 ?e1 ?e2 ?e3 ?e4 ?e5 ?e6 ?e7 ?e8 ?e9 ?_; (case k1 => k_asm); (case k2 => k_asm); (case k3 => k_asm); (case k4 => k_asm); (case k5 => k_asm); (case kK => first | exact rfl | assumption); (case e0 => assumption); (case e1 => assumption); (case e2 => k_mem); (case e3 => k_mem); (case e4 => k_mem); (case e5 => first | (refine' Mine.Waits.mono ?hs ?hp; (case hp => assumption); (case hs => kcf_all)) | (refine' Mine.waits_app ?ws ?w1 ?w2 ?w3 ?wk; (case wk => assumption); (case ws => kcf_all); (case w1 => k_mem); (case w2 => k_mem); (case w3 => k_mem))); (case e6 => first | assumption | (intro e9; simp at e9)); (case e7 => first | omega | (simp only [List.length_append, List.length_cons, List.length_nil]; omega)); (case e8 => first | assumption | exact Mine.nn_app (by assumption) (by omega)); (case e9 => first | assumption | (rw [List.sum_append, List.sum_cons, List.sum_nil]; omega)); (case kd => k_extra "my:kd"); (case ku => k_extra "my:kd"); k_whole); intro h' tk' F' N'; (try k_sweep)))
  k_with "my:compareOp Is" => row_timed "f" (((with_reducible show wpAny _ _ (compareOp CmpOp.Is _ Value.none) _ _ _); (refine Mine.is_first (by assumption) ?_ ?_); (all_goals first | (intro x' hx') | (intro hx' hy'))))
  k_with "my:call builtin:len" => row_timed "f" ((k_here; (with_reducible show wpAny _ _ (call (Value.builtin "len") [Value.bytes _ _]) _ _ _); k_dflt (refine' Mine.len_By ?z ?_; (case z => first | omega | decide))))
  k_with "my:call builtin:len" => row_timed "f" ((k_here; (with_reducible show wpAny _ _ (call (Value.builtin "len") [Value.bytes #[] _]) _ _ _); k_dflt (refine Mine.len_B0 ?_)))
  k_with "my:subscriptTail" => row_timed "f" ((k_here; (with_reducible show wpAny _ _ (subscriptTail _ (Expr.Slice _ _ none _) (Value.bytes _ _) (Value.ref _)) _ _ _); (with_reducible rename Fr _ _ _ _ => F'); (with_reducible rename News _ _ _ _ => N'); (refine Mine.slice_By (s := ⟨_, _, _, _, _⟩) F' N' (by constructor) (by constructor) (by omega) ?_ (by with_unfolding_all rfl) (by intro _; with_unfolding_all rfl)); intro _ _ _ _ _))
  k_with "my:subscriptTail" => row_timed "f" ((k_here; (with_reducible show wpAny _ _ (subscriptTail _ _ (Value.ref _) (Value.ref _)) _ _ _); k_dflt (refine' Mine.w_item ?hu ?N ?hm ?hw ?hk ?hka ?tk ?hp ?_ ?hs ?hg; (case N => k_asm); (case hm => k_mem); (case hw => assumption); (case hka => k_mem); (case tk => exact Mine.key4); (case hp => first | assumption | exact Mine.w_get (by assumption) 0 rfl | exact Mine.w_get (by assumption) 1 rfl | exact Mine.w_get (by assumption) 2 rfl | exact Mine.w_get (by assumption) 3 rfl); (case hu => k_extra "my:kd"); (case hk => first | (refine' Mine.WKeys.mono ?ws ?wk; (case wk => assumption); (case ws => kcf_all)) | (refine' Mine.wkeys_app ?ws ?wk ?wm Mine.key4; (case wk => assumption); (case ws => kcf_all); (case wm => k_mem))); (case hs => with_unfolding_all rfl); (case hg => intro _; with_unfolding_all rfl)); intro tk'))
  k_with "my:CompSrc" => row_timed "f" ((k_here; k_dflt (first
  | (refine LCg.CompSrc.ledger (by rfl) (by k_asm) (by k_asm) (by k_mem) (by first | size_fits | exact Nat.le_of_ble_eq_true rfl) ?_; intro g'; lcg_lit)
  | (refine LCg.CompSrc.range (by rfl) (by k_asm) (by k_asm) (by assumption) (by first | decide | rfl) (by first | rfl | decide) (by first | size_fits | exact Nat.le_of_ble_eq_true rfl) ?_; intro g'; lcg_lit))))
  k_with "my:CompRest" => row_timed "f" ((with_unfolding_all first
  | (refine LCg.CompRest.succ ?_; intro v' I' oI' C' oC' D' m' h' tk' E' hv' hC' hx' F' N' off' ne'; (first | lcg_open hv' | (obtain ⟨t9', hv9'⟩ := hv'; subst hv9')))
  | refine LCg.CompRest.zero ?_))
  k_with "my:CompRestP" => row_timed "f" ((with_unfolding_all first
  | (refine LCp.CompRestP.succ ?_; intro v' hv'; lcg_open hv'; refine ⟨_, _, _, _, _, rfl, by k_mem, rfl, rfl, ?_⟩; intro I' oI' C' oC' D' m' h' tk' E' hC' hx' hy' F' N' off' ne')
  | refine LCp.CompRestP.zero ?_))
  k_with "my:CompEnd" => row_timed "f" ((refine' LCg.CompEnd.intro ?F ?N _ ?sub ?off ?src ?_; (case off => assumption); (case F => k_asm); (case N => k_asm); (case sub => kcf_all); (case src => lcg_src)))
  k_with "my:FinE" => row_timed "f" (((unfold LCg.FinE); intro D' h' tk' F' N' o1'; (try dsimp only [List.cons_append, List.nil_append] at N'); (try dsimp only)))
  k_with "my:getMethod bytes" => row_timed "f" ((k_here; (with_reducible refine Mine.method_join ?_)))
  k_with "my:call builtin:bytes.join" => row_timed "f" ((k_here; k_dflt (first | (refine' Mine.join_1 ?N ?l ?z ?_; (case N => k_asm); (case l => k_mem); (case z => omega)) | (refine' Mine.join_2 ?N ?l ?z ?_; (case N => k_asm); (case l => k_mem); (case z => omega)) | (refine' Mine.join_3 ?N ?l ?z ?_; (case N => k_asm); (case l => k_mem); (case z => omega))); intro _ _))
  k_with "my:eval Call Attribute" => row_timed "f" (((with_reducible show wpAny _ _ (eval (Expr.Call (Expr.Attribute _ "pop" _) _ _ _) _) _ _ _); refine MethodCall_ ?_))
  k_with "my:exec While Compare" => row_timed "f" ((k_here; k_dflt (refine whl_start 100 ?_)))
  k_with "my:call builtin:list.pop" => row_timed "f" ((k_here; k_dflt (first
  | (refine' Mine.pop3 ?hL ?F ?N ?U ?h0 ?h1 ?_; (case hL => with_reducible assumption); (case F => k_asm); (case N => k_asm); (case U => k_updF); (case h0 => assumption); (case h1 => assumption); intro t' hh' tb' i' b0' b1' j0' j1' h' hm' hH' hL' hp' F' N'; (have hm9' := (by with_reducible assumption : ∀ p ∈ _, p ∈ _) _ hm'))
  | (refine' Mine.pop2 ?hL ?F ?N ?U ?h0 ?h1 ?_; (case hL => with_reducible assumption); (case F => k_asm); (case N => k_asm); (case U => k_updF); (case h0 => assumption); (case h1 => assumption); intro t' hh' tb' i' b0' j0' h' hm' hH' hL' hp' F' N'; (have hm9' := (by with_reducible assumption : ∀ p ∈ _, p ∈ _) _ hm'))
  | (refine' Mine.pop1 ?hL ?F ?N ?U ?h0 ?h1 ?_; (case hL => with_reducible assumption); (case F => k_asm); (case N => k_asm); (case U => k_updF); (case h0 => assumption); (case h1 => assumption); intro t' hh' tb' i' h' hm' hH' hp' F' N'; (have hm9' := (by with_reducible assumption : ∀ p ∈ _, p ∈ _) _ hm'))); (try dsimp only at N')))
  trivial
def mixed1_spec_S (pp : Program) (w : World) (loose : List Str) (mean : ExcName → Option Value) (mg : Str → Option Value) (mb : Str → Option Value) (dp : Nat) (un : Nat) (gd : Option (List Code)) (cn : Str) (cs : Scope) (a : Addr) (ccd : Value) (cl : List (Str × Addr)) (outer : List Env) (A₀ : Around) (base : Heap) (h₀ : Heap) (L : Addr) (m : Str → Option Value) (news : List (Addr × Obj)) (s : Shared) (Q : Value → Shared → Prop) (E : Value → Shared → Prop) (rest : List (Addr × Obj)) (tl_2z : List (Addr × Obj)) (sa : Addr) (pl : Addr) (x : Int) (y : Int) (tx : Tok) (ty : Tok) (tn : Tok) (n : Nat) (np_z : Nat) (D0 : Dat) (i0 : Nat) (a0 : Value) : Prop := Below A₀ base outer h₀ → Fr h₀ L s.heap m → (Mine.hd.heap_1 w.params).In h₀ → News h₀ L s.heap news → Top pp loose mean mg mb h₀ → cs.kind = .function → dp < 480 → un < 8800 → 
    Sel sa (listOf #[Value.int x tx, Value.int y ty] n) news rest → (∀ p ∈ rest, p.1 ≠ sa) → (pl, listOf [a0].toArray np_z) ∈ rest → (∀ p ∈ tl_2z, p ∈ rest) → LeftAt w.params tl_2z D0 [a0] [i0] → 0 ≤ x → 0 ≤ y → y < 2147483647 → 
    (∀ l nn vs rs new x' tx' y' ty' h' tk', MixAt w.params (new ++ tl_2z) D0 vs rs → [i0].Perm (rs.map (·.1)) → (∀ p ∈ new, p.1 ≠ sa) → l ≠ sa → (∀ p ∈ new, ∀ q ∈ rest, q.1 ≠ p.1) → (∀ q ∈ rest, q.1 ≠ l) → 0 ≤ x' → 0 ≤ y' → y' < 2147483647 → Fr h₀ L h' m → News h₀ L h' ((l, listOf vs.toArray nn) :: (sa, listOf #[Value.int x' tx', Value.int y' ty'] n) :: (new ++ rest)) →  Q (.ref l) { s with heap := h', toks := tk' }) →
    wpAny (model Challenge.rw_xw0340_01.row.prog w) (ktrTop dp un gd cn cs L a ccd cl outer) (call (.ref 579) [.ref sa, .ref pl, .int D0.n tn]) Q E s
open Cx in
def mixed1_spec_P [Cx] : Prop := mixed1_spec_S pp w loose mean mg mb dp un gd cn cs a ccd cl outer A₀ base h₀ L m news s Q E rest tl_2z sa pl x y tx ty tn n np_z D0 i0 a0
noncomputable def mixed1_spec_C : Cx := Mine.ep neCx (fun c => ¬ @mixed1_spec_P c)
noncomputable instance mixed1_spec_I : Cx := mixed1_spec_C
open Cx in
set_option maxHeartbeats 4000000 in
theorem mixed1_spec_T : mixed1_spec_P := by
  unfold mixed1_spec_P mixed1_spec_S
  k_fill
  intro B F X N T hk hd hu S hap mpl htl hLf hx hy hy2 ret
  refine wpAny_call ?_
  refine' code_part (rw := [(sa, listOf #[Value.int x tx, Value.int y ty] n)]) (ro := rest) (rest := rest) ?k1 ?k2 ?k3 ?k4 ?k5 ?kA ?kF ?kK ?k6 ?k7 ?k8 ?k9 ?kB ?r1 ?r2 ?r3 ?r4 ?_ ?c2 ?c3 ?c4 ?c5
  k_extra "my:enter"
  (case r1 => intro q hq; rw [List.mem_singleton.mp hq]; exact S.mem)
  (case r2 => exact S.sub)
  (case r3 => exact fun q hq => hq)
  (case r4 => intro q hq q' hq'; rw [List.mem_singleton.mp hq]; exact hap q' hq')
  intro g' L' h' FG' F' N' B' X' T' hLt hst
  (try simp only [List.nil_append, List.cons_append] at N' hLt)
  (try dsimp only)
  k_steps
  all_goals (refine' mix_end1 (R := fun l h' tk' => Q (.ref l) { s with heap := h', toks := tk' }) ret ?F ?N ?ml ?ms ?m0 ?hs ?H0 ?p0 ?f0 ?fl ?g0 ?gl ?b1 ?b2 ?b3; (case F => k_asm); (case N => k_asm); (case ml => first | with_reducible kba_same | kba_same); (case ms => first | with_reducible kba_same | kba_same); (case m0 => first | with_reducible kba_same | kba_same); (case hs => kcf_all); (case H0 => with_reducible assumption); (case p0 => with_reducible assumption); (case f0 => (show @Ne Nat _ _; omega)); (case fl => (show @Ne Nat _ _; omega)); (case g0 => exact Mine.allLt_ne (by k_extra "my:laany")); (case gl => exact Mine.allLt_ne (by k_extra "my:laany")); (case b1 => assumption); (case b2 => assumption); (case b3 => assumption))
theorem mixed1_spec : mixed1_spec_S pp w loose mean mg mb dp un gd cn cs a ccd cl outer A₀ base h₀ L m news s Q E rest tl_2z sa pl x y tx ty tn n np_z D0 i0 a0 := Mine.ep_all (P := fun c => @mixed1_spec_P c) neCx mixed1_spec_T ⟨(up 0 pp zC0, up 0 w zC1, up 0 loose zC2, up 0 mean zC3, up 0 mg (up 1 mb (up 2 m zC4)), up 0 dp (up 1 un (up 7 n (up 3 np_z (up 11 i0 zC5)))), up 0 gd zC6, up 0 cn zC7, up 0 cs zC8, up 0 a (up 1 L (up 30 sa (up 8 pl zC9))), up 0 ccd (up 30 a0 zC10), up 0 cl zC11, up 0 outer zC12, up 0 A₀ zC13, up 0 base (up 1 h₀ zC14), up 0 news (up 1 rest (up 10 tl_2z zC15)), up 0 s zC16, up 0 Q (up 1 E zC17), up 85 tx (up 86 ty (up 77 tn zC18)), zC19, zC20, zC21, up 7 x (up 26 y zC22), zC23, zC24, zC25, zC26, zC27, zC28, zC29, zC30, zC31, zC32, zC33, zC34, zC35, zC36, up 0 D0 zC37)⟩ 
def mixed2_spec_S (pp : Program) (w : World) (loose : List Str) (mean : ExcName → Option Value) (mg : Str → Option Value) (mb : Str → Option Value) (dp : Nat) (un : Nat) (gd : Option (List Code)) (cn : Str) (cs : Scope) (a : Addr) (ccd : Value) (cl : List (Str × Addr)) (outer : List Env) (A₀ : Around) (base : Heap) (h₀ : Heap) (L : Addr) (m : Str → Option Value) (news : List (Addr × Obj)) (s : Shared) (Q : Value → Shared → Prop) (E : Value → Shared → Prop) (rest : List (Addr × Obj)) (tl_2z : List (Addr × Obj)) (sa : Addr) (pl : Addr) (x : Int) (y : Int) (tx : Tok) (ty : Tok) (tn : Tok) (n : Nat) (np_z : Nat) (D0 : Dat) (i0 : Nat) (i1_2z : Nat) (a0 : Value) (a1 : Value) : Prop := Below A₀ base outer h₀ → Fr h₀ L s.heap m → (Mine.hd.heap_1 w.params).In h₀ → News h₀ L s.heap news → Top pp loose mean mg mb h₀ → cs.kind = .function → dp < 480 → un < 8800 → 
    Sel sa (listOf #[Value.int x tx, Value.int y ty] n) news rest → (∀ p ∈ rest, p.1 ≠ sa) → (pl, listOf [a0, a1].toArray np_z) ∈ rest → (∀ p ∈ tl_2z, p ∈ rest) → LeftAt w.params tl_2z D0 [a0, a1] [i0, i1_2z] → 0 ≤ x → 0 ≤ y → y < 2147483647 → 
    (∀ l nn vs rs new x' tx' y' ty' h' tk', MixAt w.params (new ++ tl_2z) D0 vs rs → [i0, i1_2z].Perm (rs.map (·.1)) → (∀ p ∈ new, p.1 ≠ sa) → l ≠ sa → (∀ p ∈ new, ∀ q ∈ rest, q.1 ≠ p.1) → (∀ q ∈ rest, q.1 ≠ l) → 0 ≤ x' → 0 ≤ y' → y' < 2147483647 → Fr h₀ L h' m → News h₀ L h' ((l, listOf vs.toArray nn) :: (sa, listOf #[Value.int x' tx', Value.int y' ty'] n) :: (new ++ rest)) →  Q (.ref l) { s with heap := h', toks := tk' }) →
    wpAny (model Challenge.rw_xw0340_01.row.prog w) (ktrTop dp un gd cn cs L a ccd cl outer) (call (.ref 579) [.ref sa, .ref pl, .int D0.n tn]) Q E s
open Cx in
def mixed2_spec_P [Cx] : Prop := mixed2_spec_S pp w loose mean mg mb dp un gd cn cs a ccd cl outer A₀ base h₀ L m news s Q E rest tl_2z sa pl x y tx ty tn n np_z D0 i0 i1_2z a0 a1
noncomputable def mixed2_spec_C : Cx := Mine.ep neCx (fun c => ¬ @mixed2_spec_P c)
noncomputable instance mixed2_spec_I : Cx := mixed2_spec_C
open Cx in
set_option maxHeartbeats 4000000 in
theorem mixed2_spec_T : mixed2_spec_P := by
  unfold mixed2_spec_P mixed2_spec_S
  k_fill
  intro B F X N T hk hd hu S hap mpl htl hLf hx hy hy2 ret
  refine wpAny_call ?_
  refine' code_part (rw := [(sa, listOf #[Value.int x tx, Value.int y ty] n)]) (ro := rest) (rest := rest) ?k1 ?k2 ?k3 ?k4 ?k5 ?kA ?kF ?kK ?k6 ?k7 ?k8 ?k9 ?kB ?r1 ?r2 ?r3 ?r4 ?_ ?c2 ?c3 ?c4 ?c5
  k_extra "my:enter"
  (case r1 => intro q hq; rw [List.mem_singleton.mp hq]; exact S.mem)
  (case r2 => exact S.sub)
  (case r3 => exact fun q hq => hq)
  (case r4 => intro q hq q' hq'; rw [List.mem_singleton.mp hq]; exact hap q' hq')
  intro g' L' h' FG' F' N' B' X' T' hLt hst
  (try simp only [List.nil_append, List.cons_append] at N' hLt)
  (try dsimp only)
  k_steps
  all_goals (refine' mix_end2 (R := fun l h' tk' => Q (.ref l) { s with heap := h', toks := tk' }) ret ?F ?N ?ml ?ms ?m0 ?m1 ?hs ?H0 ?H1 ?p0 ?p1 ?f0 ?f1 ?fl ?g0 ?g1 ?gl ?b1 ?b2 ?b3; (case F => k_asm); (case N => k_asm); (case ml => first | with_reducible kba_same | kba_same); (case ms => first | with_reducible kba_same | kba_same); (case m0 => first | with_reducible kba_same | kba_same); (case m1 => first | with_reducible kba_same | kba_same); (case hs => kcf_all); (case H0 => with_reducible assumption); (case H1 => with_reducible assumption); (case p0 => with_reducible assumption); (case p1 => with_reducible assumption); (case f0 => (show @Ne Nat _ _; omega)); (case f1 => (show @Ne Nat _ _; omega)); (case fl => (show @Ne Nat _ _; omega)); (case g0 => exact Mine.allLt_ne (by k_extra "my:laany")); (case g1 => exact Mine.allLt_ne (by k_extra "my:laany")); (case gl => exact Mine.allLt_ne (by k_extra "my:laany")); (case b1 => assumption); (case b2 => assumption); (case b3 => assumption))
theorem mixed2_spec : mixed2_spec_S pp w loose mean mg mb dp un gd cn cs a ccd cl outer A₀ base h₀ L m news s Q E rest tl_2z sa pl x y tx ty tn n np_z D0 i0 i1_2z a0 a1 := Mine.ep_all (P := fun c => @mixed2_spec_P c) neCx mixed2_spec_T ⟨(up 0 pp zC0, up 0 w zC1, up 0 loose zC2, up 0 mean zC3, up 0 mg (up 1 mb (up 2 m zC4)), up 0 dp (up 1 un (up 7 n (up 3 np_z (up 11 i0 (up 4 i1_2z zC5))))), up 0 gd zC6, up 0 cn zC7, up 0 cs zC8, up 0 a (up 1 L (up 30 sa (up 8 pl zC9))), up 0 ccd (up 30 a0 (up 31 a1 zC10)), up 0 cl zC11, up 0 outer zC12, up 0 A₀ zC13, up 0 base (up 1 h₀ zC14), up 0 news (up 1 rest (up 10 tl_2z zC15)), up 0 s zC16, up 0 Q (up 1 E zC17), up 85 tx (up 86 ty (up 77 tn zC18)), zC19, zC20, zC21, up 7 x (up 26 y zC22), zC23, zC24, zC25, zC26, zC27, zC28, zC29, zC30, zC31, zC32, zC33, zC34, zC35, zC36, up 0 D0 zC37)⟩ 
def mixed3_spec_S (pp : Program) (w : World) (loose : List Str) (mean : ExcName → Option Value) (mg : Str → Option Value) (mb : Str → Option Value) (dp : Nat) (un : Nat) (gd : Option (List Code)) (cn : Str) (cs : Scope) (a : Addr) (ccd : Value) (cl : List (Str × Addr)) (outer : List Env) (A₀ : Around) (base : Heap) (h₀ : Heap) (L : Addr) (m : Str → Option Value) (news : List (Addr × Obj)) (s : Shared) (Q : Value → Shared → Prop) (E : Value → Shared → Prop) (rest : List (Addr × Obj)) (tl_2z : List (Addr × Obj)) (sa : Addr) (pl : Addr) (x : Int) (y : Int) (tx : Tok) (ty : Tok) (tn : Tok) (n : Nat) (np_z : Nat) (D0 : Dat) (i0 : Nat) (i1_2z : Nat) (i2_2z : Nat) (a0 : Value) (a1 : Value) (a2_2z : Value) : Prop := Below A₀ base outer h₀ → Fr h₀ L s.heap m → (Mine.hd.heap_1 w.params).In h₀ → News h₀ L s.heap news → Top pp loose mean mg mb h₀ → cs.kind = .function → dp < 480 → un < 8800 → 
    Sel sa (listOf #[Value.int x tx, Value.int y ty] n) news rest → (∀ p ∈ rest, p.1 ≠ sa) → (pl, listOf [a0, a1, a2_2z].toArray np_z) ∈ rest → (∀ p ∈ tl_2z, p ∈ rest) → LeftAt w.params tl_2z D0 [a0, a1, a2_2z] [i0, i1_2z, i2_2z] → 0 ≤ x → 0 ≤ y → y < 2147483647 → 
    (∀ l nn vs rs new x' tx' y' ty' h' tk', MixAt w.params (new ++ tl_2z) D0 vs rs → [i0, i1_2z, i2_2z].Perm (rs.map (·.1)) → (∀ p ∈ new, p.1 ≠ sa) → l ≠ sa → (∀ p ∈ new, ∀ q ∈ rest, q.1 ≠ p.1) → (∀ q ∈ rest, q.1 ≠ l) → 0 ≤ x' → 0 ≤ y' → y' < 2147483647 → Fr h₀ L h' m → News h₀ L h' ((l, listOf vs.toArray nn) :: (sa, listOf #[Value.int x' tx', Value.int y' ty'] n) :: (new ++ rest)) →  Q (.ref l) { s with heap := h', toks := tk' }) →
    wpAny (model Challenge.rw_xw0340_01.row.prog w) (ktrTop dp un gd cn cs L a ccd cl outer) (call (.ref 579) [.ref sa, .ref pl, .int D0.n tn]) Q E s
open Cx in
def mixed3_spec_P [Cx] : Prop := mixed3_spec_S pp w loose mean mg mb dp un gd cn cs a ccd cl outer A₀ base h₀ L m news s Q E rest tl_2z sa pl x y tx ty tn n np_z D0 i0 i1_2z i2_2z a0 a1 a2_2z
noncomputable def mixed3_spec_C : Cx := Mine.ep neCx (fun c => ¬ @mixed3_spec_P c)
noncomputable instance mixed3_spec_I : Cx := mixed3_spec_C
open Cx in
set_option maxHeartbeats 4000000 in
theorem mixed3_spec_T : mixed3_spec_P := by
  unfold mixed3_spec_P mixed3_spec_S
  k_fill
  intro B F X N T hk hd hu S hap mpl htl hLf hx hy hy2 ret
  refine wpAny_call ?_
  refine' code_part (rw := [(sa, listOf #[Value.int x tx, Value.int y ty] n)]) (ro := rest) (rest := rest) ?k1 ?k2 ?k3 ?k4 ?k5 ?kA ?kF ?kK ?k6 ?k7 ?k8 ?k9 ?kB ?r1 ?r2 ?r3 ?r4 ?_ ?c2 ?c3 ?c4 ?c5
  k_extra "my:enter"
  (case r1 => intro q hq; rw [List.mem_singleton.mp hq]; exact S.mem)
  (case r2 => exact S.sub)
  (case r3 => exact fun q hq => hq)
  (case r4 => intro q hq q' hq'; rw [List.mem_singleton.mp hq]; exact hap q' hq')
  intro g' L' h' FG' F' N' B' X' T' hLt hst
  (try simp only [List.nil_append, List.cons_append] at N' hLt)
  (try dsimp only)
  k_steps
  all_goals (refine' mix_end3 (R := fun l h' tk' => Q (.ref l) { s with heap := h', toks := tk' }) ret ?F ?N ?ml ?ms ?m0 ?m1 ?m2 ?hs ?H0 ?H1 ?H2 ?p0 ?p1 ?p2 ?f0 ?f1 ?f2 ?fl ?g0 ?g1 ?g2 ?gl ?b1 ?b2 ?b3; (case F => k_asm); (case N => k_asm); (case ml => first | with_reducible kba_same | kba_same); (case ms => first | with_reducible kba_same | kba_same); (case m0 => first | with_reducible kba_same | kba_same); (case m1 => first | with_reducible kba_same | kba_same); (case m2 => first | with_reducible kba_same | kba_same); (case hs => kcf_all); (case H0 => with_reducible assumption); (case H1 => with_reducible assumption); (case H2 => with_reducible assumption); (case p0 => with_reducible assumption); (case p1 => with_reducible assumption); (case p2 => with_reducible assumption); (case f0 => (show @Ne Nat _ _; omega)); (case f1 => (show @Ne Nat _ _; omega)); (case f2 => (show @Ne Nat _ _; omega)); (case fl => (show @Ne Nat _ _; omega)); (case g0 => exact Mine.allLt_ne (by k_extra "my:laany")); (case g1 => exact Mine.allLt_ne (by k_extra "my:laany")); (case g2 => exact Mine.allLt_ne (by k_extra "my:laany")); (case gl => exact Mine.allLt_ne (by k_extra "my:laany")); (case b1 => assumption); (case b2 => assumption); (case b3 => assumption))
theorem mixed3_spec : mixed3_spec_S pp w loose mean mg mb dp un gd cn cs a ccd cl outer A₀ base h₀ L m news s Q E rest tl_2z sa pl x y tx ty tn n np_z D0 i0 i1_2z i2_2z a0 a1 a2_2z := Mine.ep_all (P := fun c => @mixed3_spec_P c) neCx mixed3_spec_T ⟨(up 0 pp zC0, up 0 w zC1, up 0 loose zC2, up 0 mean zC3, up 0 mg (up 1 mb (up 2 m zC4)), up 0 dp (up 1 un (up 7 n (up 3 np_z (up 11 i0 (up 4 i1_2z (up 5 i2_2z zC5)))))), up 0 gd zC6, up 0 cn zC7, up 0 cs zC8, up 0 a (up 1 L (up 30 sa (up 8 pl zC9))), up 0 ccd (up 30 a0 (up 31 a1 (up 2 a2_2z zC10))), up 0 cl zC11, up 0 outer zC12, up 0 A₀ zC13, up 0 base (up 1 h₀ zC14), up 0 news (up 1 rest (up 10 tl_2z zC15)), up 0 s zC16, up 0 Q (up 1 E zC17), up 85 tx (up 86 ty (up 77 tn zC18)), zC19, zC20, zC21, up 7 x (up 26 y zC22), zC23, zC24, zC25, zC26, zC27, zC28, zC29, zC30, zC31, zC32, zC33, zC34, zC35, zC36, up 0 D0 zC37)⟩ 
theorem rows_N01f : True := by
  k_with "my:compareOp NotEq ref ref" => row_timed "f" (k_dflt (refine' Mine.ne_nilC ?N ?l ?b ?u ?_; (case N => k_asm); (case l => k_mem); (case b => k_mem); (case u => k_extra "my:kd")))
  k_with "my:compareOp NotEq ref ref" => row_timed "f" (k_dflt (refine' Mine.ne_nil ?N ?l ?b ?u ?_; (case N => k_asm); (case l => k_mem); (case b => k_mem); (case u => k_extra "my:kd")))
  k_with "my:exec For" => row_timed "f" (((rename Fr _ _ _ _ => lF'); (refine For_turns lF' ?_ (by intro _; rfl) (by passes_own))))
  k_with "my:pyIter ref" => row_timed "f" (((with_reducible show wpAny _ _ (pyIter (Value.ref _)) (fun it s₂ => TurnsAt _ _ _ _ _ _ _ _ _ it s₂) _ _); (rename Fr _ _ _ _ => lF'); (rename News _ _ _ _ => lN'); (refine' Mine.fill_loop [Str.ofString "low", Str.ofString "high", Str.ofString "first", Str.ofString "last"] (by assumption) rfl lF' lN' ?hl ?hr (by assumption) (by assumption) ?_ ?hlt ?hfr ?_; (case hl => k_mem); (case hr => exact fun q hq => (by k_mem)); (case hlt => exact ktn_ltOf (by assumption)); (case hfr => omega)); (all_goals (clear lF' lN')); (all_goals first | (intro i' p' q' t' tp' tq' u' vs' fs' nr' nf' tl' own' h' tk' hi' ha' hlr' hne1' hne2' hn1' hn2' hn3' hv' hf' hoff' hm' hlt' F' N'; (try dsimp only [List.cons_append, List.nil_append] at N')) | (intro u' vs' fs' nr' nf' tl' h' tk' ha' hne' hlr' hv' hf' F' N'; (try dsimp only [List.cons_append, List.nil_append] at N')))))
  k_with "my:TurnPost" => row_timed "f" ((dsimp only [Mine.TurnPost]))
  k_with "my:TurnEnd" => row_timed "f" ((k_dflt first | (refine' Mine.fill_end [_, _, _] ?F ?N ?hi ?hoff ?ha ?hl ?m ?d ?v ?f; (case F => k_asm); (case N => k_asm); (case hi => assumption); (case hoff => assumption); (case ha => assumption); (case hl => assumption); (case m => (intro z hz; (try simp only [List.contains_cons, List.contains_nil, Bool.or_eq_false_iff, Bool.or_false, beq_eq_false_iff_ne, ne_eq] at hz); simp [Mine.stoM, hz])); (case d => (repeat (refine List.forall_mem_cons.mpr ⟨⟨by omega, by omega, by (first | exact Mine.own_n6 (by assumption) | exact Mine.own_n7 (by assumption) | exact Mine.own_n8 (by assumption))⟩, ?_⟩)); exact List.forall_mem_nil _); (case v => (first | rw [Mine.fillStep_a (by assumption)] | rw [Mine.fillStep_b (by assumption) (by assumption) (by assumption)] | rw [Mine.fillStep_c (by assumption) (by assumption) (by assumption)] | rw [Mine.fillStep_d (by assumption) (by assumption) (by assumption)] | rw [Mine.fillStep_e (by assumption) (by assumption) (by assumption)]); (repeat (first | exact Mine.Pairs.mono (fun _ hq => List.mem_append.mpr (.inr hq)) (by assumption) | refine Mine.Pairs.snoc (by dsimp only [List.cons_append, List.nil_append]; k_mem) ?_))); (case f => (first | rw [Mine.fillStep_a (by assumption)] | rw [Mine.fillStep_b (by assumption) (by assumption) (by assumption)] | rw [Mine.fillStep_c (by assumption) (by assumption) (by assumption)] | rw [Mine.fillStep_d (by assumption) (by assumption) (by assumption)] | rw [Mine.fillStep_e (by assumption) (by assumption) (by assumption)]); (repeat (first | exact Mine.Pairs.mono (fun _ hq => List.mem_append.mpr (.inr hq)) (by assumption) | refine Mine.Pairs.snoc (by dsimp only [List.cons_append, List.nil_append]; k_mem) ?_)))) | (refine' Mine.fill_end [_, _] ?F ?N ?hi ?hoff ?ha ?hl ?m ?d ?v ?f; (case F => k_asm); (case N => k_asm); (case hi => assumption); (case hoff => assumption); (case ha => assumption); (case hl => assumption); (case m => (intro z hz; (try simp only [List.contains_cons, List.contains_nil, Bool.or_eq_false_iff, Bool.or_false, beq_eq_false_iff_ne, ne_eq] at hz); simp [Mine.stoM, hz])); (case d => (repeat (refine List.forall_mem_cons.mpr ⟨⟨by omega, by omega, by (first | exact Mine.own_n6 (by assumption) | exact Mine.own_n7 (by assumption) | exact Mine.own_n8 (by assumption))⟩, ?_⟩)); exact List.forall_mem_nil _); (case v => (first | rw [Mine.fillStep_a (by assumption)] | rw [Mine.fillStep_b (by assumption) (by assumption) (by assumption)] | rw [Mine.fillStep_c (by assumption) (by assumption) (by assumption)] | rw [Mine.fillStep_d (by assumption) (by assumption) (by assumption)] | rw [Mine.fillStep_e (by assumption) (by assumption) (by assumption)]); (repeat (first | exact Mine.Pairs.mono (fun _ hq => List.mem_append.mpr (.inr hq)) (by assumption) | refine Mine.Pairs.snoc (by dsimp only [List.cons_append, List.nil_append]; k_mem) ?_))); (case f => (first | rw [Mine.fillStep_a (by assumption)] | rw [Mine.fillStep_b (by assumption) (by assumption) (by assumption)] | rw [Mine.fillStep_c (by assumption) (by assumption) (by assumption)] | rw [Mine.fillStep_d (by assumption) (by assumption) (by assumption)] | rw [Mine.fillStep_e (by assumption) (by assumption) (by assumption)]); (repeat (first | exact Mine.Pairs.mono (fun _ hq => List.mem_append.mpr (.inr hq)) (by assumption) | refine Mine.Pairs.snoc (by dsimp only [List.cons_append, List.nil_append]; k_mem) ?_)))) | (refine' Mine.fill_end [_] ?F ?N ?hi ?hoff ?ha ?hl ?m ?d ?v ?f; (case F => k_asm); (case N => k_asm); (case hi => assumption); (case hoff => assumption); (case ha => assumption); (case hl => assumption); (case m => (intro z hz; (try simp only [List.contains_cons, List.contains_nil, Bool.or_eq_false_iff, Bool.or_false, beq_eq_false_iff_ne, ne_eq] at hz); simp [Mine.stoM, hz])); (case d => (repeat (refine List.forall_mem_cons.mpr ⟨⟨by omega, by omega, by (first | exact Mine.own_n6 (by assumption) | exact Mine.own_n7 (by assumption) | exact Mine.own_n8 (by assumption))⟩, ?_⟩)); exact List.forall_mem_nil _); (case v => (first | rw [Mine.fillStep_a (by assumption)] | rw [Mine.fillStep_b (by assumption) (by assumption) (by assumption)] | rw [Mine.fillStep_c (by assumption) (by assumption) (by assumption)] | rw [Mine.fillStep_d (by assumption) (by assumption) (by assumption)] | rw [Mine.fillStep_e (by assumption) (by assumption) (by assumption)]); (repeat (first | exact Mine.Pairs.mono (fun _ hq => List.mem_append.mpr (.inr hq)) (by assumption) | refine Mine.Pairs.snoc (by dsimp only [List.cons_append, List.nil_append]; k_mem) ?_))); (case f => (first | rw [Mine.fillStep_a (by assumption)] | rw [Mine.fillStep_b (by assumption) (by assumption) (by assumption)] | rw [Mine.fillStep_c (by assumption) (by assumption) (by assumption)] | rw [Mine.fillStep_d (by assumption) (by assumption) (by assumption)] | rw [Mine.fillStep_e (by assumption) (by assumption) (by assumption)]); (repeat (first | exact Mine.Pairs.mono (fun _ hq => List.mem_append.mpr (.inr hq)) (by assumption) | refine Mine.Pairs.snoc (by dsimp only [List.cons_append, List.nil_append]; k_mem) ?_))))))
  trivial
def fill_spec_S (pp : Program) (w : World) (loose : List Str) (mean : ExcName → Option Value) (mg : Str → Option Value) (mb : Str → Option Value) (dp : Nat) (un : Nat) (gd : Option (List Code)) (cn : Str) (cs : Scope) (a : Addr) (ccd : Value) (cl : List (Str × Addr)) (outer : List Env) (A₀ : Around) (base : Heap) (h₀ : Heap) (L : Addr) (m : Str → Option Value) (news : List (Addr × Obj)) (s : Shared) (Q : Value → Shared → Prop) (E : Value → Shared → Prop) (hg : Addr) (ha : Addr) (rl : Addr) (k1 : Tok) (k2 : Tok) (most : Value) (rvs : List Value) (nr : Nat) (rows : Rws) (rest : List (Addr × Obj)) (b : Int) (e : Int) (tb : Tok) (te : Tok) : Prop := Below A₀ base outer h₀ → Fr h₀ L s.heap m → (Mine.hd.heap_1 w.params).In h₀ → News h₀ L s.heap news → Top pp loose mean mg mb h₀ → cs.kind = .function → dp < 495 → un < 8950 → 
    Sel ha (dictOf [leftact% most k1 most, leftact% rows k2 (Value.ref rl)] 2) news rest → (∀ p ∈ rest, p.1 ≠ ha) → (hg, instObj 398 ha) ∈ rest → (rl, listOf rvs.toArray nr) ∈ rest → Pairs rest rvs rows → rows.length ≤ 100 → 
    (∀ fl rl' fvs rvs' nf nr' tl h' tk', @LT.lt Nat _ ha fl → AllLt fl rest → @LT.lt Nat _ fl rl' → (∀ p ∈ tl, @LT.lt Nat _ rl' p.1) → Pairs tl rvs' (rows.foldl (fillStep b e) ([], [])).2 → Pairs tl fvs (rows.foldl (fillStep b e) ([], [])).1 → Fr h₀ L h' m → News h₀ L h' ((ha, dictOf [leftact% most k1 most, leftact% rows k2 (Value.ref rl')] 2) :: (rl', listOf rvs'.toArray nr') :: (fl, listOf fvs.toArray nf) :: (tl ++ rest)) →  Q (.ref fl) { s with heap := h', toks := tk' }) →
    wpAny (model Challenge.rw_xw0340_01.row.prog w) (ktrTop dp un gd cn cs L a ccd cl outer) (call (.ref 374) [.ref hg, .int b tb, .int e te]) Q E s
open Cx in
def fill_spec_P [Cx] : Prop := fill_spec_S pp w loose mean mg mb dp un gd cn cs a ccd cl outer A₀ base h₀ L m news s Q E hg ha rl k1 k2 most rvs nr rows rest b e tb te
noncomputable def fill_spec_C : Cx := Mine.ep neCx (fun c => ¬ @fill_spec_P c)
noncomputable instance fill_spec_I : Cx := fill_spec_C
open Cx in
set_option maxHeartbeats 4000000 in
theorem fill_spec_T : fill_spec_P := by
  unfold fill_spec_P fill_spec_S
  k_fill
  intro B F X N T hk hd hu S hap hS1 hS2 hP hn ret
  refine wpAny_call ?_
  refine' code_part (rw := [(ha, dictOf [leftact% most k1 most, leftact% rows k2 (Value.ref rl)] 2)]) (ro := ((hg, instObj 398 ha) :: (rl, listOf rvs.toArray nr) :: rest)) (rest := rest) ?k1 ?k2 ?k3 ?k4 ?k5 ?kA ?kF ?kK ?k6 ?k7 ?k8 ?k9 ?kB ?r1 ?r2 ?r3 ?r4 ?_ ?c2 ?c3 ?c4 ?c5
  k_extra "my:enter"
  (case r1 => intro q hq; rw [List.mem_singleton.mp hq]; exact S.mem)
  (case r2 => exact S.sub)
  (case r3 => exact List.forall_mem_cons.mpr ⟨hS1, List.forall_mem_cons.mpr ⟨hS2, fun q hq => hq⟩⟩)
  (case r4 => intro q hq q' hq'; rw [List.mem_singleton.mp hq]; exact hap q' hq')
  intro g' L' h' FG' F' N' B' X' T' hLt hst
  (try simp only [List.nil_append, List.cons_append] at N' hLt)
  (try dsimp only)
  have mk : FillArgs ha b e := trivial
  have hn1 := hap _ hS1
  have hn2 := hap _ hS2
  dsimp only at hn1 hn2
  k_steps
  all_goals (refine' ret _ _ _ _ _ _ _ _ _ ?b1 ?b2 ?b3 ?b4 ?b5 ?b6 ?f ?nn; (case f => k_asm); (case nn => exact fill_out (by k_asm)); (case b1 => omega); (case b2 => first | exact Mine.lt_n3 (by assumption) | exact Mine.lt_n4 (by assumption)); (case b3 => omega); (case b4 => assumption); (case b5 => assumption); (case b6 => assumption))
theorem fill_spec : fill_spec_S pp w loose mean mg mb dp un gd cn cs a ccd cl outer A₀ base h₀ L m news s Q E hg ha rl k1 k2 most rvs nr rows rest b e tb te := Mine.ep_all (P := fun c => @fill_spec_P c) neCx fill_spec_T ⟨(up 0 pp zC0, up 0 w zC1, up 0 loose zC2, up 0 mean zC3, up 0 mg (up 1 mb (up 2 m zC4)), up 0 dp (up 1 un (up 2 nr zC5)), up 0 gd zC6, up 0 cn zC7, up 0 cs zC8, up 0 a (up 1 L (up 2 hg (up 3 ha (up 4 rl zC9)))), up 0 ccd (up 1 most zC10), up 0 cl zC11, up 0 outer zC12, up 0 A₀ zC13, up 0 base (up 1 h₀ zC14), up 0 news (up 1 rest zC15), up 0 s zC16, up 0 Q (up 1 E zC17), up 0 k1 (up 1 k2 (up 2 tb (up 3 te zC18))), up 0 rvs zC19, up 0 rows zC20, zC21, up 0 b (up 1 e zC22), zCt23)⟩ 
theorem rows_O01 : True := by
  k_with "my:eval Call Attribute" => row_timed "f" (((with_reducible show wpAny _ _ (eval (Expr.Call (Expr.Attribute _ "fill" _) _ _ _) _) _ _ _); refine MethodCall_ ?_))
  trivial
def end_at_spec_S (pp : Program) (w : World) (loose : List Str) (mean : ExcName → Option Value) (mg : Str → Option Value) (mb : Str → Option Value) (dp : Nat) (un : Nat) (gd : Option (List Code)) (cn : Str) (cs : Scope) (a : Addr) (ccd : Value) (cl : List (Str × Addr)) (outer : List Env) (A₀ : Around) (base : Heap) (h₀ : Heap) (L : Addr) (m : Str → Option Value) (news : List (Addr × Obj)) (s : Shared) (Q : Value → Shared → Prop) (E : Value → Shared → Prop) (hg : Addr) (ha : Addr) (rl : Addr) (k1 : Tok) (k2 : Tok) (M : Int) (e : Int) (tM : Tok) (te : Tok) (rvs : List Value) (nr : Nat) (rows : Rws) (rest : List (Addr × Obj)) : Prop := Below A₀ base outer h₀ → Fr h₀ L s.heap m → (Mine.hd.heap_1 w.params).In h₀ → News h₀ L s.heap news → Top pp loose mean mg mb h₀ → cs.kind = .function → dp < 490 → un < 8900 → 
    Sel ha (dictOf [leftact% most k1 (Value.int M tM), leftact% rows k2 (Value.ref rl)] 2) news rest → (∀ p ∈ rest, p.1 ≠ ha) → (hg, instObj 398 ha) ∈ rest → (rl, listOf rvs.toArray nr) ∈ rest → Pairs rest rvs rows → rows.length ≤ 100 → 
    (∀ rl' rvs' nr' tl h' tk', @LT.lt Nat _ ha rl' → AllLt rl' rest → (∀ p ∈ tl, @LT.lt Nat _ rl' p.1) → Pairs tl rvs' (rows.foldl (fillStep e M) ([], [])).2 → Fr h₀ L h' m → News h₀ L h' ((ha, dictOf [leftact% most k1 (Value.int M tM), leftact% rows k2 (Value.ref rl')] 2) :: (rl', listOf rvs'.toArray nr') :: (tl ++ rest)) →  Q .none { s with heap := h', toks := tk' }) →
    wpAny (model Challenge.rw_xw0340_01.row.prog w) (ktrTop dp un gd cn cs L a ccd cl outer) (call (.ref 381) [.ref hg, .int e te]) Q E s
open Cx in
def end_at_spec_P [Cx] : Prop := end_at_spec_S pp w loose mean mg mb dp un gd cn cs a ccd cl outer A₀ base h₀ L m news s Q E hg ha rl k1 k2 M e tM te rvs nr rows rest
noncomputable def end_at_spec_C : Cx := Mine.ep neCx (fun c => ¬ @end_at_spec_P c)
noncomputable instance end_at_spec_I : Cx := end_at_spec_C
open Cx in
set_option maxHeartbeats 4000000 in
theorem end_at_spec_T : end_at_spec_P := by
  unfold end_at_spec_P end_at_spec_S
  k_fill
  intro B F X N T hk hd hu S hap hS1 hS2 hP hn ret
  refine wpAny_call ?_
  refine' code_part (rw := [(ha, dictOf [leftact% most k1 (Value.int M tM), leftact% rows k2 (Value.ref rl)] 2)]) (ro := ((hg, instObj 398 ha) :: (rl, listOf rvs.toArray nr) :: rest)) (rest := rest) ?k1 ?k2 ?k3 ?k4 ?k5 ?kA ?kF ?kK ?k6 ?k7 ?k8 ?k9 ?kB ?r1 ?r2 ?r3 ?r4 ?_ ?c2 ?c3 ?c4 ?c5
  k_extra "my:enter"
  (case r1 => intro q hq; rw [List.mem_singleton.mp hq]; exact S.mem)
  (case r2 => exact S.sub)
  (case r3 => exact List.forall_mem_cons.mpr ⟨hS1, List.forall_mem_cons.mpr ⟨hS2, fun q hq => hq⟩⟩)
  (case r4 => intro q hq q' hq'; rw [List.mem_singleton.mp hq]; exact hap q' hq')
  intro g' L' h' FG' F' N' B' X' T' hLt hst
  (try simp only [List.nil_append, List.cons_append] at N' hLt)
  (try dsimp only)
  have hn1 := hap _ hS1
  have hn2 := hap _ hS2
  dsimp only at hn1 hn2
  k_steps
  all_goals (refine' ret _ _ _ _ _ _ ?b1 ?b2 ?b3 ?b4 ?f ?nn; (case f => k_asm); (case nn => exact endat_out (by k_asm)); (case b1 => omega); (case b2 => exact endat_lt (by assumption) (by assumption)); (case b3 => assumption); (case b4 => assumption))
theorem end_at_spec : end_at_spec_S pp w loose mean mg mb dp un gd cn cs a ccd cl outer A₀ base h₀ L m news s Q E hg ha rl k1 k2 M e tM te rvs nr rows rest := Mine.ep_all (P := fun c => @end_at_spec_P c) neCx end_at_spec_T ⟨(up 0 pp zC0, up 0 w zC1, up 0 loose zC2, up 0 mean zC3, up 0 mg (up 1 mb (up 2 m zC4)), up 0 dp (up 1 un (up 2 nr zC5)), up 0 gd zC6, up 0 cn zC7, up 0 cs zC8, up 0 a (up 1 L (up 2 hg (up 3 ha (up 4 rl zC9)))), up 0 ccd zC10, up 0 cl zC11, up 0 outer zC12, up 0 A₀ zC13, up 0 base (up 1 h₀ zC14), up 0 news (up 1 rest zC15), up 0 s zC16, up 0 Q (up 1 E zC17), up 0 k1 (up 1 k2 (up 4 tM (up 3 te zC18))), up 0 rvs zC19, up 0 rows zC20, zC21, up 2 M (up 1 e zC22), zCt23)⟩ 
def hwhole_spec_S (pp : Program) (w : World) (loose : List Str) (mean : ExcName → Option Value) (mg : Str → Option Value) (mb : Str → Option Value) (dp : Nat) (un : Nat) (gd : Option (List Code)) (cn : Str) (cs : Scope) (a : Addr) (ccd : Value) (cl : List (Str × Addr)) (outer : List Env) (A₀ : Around) (base : Heap) (h₀ : Heap) (L : Addr) (m : Str → Option Value) (news : List (Addr × Obj)) (s : Shared) (Q : Value → Shared → Prop) (E : Value → Shared → Prop) (hg : Addr) (ha : Addr) (rl : Addr) (k1 : Tok) (k2 : Tok) (most : Value) (rvs : List Value) (nr : Nat) : Prop := Below A₀ base outer h₀ → Fr h₀ L s.heap m → (Mine.hd.heap_1 w.params).In h₀ → News h₀ L s.heap news → Top pp loose mean mg mb h₀ → cs.kind = .function → dp < 495 → un < 8950 → 
    (ha, dictOf [leftact% most k1 most, leftact% rows k2 (Value.ref rl)] 2) ∈ news → (hg, instObj 398 ha) ∈ news → (rl, listOf rvs.toArray nr) ∈ news → 
    (∀  h' tk',  Fr h₀ L h' m → News h₀ L h' (news) →  Q (.bool rvs.isEmpty) { s with heap := h', toks := tk' }) →
    wpAny (model Challenge.rw_xw0340_01.row.prog w) (ktrTop dp un gd cn cs L a ccd cl outer) (call (.ref 395) [.ref hg]) Q E s
open Cx in
def hwhole_spec_P [Cx] : Prop := ∀ (rvs : List Value), hwhole_spec_S pp w loose mean mg mb dp un gd cn cs a ccd cl outer A₀ base h₀ L m news s Q E hg ha rl k1 k2 most rvs nr
noncomputable def hwhole_spec_C : Cx := Mine.ep neCx (fun c => ¬ @hwhole_spec_P c)
noncomputable instance hwhole_spec_I : Cx := hwhole_spec_C
open Cx in
set_option maxHeartbeats 4000000 in
theorem hwhole_spec_T : hwhole_spec_P := by
  unfold hwhole_spec_P hwhole_spec_S
  intro rvs
  k_fill
  intro B F X N T hk hd hu hS0 hS1 hS2 ret
  refine wpAny_call ?_
  refine' code_part (rw := []) (ro := [(ha, dictOf [leftact% most k1 most, leftact% rows k2 (Value.ref rl)] 2), (hg, instObj 398 ha), (rl, listOf rvs.toArray nr)]) (rest := news) ?k1 ?k2 ?k3 ?k4 ?k5 ?kA ?kF ?kK ?k6 ?k7 ?k8 ?k9 ?kB ?r1 ?r2 ?r3 ?r4 ?_ ?c2 ?c3 ?c4 ?c5
  k_extra "my:enter"
  (case r1 => intro q hq; cases hq)
  (case r2 => exact fun q hq => hq)
  (case r3 => exact List.forall_mem_cons.mpr ⟨hS0, List.forall_mem_cons.mpr ⟨hS1, List.forall_mem_cons.mpr ⟨hS2, List.forall_mem_nil _⟩⟩⟩)
  (case r4 => intro q hq; cases hq)
  intro g' L' h' FG' F' N' B' X' T' hLt hst
  (try simp only [List.nil_append, List.cons_append] at N' hLt)
  (try dsimp only)
  cases rvs
  all_goals k_steps
  all_goals (rename (News _ _ _ _ → News _ _ _ _) => hR)
  all_goals (refine' ret _ _ ?f ?nn; (case f => k_asm); (case nn => exact hR (newsl (by k_asm) (by k_subL))))
theorem hwhole_spec : hwhole_spec_S pp w loose mean mg mb dp un gd cn cs a ccd cl outer A₀ base h₀ L m news s Q E hg ha rl k1 k2 most rvs nr := Mine.ep_all (P := fun c => @hwhole_spec_P c) neCx hwhole_spec_T ⟨(up 0 pp zC0, up 0 w zC1, up 0 loose zC2, up 0 mean zC3, up 0 mg (up 1 mb (up 2 m zC4)), up 0 dp (up 1 un (up 2 nr zC5)), up 0 gd zC6, up 0 cn zC7, up 0 cs zC8, up 0 a (up 1 L (up 2 hg (up 3 ha (up 4 rl zC9)))), up 0 ccd (up 1 most zC10), up 0 cl zC11, up 0 outer zC12, up 0 A₀ zC13, up 0 base (up 1 h₀ zC14), up 0 news zC15, up 0 s zC16, up 0 Q (up 1 E zC17), up 0 k1 (up 1 k2 zC18), zCt19)⟩ rvs
def reach_spec_S (pp : Program) (w : World) (loose : List Str) (mean : ExcName → Option Value) (mg : Str → Option Value) (mb : Str → Option Value) (dp : Nat) (un : Nat) (gd : Option (List Code)) (cn : Str) (cs : Scope) (a : Addr) (ccd : Value) (cl : List (Str × Addr)) (outer : List Env) (A₀ : Around) (base : Heap) (h₀ : Heap) (L : Addr) (m : Str → Option Value) (news : List (Addr × Obj)) (s : Shared) (Q : Value → Shared → Prop) (E : Value → Shared → Prop) (hg : Addr) (ha : Addr) (rl : Addr) (t : Addr) (k1 : Tok) (k2 : Tok) (M : Int) (a2 : Int) (tM : Tok) (ta : Tok) (tb : Tok) (vs : List Value) (nr : Nat) : Prop := Below A₀ base outer h₀ → Fr h₀ L s.heap m → (Mine.hd.heap_1 w.params).In h₀ → News h₀ L s.heap news → Top pp loose mean mg mb h₀ → cs.kind = .function → dp < 495 → un < 8950 → 
    (ha, dictOf [leftact% most k1 (Value.int M tM), leftact% rows k2 (Value.ref rl)] 2) ∈ news → (hg, instObj 398 ha) ∈ news → (rl, listOf (vs ++ [Value.ref t]).toArray nr) ∈ news → (t, pairObj a2 ta M tb) ∈ news → 
    (∀  h' tk',  Fr h₀ L h' m → News h₀ L h' (news) →  Q (.int a2 ta) { s with heap := h', toks := tk' }) →
    wpAny (model Challenge.rw_xw0340_01.row.prog w) (ktrTop dp un gd cn cs L a ccd cl outer) (call (.ref 388) [.ref hg]) Q E s
open Cx in
def reach_spec_P [Cx] : Prop := reach_spec_S pp w loose mean mg mb dp un gd cn cs a ccd cl outer A₀ base h₀ L m news s Q E hg ha rl t k1 k2 M a2 tM ta tb vs nr
noncomputable def reach_spec_C : Cx := Mine.ep neCx (fun c => ¬ @reach_spec_P c)
noncomputable instance reach_spec_I : Cx := reach_spec_C
open Cx in
set_option maxHeartbeats 4000000 in
theorem reach_spec_T : reach_spec_P := by
  unfold reach_spec_P reach_spec_S
  k_fill
  intro B F X N T hk hd hu hS0 hS1 hS2 hS3 ret
  refine wpAny_call ?_
  refine' code_part (rw := []) (ro := [(ha, dictOf [leftact% most k1 (Value.int M tM), leftact% rows k2 (Value.ref rl)] 2), (hg, instObj 398 ha), (rl, listOf (vs ++ [Value.ref t]).toArray nr), (t, pairObj a2 ta M tb)]) (rest := news) ?k1 ?k2 ?k3 ?k4 ?k5 ?kA ?kF ?kK ?k6 ?k7 ?k8 ?k9 ?kB ?r1 ?r2 ?r3 ?r4 ?_ ?c2 ?c3 ?c4 ?c5
  k_extra "my:enter"
  (case r1 => intro q hq; cases hq)
  (case r2 => exact fun q hq => hq)
  (case r3 => exact List.forall_mem_cons.mpr ⟨hS0, List.forall_mem_cons.mpr ⟨hS1, List.forall_mem_cons.mpr ⟨hS2, List.forall_mem_cons.mpr ⟨hS3, List.forall_mem_nil _⟩⟩⟩⟩)
  (case r4 => intro q hq; cases hq)
  intro g' L' h' FG' F' N' B' X' T' hLt hst
  (try simp only [List.nil_append, List.cons_append] at N' hLt)
  (try dsimp only)
  k_steps
  all_goals (rename (News _ _ _ _ → News _ _ _ _) => hR)
  all_goals first | (exfalso; omega) | (refine' ret _ _ ?f ?nn; (case f => k_asm); (case nn => exact hR (newsl (by k_asm) (by k_subL))))
theorem reach_spec : reach_spec_S pp w loose mean mg mb dp un gd cn cs a ccd cl outer A₀ base h₀ L m news s Q E hg ha rl t k1 k2 M a2 tM ta tb vs nr := Mine.ep_all (P := fun c => @reach_spec_P c) neCx reach_spec_T ⟨(up 0 pp zC0, up 0 w zC1, up 0 loose zC2, up 0 mean zC3, up 0 mg (up 1 mb (up 2 m zC4)), up 0 dp (up 1 un (up 2 nr zC5)), up 0 gd zC6, up 0 cn zC7, up 0 cs zC8, up 0 a (up 1 L (up 2 hg (up 3 ha (up 4 rl (up 5 t zC9))))), up 0 ccd zC10, up 0 cl zC11, up 0 outer zC12, up 0 A₀ zC13, up 0 base (up 1 h₀ zC14), up 0 news zC15, up 0 s zC16, up 0 Q (up 1 E zC17), up 0 k1 (up 1 k2 (up 4 tM (up 5 ta (up 2 tb zC18)))), up 1 vs zC19, zC20, zC21, up 2 M (up 3 a2 zC22), zCt23)⟩ 
theorem rows_T01 : True := by
  k_with "my:eval Call Attribute" => row_timed "f" (((with_reducible show wpAny _ _ (eval (Expr.Call (Expr.Attribute _ "reach" _) _ _ _) _) _ _ _); refine MethodCall_ ?_))
  trivial
def against_a_S (pp : Program) (w : World) (loose : List Str) (mean : ExcName → Option Value) (mg : Str → Option Value) (mb : Str → Option Value) (dp : Nat) (un : Nat) (gd : Option (List Code)) (cn : Str) (cs : Scope) (a : Addr) (ccd : Value) (cl : List (Str × Addr)) (outer : List Env) (A₀ : Around) (base : Heap) (h₀ : Heap) (L : Addr) (m : Str → Option Value) (news : List (Addr × Obj)) (s : Shared) (Q : Value → Shared → Prop) (E : Value → Shared → Prop) (d : Addr) (da : Addr) (hg : Addr) (pl : Addr) (fv : Value) (g1 : Tok) (g2 : Tok) (g3 : Tok) (g4 : Tok) (g5 : Tok) (g6 : Tok) (g7 : Tok) (g8 : Tok) (tb : Tok) (tM : Tok) (tA : Tok) (tS : Tok) (began : Int) (ahead : Int) (size : Int) (b : Int) (e : Int) (tbb : Tok) (tee : Tok) : Prop := Below A₀ base outer h₀ → Fr h₀ L s.heap m → (Mine.hd.heap_1 w.params).In h₀ → News h₀ L s.heap news → Top pp loose mean mg mb h₀ → cs.kind = .function → dp < 490 → un < 8900 → 
    (da, dictOf [leftact% began g1 (Value.int began tb), leftact% most g2 (Value.int 65535 tM), leftact% holes g3 (Value.ref hg), leftact% parts g4 (Value.ref pl), leftact% «end» g5 Value.none, leftact% ahead g6 (Value.int ahead tA), leftact% first g7 fv, leftact% size g8 (Value.int size tS)] 8) ∈ news → (d, instObj 452 da) ∈ news → e ≤ 65535 → 
    (∀  h' tk',  Fr h₀ L h' m → News h₀ L h' (news) →  Q (.bool false) { s with heap := h', toks := tk' }) →
    wpAny (model Challenge.rw_xw0340_01.row.prog w) (ktrTop dp un gd cn cs L a ccd cl outer) (call (.ref 423) [.ref d, .int b tbb, .int e tee, .bool true]) Q E s
open Cx in
def against_a_P [Cx] : Prop := against_a_S pp w loose mean mg mb dp un gd cn cs a ccd cl outer A₀ base h₀ L m news s Q E d da hg pl fv g1 g2 g3 g4 g5 g6 g7 g8 tb tM tA tS began ahead size b e tbb tee
noncomputable def against_a_C : Cx := Mine.ep neCx (fun c => ¬ @against_a_P c)
noncomputable instance against_a_I : Cx := against_a_C
open Cx in
set_option maxHeartbeats 4000000 in
theorem against_a_T : against_a_P := by
  unfold against_a_P against_a_S
  k_fill
  intro B F X N T hk hd hu hS0 hS1 he  ret
  refine wpAny_call ?_
  refine' code_part (rw := []) (ro := [(da, dictOf [leftact% began g1 (Value.int began tb), leftact% most g2 (Value.int 65535 tM), leftact% holes g3 (Value.ref hg), leftact% parts g4 (Value.ref pl), leftact% «end» g5 Value.none, leftact% ahead g6 (Value.int ahead tA), leftact% first g7 fv, leftact% size g8 (Value.int size tS)] 8), (d, instObj 452 da)]) (rest := news) ?k1 ?k2 ?k3 ?k4 ?k5 ?kA ?kF ?kK ?k6 ?k7 ?k8 ?k9 ?kB ?r1 ?r2 ?r3 ?r4 ?_ ?c2 ?c3 ?c4 ?c5
  k_extra "my:enter"
  (case r1 => intro q hq; cases hq)
  (case r2 => exact fun q hq => hq)
  (case r3 => exact List.forall_mem_cons.mpr ⟨hS0, List.forall_mem_cons.mpr ⟨hS1, List.forall_mem_nil _⟩⟩)
  (case r4 => intro q hq; cases hq)
  intro g' L' h' FG' F' N' B' X' T' hLt hst
  (try simp only [List.nil_append, List.cons_append] at N' hLt)
  (try dsimp only)
  k_steps
  all_goals (rename (News _ _ _ _ → News _ _ _ _) => hR)
  all_goals first | (exfalso; omega) | ((try rw [decide_eq_false (by omega)]); refine' ret _ _ ?f ?nn; (case f => k_asm); (case nn => exact hR (newsl (by k_asm) (by k_subL))))
theorem against_a : against_a_S pp w loose mean mg mb dp un gd cn cs a ccd cl outer A₀ base h₀ L m news s Q E d da hg pl fv g1 g2 g3 g4 g5 g6 g7 g8 tb tM tA tS began ahead size b e tbb tee := Mine.ep_all (P := fun c => @against_a_P c) neCx against_a_T ⟨(up 0 pp zC0, up 0 w zC1, up 0 loose zC2, up 0 mean zC3, up 0 mg (up 1 mb (up 2 m zC4)), up 0 dp (up 1 un zC5), up 0 gd zC6, up 0 cn zC7, up 0 cs zC8, up 0 a (up 1 L (up 6 d (up 7 da (up 2 hg (up 8 pl zC9))))), up 0 ccd (up 3 fv zC10), up 0 cl zC11, up 0 outer zC12, up 0 A₀ zC13, up 0 base (up 1 h₀ zC14), up 0 news zC15, up 0 s zC16, up 0 Q (up 1 E zC17), up 6 g1 (up 7 g2 (up 8 g3 (up 9 g4 (up 10 g5 (up 11 g6 (up 12 g7 (up 13 g8 (up 2 tb (up 4 tM (up 14 tA (up 15 tS (up 16 tbb (up 17 tee zC18))))))))))))), zC19, zC20, zC21, up 4 began (up 5 ahead (up 6 size (up 0 b (up 1 e zC22)))), zCt23)⟩ 
def against_b_S (pp : Program) (w : World) (loose : List Str) (mean : ExcName → Option Value) (mg : Str → Option Value) (mb : Str → Option Value) (dp : Nat) (un : Nat) (gd : Option (List Code)) (cn : Str) (cs : Scope) (a : Addr) (ccd : Value) (cl : List (Str × Addr)) (outer : List Env) (A₀ : Around) (base : Heap) (h₀ : Heap) (L : Addr) (m : Str → Option Value) (news : List (Addr × Obj)) (s : Shared) (Q : Value → Shared → Prop) (E : Value → Shared → Prop) (d : Addr) (da : Addr) (hg : Addr) (pl : Addr) (fv : Value) (g1 : Tok) (g2 : Tok) (g3 : Tok) (g4 : Tok) (g5 : Tok) (g6 : Tok) (g7 : Tok) (g8 : Tok) (tb : Tok) (tM : Tok) (te : Tok) (tA : Tok) (tS : Tok) (began : Int) (ahead : Int) (size : Int) (b : Int) (e : Int) (x : Int) (tbb : Tok) (tee : Tok) : Prop := Below A₀ base outer h₀ → Fr h₀ L s.heap m → (Mine.hd.heap_1 w.params).In h₀ → News h₀ L s.heap news → Top pp loose mean mg mb h₀ → cs.kind = .function → dp < 490 → un < 8900 → 
    (da, dictOf [leftact% began g1 (Value.int began tb), leftact% most g2 (Value.int 65535 tM), leftact% holes g3 (Value.ref hg), leftact% parts g4 (Value.ref pl), leftact% «end» g5 (Value.int x te), leftact% ahead g6 (Value.int ahead tA), leftact% first g7 fv, leftact% size g8 (Value.int size tS)] 8) ∈ news → (d, instObj 452 da) ∈ news → e ≤ 65535 → e < x → 
    (∀  h' tk',  Fr h₀ L h' m → News h₀ L h' (news) →  Q (.bool false) { s with heap := h', toks := tk' }) →
    wpAny (model Challenge.rw_xw0340_01.row.prog w) (ktrTop dp un gd cn cs L a ccd cl outer) (call (.ref 423) [.ref d, .int b tbb, .int e tee, .bool true]) Q E s
open Cx in
def against_b_P [Cx] : Prop := against_b_S pp w loose mean mg mb dp un gd cn cs a ccd cl outer A₀ base h₀ L m news s Q E d da hg pl fv g1 g2 g3 g4 g5 g6 g7 g8 tb tM te tA tS began ahead size b e x tbb tee
noncomputable def against_b_C : Cx := Mine.ep neCx (fun c => ¬ @against_b_P c)
noncomputable instance against_b_I : Cx := against_b_C
open Cx in
set_option maxHeartbeats 4000000 in
theorem against_b_T : against_b_P := by
  unfold against_b_P against_b_S
  k_fill
  intro B F X N T hk hd hu hS0 hS1 he hx ret
  refine wpAny_call ?_
  refine' code_part (rw := []) (ro := [(da, dictOf [leftact% began g1 (Value.int began tb), leftact% most g2 (Value.int 65535 tM), leftact% holes g3 (Value.ref hg), leftact% parts g4 (Value.ref pl), leftact% «end» g5 (Value.int x te), leftact% ahead g6 (Value.int ahead tA), leftact% first g7 fv, leftact% size g8 (Value.int size tS)] 8), (d, instObj 452 da)]) (rest := news) ?k1 ?k2 ?k3 ?k4 ?k5 ?kA ?kF ?kK ?k6 ?k7 ?k8 ?k9 ?kB ?r1 ?r2 ?r3 ?r4 ?_ ?c2 ?c3 ?c4 ?c5
  k_extra "my:enter"
  (case r1 => intro q hq; cases hq)
  (case r2 => exact fun q hq => hq)
  (case r3 => exact List.forall_mem_cons.mpr ⟨hS0, List.forall_mem_cons.mpr ⟨hS1, List.forall_mem_nil _⟩⟩)
  (case r4 => intro q hq; cases hq)
  intro g' L' h' FG' F' N' B' X' T' hLt hst
  (try simp only [List.nil_append, List.cons_append] at N' hLt)
  (try dsimp only)
  k_steps
  all_goals (rename (News _ _ _ _ → News _ _ _ _) => hR)
  all_goals first | (exfalso; omega) | ((try rw [decide_eq_false (by omega)]); refine' ret _ _ ?f ?nn; (case f => k_asm); (case nn => exact hR (newsl (by k_asm) (by k_subL))))
theorem against_b : against_b_S pp w loose mean mg mb dp un gd cn cs a ccd cl outer A₀ base h₀ L m news s Q E d da hg pl fv g1 g2 g3 g4 g5 g6 g7 g8 tb tM te tA tS began ahead size b e x tbb tee := Mine.ep_all (P := fun c => @against_b_P c) neCx against_b_T ⟨(up 0 pp zC0, up 0 w zC1, up 0 loose zC2, up 0 mean zC3, up 0 mg (up 1 mb (up 2 m zC4)), up 0 dp (up 1 un zC5), up 0 gd zC6, up 0 cn zC7, up 0 cs zC8, up 0 a (up 1 L (up 6 d (up 7 da (up 2 hg (up 8 pl zC9))))), up 0 ccd (up 3 fv zC10), up 0 cl zC11, up 0 outer zC12, up 0 A₀ zC13, up 0 base (up 1 h₀ zC14), up 0 news zC15, up 0 s zC16, up 0 Q (up 1 E zC17), up 6 g1 (up 7 g2 (up 8 g3 (up 9 g4 (up 10 g5 (up 11 g6 (up 12 g7 (up 13 g8 (up 2 tb (up 4 tM (up 3 te (up 14 tA (up 15 tS (up 16 tbb (up 17 tee zC18)))))))))))))), zC19, zC20, zC21, up 4 began (up 5 ahead (up 6 size (up 0 b (up 1 e (up 7 x zC22))))), zCt23)⟩ 
def against_c_S (pp : Program) (w : World) (loose : List Str) (mean : ExcName → Option Value) (mg : Str → Option Value) (mb : Str → Option Value) (dp : Nat) (un : Nat) (gd : Option (List Code)) (cn : Str) (cs : Scope) (a : Addr) (ccd : Value) (cl : List (Str × Addr)) (outer : List Env) (A₀ : Around) (base : Heap) (h₀ : Heap) (L : Addr) (m : Str → Option Value) (news : List (Addr × Obj)) (s : Shared) (Q : Value → Shared → Prop) (E : Value → Shared → Prop) (d : Addr) (da : Addr) (hg : Addr) (ha : Addr) (rl : Addr) (pl : Addr) (t : Addr) (vs : List Value) (nr : Nat) (fv : Value) (g1 : Tok) (g2 : Tok) (g3 : Tok) (g4 : Tok) (g5 : Tok) (g6 : Tok) (g7 : Tok) (g8 : Tok) (k1 : Tok) (k2 : Tok) (tb : Tok) (tM : Tok) (tM2 : Tok) (tA : Tok) (tS : Tok) (ta1 : Tok) (ta2 : Tok) (began : Int) (ahead : Int) (size : Int) (a2 : Int) (b : Int) (e : Int) (tbb : Tok) (tee : Tok) : Prop := Below A₀ base outer h₀ → Fr h₀ L s.heap m → (Mine.hd.heap_1 w.params).In h₀ → News h₀ L s.heap news → Top pp loose mean mg mb h₀ → cs.kind = .function → dp < 490 → un < 8900 → 
    (da, dictOf [leftact% began g1 (Value.int began tb), leftact% most g2 (Value.int 65535 tM), leftact% holes g3 (Value.ref hg), leftact% parts g4 (Value.ref pl), leftact% «end» g5 Value.none, leftact% ahead g6 (Value.int ahead tA), leftact% first g7 fv, leftact% size g8 (Value.int size tS)] 8) ∈ news → (d, instObj 452 da) ∈ news → (ha, dictOf [leftact% most k1 (Value.int 65535 tM2), leftact% rows k2 (Value.ref rl)] 2) ∈ news → (hg, instObj 398 ha) ∈ news → (rl, listOf (vs ++ [Value.ref t]).toArray nr) ∈ news → (t, pairObj a2 ta1 65535 ta2) ∈ news → e ≤ 65535 → a2 ≤ e → ¬ (ahead ≥ e ∧ e > 0) → 
    (∀  h' tk',  Fr h₀ L h' m → News h₀ L h' (news) →  Q (.bool false) { s with heap := h', toks := tk' }) →
    wpAny (model Challenge.rw_xw0340_01.row.prog w) (ktrTop dp un gd cn cs L a ccd cl outer) (call (.ref 423) [.ref d, .int b tbb, .int e tee, .bool false]) Q E s
open Cx in
def against_c_P [Cx] : Prop := against_c_S pp w loose mean mg mb dp un gd cn cs a ccd cl outer A₀ base h₀ L m news s Q E d da hg ha rl pl t vs nr fv g1 g2 g3 g4 g5 g6 g7 g8 k1 k2 tb tM tM2 tA tS ta1 ta2 began ahead size a2 b e tbb tee
noncomputable def against_c_C : Cx := Mine.ep neCx (fun c => ¬ @against_c_P c)
noncomputable instance against_c_I : Cx := against_c_C
open Cx in
set_option maxHeartbeats 4000000 in
theorem against_c_T : against_c_P := by
  unfold against_c_P against_c_S
  k_fill
  intro B F X N T hk hd hu hS0 hS1 hS2 hS3 hS4 hS5 he hrr hah ret
  refine wpAny_call ?_
  refine' code_part (rw := []) (ro := [(da, dictOf [leftact% began g1 (Value.int began tb), leftact% most g2 (Value.int 65535 tM), leftact% holes g3 (Value.ref hg), leftact% parts g4 (Value.ref pl), leftact% «end» g5 Value.none, leftact% ahead g6 (Value.int ahead tA), leftact% first g7 fv, leftact% size g8 (Value.int size tS)] 8), (d, instObj 452 da), (ha, dictOf [leftact% most k1 (Value.int 65535 tM2), leftact% rows k2 (Value.ref rl)] 2), (hg, instObj 398 ha), (rl, listOf (vs ++ [Value.ref t]).toArray nr), (t, pairObj a2 ta1 65535 ta2)]) (rest := news) ?k1 ?k2 ?k3 ?k4 ?k5 ?kA ?kF ?kK ?k6 ?k7 ?k8 ?k9 ?kB ?r1 ?r2 ?r3 ?r4 ?_ ?c2 ?c3 ?c4 ?c5
  k_extra "my:enter"
  (case r1 => intro q hq; cases hq)
  (case r2 => exact fun q hq => hq)
  (case r3 => exact List.forall_mem_cons.mpr ⟨hS0, List.forall_mem_cons.mpr ⟨hS1, List.forall_mem_cons.mpr ⟨hS2, List.forall_mem_cons.mpr ⟨hS3, List.forall_mem_cons.mpr ⟨hS4, List.forall_mem_cons.mpr ⟨hS5, List.forall_mem_nil _⟩⟩⟩⟩⟩⟩)
  (case r4 => intro q hq; cases hq)
  intro g' L' h' FG' F' N' B' X' T' hLt hst
  (try simp only [List.nil_append, List.cons_append] at N' hLt)
  (try dsimp only)
  k_steps
  all_goals (rename (News _ _ _ _ → News _ _ _ _) => hR)
  all_goals first | (exfalso; omega) | ((try rw [decide_eq_false (by omega)]); refine' ret _ _ ?f ?nn; (case f => k_asm); (case nn => exact hR (newsl (by k_asm) (by k_subL))))
theorem against_c : against_c_S pp w loose mean mg mb dp un gd cn cs a ccd cl outer A₀ base h₀ L m news s Q E d da hg ha rl pl t vs nr fv g1 g2 g3 g4 g5 g6 g7 g8 k1 k2 tb tM tM2 tA tS ta1 ta2 began ahead size a2 b e tbb tee := Mine.ep_all (P := fun c => @against_c_P c) neCx against_c_T ⟨(up 0 pp zC0, up 0 w zC1, up 0 loose zC2, up 0 mean zC3, up 0 mg (up 1 mb (up 2 m zC4)), up 0 dp (up 1 un (up 2 nr zC5)), up 0 gd zC6, up 0 cn zC7, up 0 cs zC8, up 0 a (up 1 L (up 6 d (up 7 da (up 2 hg (up 3 ha (up 4 rl (up 8 pl (up 5 t zC9)))))))), up 0 ccd (up 3 fv zC10), up 0 cl zC11, up 0 outer zC12, up 0 A₀ zC13, up 0 base (up 1 h₀ zC14), up 0 news zC15, up 0 s zC16, up 0 Q (up 1 E zC17), up 6 g1 (up 7 g2 (up 8 g3 (up 9 g4 (up 10 g5 (up 11 g6 (up 12 g7 (up 13 g8 (up 0 k1 (up 1 k2 (up 2 tb (up 4 tM (up 18 tM2 (up 14 tA (up 15 tS (up 19 ta1 (up 20 ta2 (up 16 tbb (up 17 tee zC18)))))))))))))))))), up 1 vs zC19, zC20, zC21, up 4 began (up 5 ahead (up 6 size (up 3 a2 (up 0 b (up 1 e zC22))))), zCt23)⟩ 
theorem against_m {pp : Program} {w : World} {loose : List Str} {mean : ExcName → Option Value} {mg mb : Str → Option Value} {dp un : Nat} {gd : Option (List Code)} {cn : Str} {cs : Scope} {a : Addr} {ccd : Value} {cl : List (Str × Addr)} {outer : List Env} {A₀ : Around} {base h₀ : Heap} {L : Addr} {m : Str → Option Value} {news : List (Addr × Obj)} {s : Shared} {Q E : Value → Shared → Prop} {d da hg pl : Addr} {fin : Option Int} {fv : Value} {g1 g2 g3 g4 g5 g6 g7 g8 tb tM te tA tS : Tok} {began ahead size b e : Int} {tbb tee : Tok} :
    Below A₀ base outer h₀ → Fr h₀ L s.heap m → (Mine.hd.heap_1 w.params).In h₀ → News h₀ L s.heap news → Top pp loose mean mg mb h₀ → cs.kind = .function → dp < 490 → un < 8900 →
    (da, dictOf [leftact% began g1 (Value.int began tb), leftact% most g2 (Value.int 65535 tM), leftact% holes g3 (Value.ref hg), leftact% parts g4 (Value.ref pl), leftact% «end» g5 (finV fin te), leftact% ahead g6 (Value.int ahead tA), leftact% first g7 fv, leftact% size g8 (Value.int size tS)] 8) ∈ news → (d, instObj 452 da) ∈ news → e ≤ 65535 → (∀ x, fin = some x → e < x) →
    (∀ h' tk', Fr h₀ L h' m → News h₀ L h' news → Q (.bool false) { s with heap := h', toks := tk' }) →
    wpAny (model Challenge.rw_xw0340_01.row.prog w) (ktrTop dp un gd cn cs L a ccd cl outer) (call (.ref 423) [.ref d, .int b tbb, .int e tee, .bool true]) Q E s := by
  intros B F X N T hk hd hu m1 m2 he hx ret
  cases fin with
  | none => exact against_a B F X N T hk hd hu m1 m2 he ret
  | some x => exact against_b B F X N T hk hd hu m1 m2 he (hx x rfl) ret
theorem rows_V01m : True := by
  k_with "my:call builtin:len" => row_timed "f" ((k_here; (with_reducible show wpAny _ _ (call (Value.builtin "len") [Value.bytes _ _]) _ _ _); k_dflt (refine' Mine.len_By ?z ?_; (case z => first | omega | decide))))
  k_with "my:subscriptTail" => row_timed "f" ((k_here; (with_reducible show wpAny _ _ (subscriptTail _ (Expr.Slice _ _ none _) (Value.bytes _ _) (Value.ref _)) _ _ _); (with_reducible rename Fr _ _ _ _ => F'); (with_reducible rename News _ _ _ _ => N'); (refine Mine.slice_By (s := ⟨_, _, _, _, _⟩) F' N' (by constructor) (by constructor) (by omega) ?_ (by with_unfolding_all rfl) (by intro _; with_unfolding_all rfl)); intro _ _ _ _ _))
  k_with "my:eval Call Attribute" => row_timed "f" (((with_reducible show wpAny _ _ (eval (Expr.Call (Expr.Attribute _ "fill" _) _ _ _) _) _ _ _); refine MethodCall_ ?_))
  k_with "my:eval Call Attribute" => row_timed "f" (((with_reducible show wpAny _ _ (eval (Expr.Call (Expr.Attribute _ "end_at" _) _ _ _) _) _ _ _); refine MethodCall_ ?_))
  k_with "my:eval Call Attribute" => row_timed "f" (((with_reducible show wpAny _ _ (eval (Expr.Call (Expr.Attribute _ "is_against" _) _ _ _) _) _ _ _); refine MethodCall_ ?_))
  k_with "my:pyIter ref" => row_timed "f" (((with_reducible show wpAny _ _ (pyIter (Value.ref _)) (fun it s₂ => TurnsAt _ _ _ _ _ _ _ _ _ it s₂) _ _); (rename Fr _ _ _ _ => lF'); (rename News _ _ _ _ => lN'); (k_dflt refine' Mine.put_loop [Str.ofString "low", Str.ofString "high"] (by assumption) rfl lF' lN' ?S1 ?S2 ?hl ?hd ?hr ?hP ?hpp ?hr0 ?hn ?h1 ?h2 ?hpa ?h3 ?h4 ?_ ?_; (case S1 => (repeat (first | exact Mine.Sel.head | apply Mine.Sel.tail | apply Mine.Sel.app))); (case S2 => (repeat (first | exact Mine.Sel.head | apply Mine.Sel.tail | apply Mine.Sel.app))); (case hl => k_mem); (case hd => k_mem); (case hP => assumption); (case hr => kcf_all); (case hpp => assumption); (case hr0 => (refine' Mine.sub_trans ?aa ?bb; (case aa => assumption); (case bb => kcf_all))); (case hn => omega); (case h1 => k_all); (case h2 => k_all); (case hpa => assumption); (case h3 => omega); (case h4 => omega)); (all_goals (clear lF' lN')); (all_goals (try dsimp only)); (all_goals first | (intro i' p' q' t' tp' tq' u' pvs' np' z' tz' tl' own' fz' h' tk' hM' hz1' hz2' hn1' hn2' hn3' hn4' hn5' hl' F' N') | (intro u' pvs' np' z' tz' tl' h' tk' hb' hz' hp' hd1' hd2' F' N'; (try dsimp only [List.cons_append, List.nil_append] at N')))))
  k_with "my:TurnEnd" => row_timed "f" ((k_dflt (refine' Mine.put_end (by assumption) ?F ?N ?D ?a ?p ?z ?l ?m; (case F => k_asm); (case N => k_asm); (case D => k_mem); (case a => k_mem); (case p => k_mem); (case z => kcf_all); (case l => first | exact Mine.lt_n3 (by assumption) | exact Mine.lt_n4 (by assumption)); (case m => (intro z hz; (try simp only [List.contains_cons, List.contains_nil, Bool.or_eq_false_iff, Bool.or_false, beq_eq_false_iff_ne, ne_eq] at hz); simp [Mine.stoM, hz])))))
  trivial
def put_m_S (pp : Program) (w : World) (loose : List Str) (mean : ExcName → Option Value) (mg : Str → Option Value) (mb : Str → Option Value) (dp : Nat) (un : Nat) (gd : Option (List Code)) (cn : Str) (cs : Scope) (a : Addr) (ccd : Value) (cl : List (Str × Addr)) (outer : List Env) (A₀ : Around) (base : Heap) (h₀ : Heap) (L : Addr) (m : Str → Option Value) (news : List (Addr × Obj)) (s : Shared) (Q : Value → Shared → Prop) (E : Value → Shared → Prop) (d : Addr) (da : Addr) (hg : Addr) (ha : Addr) (rl : Addr) (pl : Addr) (hh : Addr) (hha : Addr) (rvs : List Value) (pvs : List Value) (nr : Nat) (np_z : Nat) (fv : Value) (first : Option Hd) (g1 : Tok) (g2 : Tok) (g3 : Tok) (g4 : Tok) (g5 : Tok) (g6 : Tok) (g7 : Tok) (g8 : Tok) (k1 : Tok) (k2 : Tok) (tb : Tok) (tM : Tok) (tM2 : Tok) (te : Tok) (tA : Tok) (tS : Tok) (q1 : Tok) (q2 : Tok) (q3 : Tok) (q4 : Tok) (q5 : Tok) (q6 : Tok) (q7 : Tok) (q8 : Tok) (q9 : Tok) (q10 : Tok) (t9 : Tok) (t10 : Tok) (tp : Tok) (s1 : Value) (s2 : Value) (s3 : Value) (s4 : Value) (s5 : Value) (s6 : Value) (s7 : Value) (began : Int) (ahead : Int) (size : Int) (off : Int) (rows : Rws) (parts : List (Int × Byt)) (hdr : Hd) (pb : Byt) (fin : Option Int) (r1 : List (Addr × Obj)) (r2 : List (Addr × Obj)) (rest : List (Addr × Obj)) (rest0 : List (Addr × Obj)) : Prop := Below A₀ base outer h₀ → Fr h₀ L s.heap m → (Mine.hd.heap_1 w.params).In h₀ → News h₀ L s.heap news → Top pp loose mean mg mb h₀ → cs.kind = .function → dp < 485 → un < 8850 → 
    Sel da (dictOf [leftact% began g1 (Value.int began tb), leftact% most g2 (Value.int 65535 tM), leftact% holes g3 (Value.ref hg), leftact% parts g4 (Value.ref pl), leftact% «end» g5 (finV fin te), leftact% ahead g6 (Value.int ahead tA), leftact% first g7 fv, leftact% size g8 (Value.int size tS)] 8) news r1 → Sel ha (dictOf [leftact% most k1 (Value.int 65535 tM2), leftact% rows k2 (Value.ref rl)] 2) r1 r2 → Sel pl (listOf pvs.toArray np_z) r2 rest → (∀ p ∈ r1, p.1 ≠ da) → (∀ p ∈ r2, p.1 ≠ ha) → (∀ p ∈ rest, p.1 ≠ pl) → (d, instObj 452 da) ∈ rest → (hg, instObj 398 ha) ∈ rest → (rl, listOf rvs.toArray nr) ∈ rest → (hh, instObj 74 hha) ∈ rest → (hha, (dictOf [leftact% source q1 s1, leftact% target q2 s2, leftact% protocol q3 s3, leftact% ident q4 s4, leftact% ttl q5 s5, leftact% tos q6 s6, leftact% dont q7 s7, leftact% more q8 (Value.bool true), leftact% offset q9 (Value.int off t9), leftact% options q10 (Value.bytes #[] t10)] 10)) ∈ rest → Pairs rest rvs rows → Parts rest0 pvs parts → (∀ p ∈ rest0, p ∈ rest) → HdAt w.params rest0 hh hdr → FirstAt w.params rest0 fv first → 0 ≤ off → off + pb.size ≤ 65515 → rows.length ≤ 50 → parts.length + rows.length ≤ 1000 → (∀ y, fin = some y → off + pb.size < y) → 
    (∀ r rl' rvs' pvs' nr' np' fv' tA' tS' sz' tl h' tk', Pairs tl rvs' (rows.foldl (fillStep off (off + pb.size)) ([], [])).2 → Parts (tl ++ rest0) pvs' ((rows.foldl (fillStep off (off + pb.size)) ([], [])).1.foldl (addPart off pb) (parts, size)).1 → (∀ p ∈ tl, @LT.lt Nat _ r p.1) → AllLt r rest → @LT.lt Nat _ da r → @LT.lt Nat _ ha r → @LT.lt Nat _ pl r → FirstAt w.params rest0 fv' (newFirst off first hdr) → sz' = ((rows.foldl (fillStep off (off + pb.size)) ([], [])).1.foldl (addPart off pb) (parts, size)).2 → Fr h₀ L h' m → News h₀ L h' ((da, (dictOf [leftact% began g1 (Value.int began tb), leftact% most g2 (Value.int 65535 tM), leftact% holes g3 (Value.ref hg), leftact% parts g4 (Value.ref pl), leftact% «end» g5 (finV fin te), leftact% ahead g6 (Value.int (if off + pb.size > ahead then off + pb.size else ahead) tA'), leftact% first g7 fv', leftact% size g8 (Value.int sz' tS')] 8)) :: (ha, (dictOf [leftact% most k1 (Value.int 65535 tM2), leftact% rows k2 (Value.ref rl')] 2)) :: (pl, listOf pvs'.toArray np') :: (rl', listOf rvs'.toArray nr') :: (tl ++ rest)) → @LT.lt Nat _ r rl' → Q (.bool true) { s with heap := h', toks := tk' }) →
    wpAny (model Challenge.rw_xw0340_01.row.prog w) (ktrTop dp un gd cn cs L a ccd cl outer) (call (.ref 430) [.ref d, .ref hh, .bytes pb tp]) Q E s
open Cx in
def put_m_P [Cx] : Prop := put_m_S pp w loose mean mg mb dp un gd cn cs a ccd cl outer A₀ base h₀ L m news s Q E d da hg ha rl pl hh hha rvs pvs nr np_z fv first g1 g2 g3 g4 g5 g6 g7 g8 k1 k2 tb tM tM2 te tA tS q1 q2 q3 q4 q5 q6 q7 q8 q9 q10 t9 t10 tp s1 s2 s3 s4 s5 s6 s7 began ahead size off rows parts hdr pb fin r1 r2 rest rest0
noncomputable def put_m_C : Cx := Mine.ep neCx (fun c => ¬ @put_m_P c)
noncomputable instance put_m_I : Cx := put_m_C
open Cx in
set_option maxHeartbeats 4000000 in
theorem put_m_T : put_m_P := by
  unfold put_m_P put_m_S
  k_fill
  intro B F X N T hk hd hu S1 S2 S3 ap1 ap2 ap3 m1 m2 m3 m4 m5 hP hQ hr0 hH hF ho hoz hrn hpn hx ret
  have eha : Apt ha da := ap1 _ S2.mem
  have epa : Apt pl da := ap1 _ (S2.sub _ S3.mem)
  have eph : Apt pl ha := ap2 _ S3.mem
  have apa : ∀ p ∈ rest, p.1 ≠ da := fun p hp => ap1 _ (S2.sub _ (S3.sub _ hp))
  have aph : ∀ p ∈ rest, p.1 ≠ ha := fun p hp => ap2 _ (S3.sub _ hp)
  refine wpAny_call ?_
  refine' code_part (rw := [(da, (dictOf [leftact% began g1 (Value.int began tb), leftact% most g2 (Value.int 65535 tM), leftact% holes g3 (Value.ref hg), leftact% parts g4 (Value.ref pl), leftact% «end» g5 (finV fin te), leftact% ahead g6 (Value.int ahead tA), leftact% first g7 fv, leftact% size g8 (Value.int size tS)] 8)), (ha, (dictOf [leftact% most k1 (Value.int 65535 tM2), leftact% rows k2 (Value.ref rl)] 2)), (pl, listOf pvs.toArray np_z)]) (ro := ((d, instObj 452 da) :: (hg, instObj 398 ha) :: (rl, listOf rvs.toArray nr) :: (hh, instObj 74 hha) :: (hha, (dictOf [leftact% source q1 s1, leftact% target q2 s2, leftact% protocol q3 s3, leftact% ident q4 s4, leftact% ttl q5 s5, leftact% tos q6 s6, leftact% dont q7 s7, leftact% more q8 (Value.bool true), leftact% offset q9 (Value.int off t9), leftact% options q10 (Value.bytes #[] t10)] 10)) :: rest)) (rest := rest) ?k1 ?k2 ?k3 ?k4 ?k5 ?kA ?kF ?kK ?k6 ?k7 ?k8 ?k9 ?kB ?r1 ?r2 ?r3 ?r4 ?_ ?c2 ?c3 ?c4 ?c5
  k_extra "my:enter"
  (case r1 => exact List.forall_mem_cons.mpr ⟨S1.mem, List.forall_mem_cons.mpr ⟨S1.sub _ S2.mem, List.forall_mem_cons.mpr ⟨S1.sub _ (S2.sub _ S3.mem), List.forall_mem_nil _⟩⟩⟩)
  (case r2 => exact fun q hq => S1.sub _ (S2.sub _ (S3.sub _ hq)))
  (case r3 => exact List.forall_mem_cons.mpr ⟨m1, List.forall_mem_cons.mpr ⟨m2, List.forall_mem_cons.mpr ⟨m3, List.forall_mem_cons.mpr ⟨m4, List.forall_mem_cons.mpr ⟨m5, fun q hq => hq⟩⟩⟩⟩⟩)
  (case r4 => intro q hq q' hq'; simp only [List.mem_cons, List.not_mem_nil, or_false] at hq; rcases hq with rfl | rfl | rfl; exact apa _ hq'; exact aph _ hq'; exact ap3 _ hq')
  intro g' L' h' FG' F' N' B' X' T' hLt hst
  (try simp only [List.nil_append, List.cons_append] at N' hLt)
  (try dsimp only)
  have eda : Apt d da := apa _ m1
  have edh : Apt d ha := aph _ m1
  have edp : Apt d pl := ap3 _ m1
  have ehga : Apt hg da := apa _ m2
  have ehgh : Apt hg ha := aph _ m2
  have ehgp : Apt hg pl := ap3 _ m2
  have erla : Apt rl da := apa _ m3
  have erlh : Apt rl ha := aph _ m3
  have erlp : Apt rl pl := ap3 _ m3
  have ehha : Apt hh da := apa _ m4
  have ehhh : Apt hh ha := aph _ m4
  have ehhp : Apt hh pl := ap3 _ m4
  have ehhaa : Apt hha da := apa _ m5
  have ehhah : Apt hha ha := aph _ m5
  have ehhap : Apt hha pl := ap3 _ m5
  have hhd : handedIn fv = true := hF.handed
  have hfl : (List.foldl (fillStep off (off + pb.size)) ([], []) rows).1.length ≤ rows.length := by
    have e := (fillStep_len off (off + pb.size) rows ([], [])).1
    simpa using e
  have hfl2 : (List.foldl (fillStep off (off + pb.size)) ([], []) rows).2.length ≤ 2 * rows.length := by
    have e := (fillStep_len off (off + pb.size) rows ([], [])).2
    simpa using e
  have mk : PutArgs d da pl off pb (fun z tz => (dictOf [leftact% began g1 (Value.int began tb), leftact% most g2 (Value.int 65535 tM), leftact% holes g3 (Value.ref hg), leftact% parts g4 (Value.ref pl), leftact% «end» g5 (finV fin te), leftact% ahead g6 (Value.int ahead tA), leftact% first g7 fv, leftact% size g8 (Value.int z tz)] 8)) parts := trivial
  k_steps
  all_goals first | (exfalso; have e0 : (#[] : Byt).size = 0 := rfl; omega) | ((rename Pairs _ _ (Prod.snd _) => q1); (rename Parts (_ ++ _) _ _ => q2); exact ret _ _ _ _ _ _ _ _ _ _ _ _ _ (pairs_l q1) (parts_perm q2) (put_b6' (by assumption) (by assumption) (by omega)) (by first | exact lt_n7 (by assumption) | exact lt_n8 (by assumption)) (by omega) (by omega) (by omega) (by first | exact first_a (by assumption) (by assumption) hH | exact first_b (by assumption) (by assumption) hF | exact first_c (by assumption) hF) (by assumption) (by k_asm) (newsub (by k_asm) (by kcf_all)) (by omega))
theorem put_m : put_m_S pp w loose mean mg mb dp un gd cn cs a ccd cl outer A₀ base h₀ L m news s Q E d da hg ha rl pl hh hha rvs pvs nr np_z fv first g1 g2 g3 g4 g5 g6 g7 g8 k1 k2 tb tM tM2 te tA tS q1 q2 q3 q4 q5 q6 q7 q8 q9 q10 t9 t10 tp s1 s2 s3 s4 s5 s6 s7 began ahead size off rows parts hdr pb fin r1 r2 rest rest0 := Mine.ep_all (P := fun c => @put_m_P c) neCx put_m_T ⟨(up 0 pp zC0, up 0 w zC1, up 0 loose zC2, up 0 mean zC3, up 0 mg (up 1 mb (up 2 m zC4)), up 0 dp (up 1 un (up 2 nr (up 3 np_z zC5))), up 0 gd zC6, up 0 cn zC7, up 0 cs zC8, up 0 a (up 1 L (up 6 d (up 7 da (up 2 hg (up 3 ha (up 4 rl (up 8 pl (up 9 hh (up 10 hha zC9))))))))), up 0 ccd (up 3 fv (up 4 s1 (up 5 s2 (up 6 s3 (up 7 s4 (up 8 s5 (up 9 s6 (up 10 s7 zC10)))))))), up 0 cl zC11, up 0 outer zC12, up 0 A₀ zC13, up 0 base (up 1 h₀ zC14), up 0 news (up 2 r1 (up 3 r2 (up 1 rest (up 4 rest0 zC15)))), up 0 s zC16, up 0 Q (up 1 E zC17), up 6 g1 (up 7 g2 (up 8 g3 (up 9 g4 (up 10 g5 (up 11 g6 (up 12 g7 (up 13 g8 (up 0 k1 (up 1 k2 (up 2 tb (up 4 tM (up 18 tM2 (up 3 te (up 14 tA (up 15 tS (up 21 q1 (up 22 q2 (up 23 q3 (up 24 q4 (up 25 q5 (up 26 q6 (up 27 q7 (up 28 q8 (up 29 q9 (up 30 q10 (up 31 t9 (up 32 t10 (up 33 tp zC18)))))))))))))))))))))))))))), up 0 rvs (up 2 pvs zC19), up 0 rows zC20, zC21, up 4 began (up 5 ahead (up 6 size (up 8 off zC22))), zC23, up 0 first zC24, up 0 parts zC25, up 0 hdr zC26, up 0 pb zC27, up 0 fin zC28, zCt29)⟩ 
def put_c_S (pp : Program) (w : World) (loose : List Str) (mean : ExcName → Option Value) (mg : Str → Option Value) (mb : Str → Option Value) (dp : Nat) (un : Nat) (gd : Option (List Code)) (cn : Str) (cs : Scope) (a : Addr) (ccd : Value) (cl : List (Str × Addr)) (outer : List Env) (A₀ : Around) (base : Heap) (h₀ : Heap) (L : Addr) (m : Str → Option Value) (news : List (Addr × Obj)) (s : Shared) (Q : Value → Shared → Prop) (E : Value → Shared → Prop) (d : Addr) (da : Addr) (hg : Addr) (ha : Addr) (rl : Addr) (pl : Addr) (hh : Addr) (hha : Addr) (rvs : List Value) (pvs : List Value) (nr : Nat) (np_z : Nat) (fv : Value) (first : Option Hd) (g1 : Tok) (g2 : Tok) (g3 : Tok) (g4 : Tok) (g5 : Tok) (g6 : Tok) (g7 : Tok) (g8 : Tok) (k1 : Tok) (k2 : Tok) (tb : Tok) (tM : Tok) (tM2 : Tok) (tA : Tok) (tS : Tok) (q1 : Tok) (q2 : Tok) (q3 : Tok) (q4 : Tok) (q5 : Tok) (q6 : Tok) (q7 : Tok) (q8 : Tok) (q9 : Tok) (q10 : Tok) (t9 : Tok) (t10 : Tok) (tp : Tok) (s1 : Value) (s2 : Value) (s3 : Value) (s4 : Value) (s5 : Value) (s6 : Value) (s7 : Value) (began : Int) (ahead : Int) (size : Int) (off : Int) (a2 : Int) (rows : Rws) (parts : List (Int × Byt)) (hdr : Hd) (pb : Byt) (r1 : List (Addr × Obj)) (r2 : List (Addr × Obj)) (rest : List (Addr × Obj)) (rest0 : List (Addr × Obj)) : Prop := Below A₀ base outer h₀ → Fr h₀ L s.heap m → (Mine.hd.heap_1 w.params).In h₀ → News h₀ L s.heap news → Top pp loose mean mg mb h₀ → cs.kind = .function → dp < 485 → un < 8850 → 
    Sel da (dictOf [leftact% began g1 (Value.int began tb), leftact% most g2 (Value.int 65535 tM), leftact% holes g3 (Value.ref hg), leftact% parts g4 (Value.ref pl), leftact% «end» g5 Value.none, leftact% ahead g6 (Value.int ahead tA), leftact% first g7 fv, leftact% size g8 (Value.int size tS)] 8) news r1 → Sel ha (dictOf [leftact% most k1 (Value.int 65535 tM2), leftact% rows k2 (Value.ref rl)] 2) r1 r2 → Sel pl (listOf pvs.toArray np_z) r2 rest → (∀ p ∈ r1, p.1 ≠ da) → (∀ p ∈ r2, p.1 ≠ ha) → (∀ p ∈ rest, p.1 ≠ pl) → (d, instObj 452 da) ∈ rest → (hg, instObj 398 ha) ∈ rest → (rl, listOf rvs.toArray nr) ∈ rest → (hh, instObj 74 hha) ∈ rest → (hha, (dictOf [leftact% source q1 s1, leftact% target q2 s2, leftact% protocol q3 s3, leftact% ident q4 s4, leftact% ttl q5 s5, leftact% tos q6 s6, leftact% dont q7 s7, leftact% more q8 (Value.bool false), leftact% offset q9 (Value.int off t9), leftact% options q10 (Value.bytes #[] t10)] 10)) ∈ rest → Pairs rest rvs rows → Parts rest0 pvs parts → (∀ p ∈ rest0, p ∈ rest) → HdAt w.params rest0 hh hdr → FirstAt w.params rest0 fv first → 0 ≤ off → off + pb.size ≤ 65515 → rows.length ≤ 50 → parts.length + rows.length ≤ 1000 → (∃ r, rows = r ++ [(a2, 65535)]) → a2 ≤ off + pb.size → ¬ (ahead ≥ off + pb.size ∧ off + pb.size > 0) → 
    (∀ r rl' rvs' pvs' nr' np' fv' tA' te' tS' sz' tl h' tk', Pairs tl rvs' ((rows.foldl (fillStep off (off + pb.size)) ([], [])).2.foldl (fillStep (off + pb.size) 65535) ([], [])).2 → Parts (tl ++ rest0) pvs' ((rows.foldl (fillStep off (off + pb.size)) ([], [])).1.foldl (addPart off pb) (parts, size)).1 → (∀ p ∈ tl, @LT.lt Nat _ r p.1) → AllLt r rest → @LT.lt Nat _ da r → @LT.lt Nat _ ha r → @LT.lt Nat _ pl r → FirstAt w.params rest0 fv' (newFirst off first hdr) → sz' = ((rows.foldl (fillStep off (off + pb.size)) ([], [])).1.foldl (addPart off pb) (parts, size)).2 → Fr h₀ L h' m → News h₀ L h' ((da, (dictOf [leftact% began g1 (Value.int began tb), leftact% most g2 (Value.int 65535 tM), leftact% holes g3 (Value.ref hg), leftact% parts g4 (Value.ref pl), leftact% «end» g5 (Value.int (off + pb.size) te'), leftact% ahead g6 (Value.int ahead tA'), leftact% first g7 fv', leftact% size g8 (Value.int sz' tS')] 8)) :: (ha, (dictOf [leftact% most k1 (Value.int 65535 tM2), leftact% rows k2 (Value.ref rl')] 2)) :: (pl, listOf pvs'.toArray np') :: (rl', listOf rvs'.toArray nr') :: (tl ++ rest)) → @LT.lt Nat _ r rl' → Q (.bool true) { s with heap := h', toks := tk' }) →
    wpAny (model Challenge.rw_xw0340_01.row.prog w) (ktrTop dp un gd cn cs L a ccd cl outer) (call (.ref 430) [.ref d, .ref hh, .bytes pb tp]) Q E s
open Cx in
def put_c_P [Cx] : Prop := put_c_S pp w loose mean mg mb dp un gd cn cs a ccd cl outer A₀ base h₀ L m news s Q E d da hg ha rl pl hh hha rvs pvs nr np_z fv first g1 g2 g3 g4 g5 g6 g7 g8 k1 k2 tb tM tM2 tA tS q1 q2 q3 q4 q5 q6 q7 q8 q9 q10 t9 t10 tp s1 s2 s3 s4 s5 s6 s7 began ahead size off a2 rows parts hdr pb r1 r2 rest rest0
noncomputable def put_c_C : Cx := Mine.ep neCx (fun c => ¬ @put_c_P c)
noncomputable instance put_c_I : Cx := put_c_C
open Cx in
set_option maxHeartbeats 4000000 in
theorem put_c_T : put_c_P := by
  unfold put_c_P put_c_S
  k_fill
  intro B F X N T hk hd hu S1 S2 S3 ap1 ap2 ap3 m1 m2 m3 m4 m5 hP hQ hr0 hH hF ho hoz hrn hpn hlr hrr hah ret
  obtain ⟨r0, hr0⟩ := hlr
  refine ex4 (Pairs.last (hr0 ▸ hP)) ?_
  intro vs0' t0' ta1' ta2' hc9
  obtain ⟨e0, m6⟩ := hc9
  replace m3 : (rl, listOf (vs0' ++ [Value.ref t0']).toArray nr) ∈ rest := e0 ▸ m3
  replace hP : Pairs rest (vs0' ++ [Value.ref t0']) rows := e0 ▸ hP
  have eha : Apt ha da := ap1 _ S2.mem
  have epa : Apt pl da := ap1 _ (S2.sub _ S3.mem)
  have eph : Apt pl ha := ap2 _ S3.mem
  have apa : ∀ p ∈ rest, p.1 ≠ da := fun p hp => ap1 _ (S2.sub _ (S3.sub _ hp))
  have aph : ∀ p ∈ rest, p.1 ≠ ha := fun p hp => ap2 _ (S3.sub _ hp)
  refine wpAny_call ?_
  refine' code_part (rw := [(da, (dictOf [leftact% began g1 (Value.int began tb), leftact% most g2 (Value.int 65535 tM), leftact% holes g3 (Value.ref hg), leftact% parts g4 (Value.ref pl), leftact% «end» g5 Value.none, leftact% ahead g6 (Value.int ahead tA), leftact% first g7 fv, leftact% size g8 (Value.int size tS)] 8)), (ha, (dictOf [leftact% most k1 (Value.int 65535 tM2), leftact% rows k2 (Value.ref rl)] 2)), (pl, listOf pvs.toArray np_z)]) (ro := ((d, instObj 452 da) :: (hg, instObj 398 ha) :: (rl, listOf (vs0' ++ [Value.ref t0']).toArray nr) :: (hh, instObj 74 hha) :: (hha, (dictOf [leftact% source q1 s1, leftact% target q2 s2, leftact% protocol q3 s3, leftact% ident q4 s4, leftact% ttl q5 s5, leftact% tos q6 s6, leftact% dont q7 s7, leftact% more q8 (Value.bool false), leftact% offset q9 (Value.int off t9), leftact% options q10 (Value.bytes #[] t10)] 10)) :: (t0', pairObj a2 ta1' 65535 ta2') :: rest)) (rest := rest) ?k1 ?k2 ?k3 ?k4 ?k5 ?kA ?kF ?kK ?k6 ?k7 ?k8 ?k9 ?kB ?r1 ?r2 ?r3 ?r4 ?_ ?c2 ?c3 ?c4 ?c5
  k_extra "my:enter"
  (case r1 => exact List.forall_mem_cons.mpr ⟨S1.mem, List.forall_mem_cons.mpr ⟨S1.sub _ S2.mem, List.forall_mem_cons.mpr ⟨S1.sub _ (S2.sub _ S3.mem), List.forall_mem_nil _⟩⟩⟩)
  (case r2 => exact fun q hq => S1.sub _ (S2.sub _ (S3.sub _ hq)))
  (case r3 => exact List.forall_mem_cons.mpr ⟨m1, List.forall_mem_cons.mpr ⟨m2, List.forall_mem_cons.mpr ⟨m3, List.forall_mem_cons.mpr ⟨m4, List.forall_mem_cons.mpr ⟨m5, List.forall_mem_cons.mpr ⟨m6, fun q hq => hq⟩⟩⟩⟩⟩⟩)
  (case r4 => intro q hq q' hq'; simp only [List.mem_cons, List.not_mem_nil, or_false] at hq; rcases hq with rfl | rfl | rfl; exact apa _ hq'; exact aph _ hq'; exact ap3 _ hq')
  intro g' L' h' FG' F' N' B' X' T' hLt hst
  (try simp only [List.nil_append, List.cons_append] at N' hLt)
  (try dsimp only)
  have eda : Apt d da := apa _ m1
  have edh : Apt d ha := aph _ m1
  have edp : Apt d pl := ap3 _ m1
  have ehga : Apt hg da := apa _ m2
  have ehgh : Apt hg ha := aph _ m2
  have ehgp : Apt hg pl := ap3 _ m2
  have erla : Apt rl da := apa _ m3
  have erlh : Apt rl ha := aph _ m3
  have erlp : Apt rl pl := ap3 _ m3
  have ehha : Apt hh da := apa _ m4
  have ehhh : Apt hh ha := aph _ m4
  have ehhp : Apt hh pl := ap3 _ m4
  have ehhaa : Apt hha da := apa _ m5
  have ehhah : Apt hha ha := aph _ m5
  have ehhap : Apt hha pl := ap3 _ m5
  have eta : Apt t0' da := apa _ m6
  have eth : Apt t0' ha := aph _ m6
  have etp : Apt t0' pl := ap3 _ m6
  have hhd : handedIn fv = true := hF.handed
  have hfl : (List.foldl (fillStep off (off + pb.size)) ([], []) rows).1.length ≤ rows.length := by
    have e := (fillStep_len off (off + pb.size) rows ([], [])).1
    simpa using e
  have hfl2 : (List.foldl (fillStep off (off + pb.size)) ([], []) rows).2.length ≤ 2 * rows.length := by
    have e := (fillStep_len off (off + pb.size) rows ([], [])).2
    simpa using e
  have mk : PutArgs d da pl off pb (fun z tz => (dictOf [leftact% began g1 (Value.int began tb), leftact% most g2 (Value.int 65535 tM), leftact% holes g3 (Value.ref hg), leftact% parts g4 (Value.ref pl), leftact% «end» g5 Value.none, leftact% ahead g6 (Value.int ahead tA), leftact% first g7 fv, leftact% size g8 (Value.int z tz)] 8)) parts := trivial
  k_steps
  all_goals first | (exfalso; have e0 : (#[] : Byt).size = 0 := rfl; omega) | ((rename Pairs _ _ (Prod.snd _) => q1); (rename Parts (_ ++ _) _ _ => q2); exact ret _ _ _ _ _ _ _ _ _ _ _ _ _ _ (pairs_l q1) (parts_perm q2) (put_b6' (by assumption) (by assumption) (by omega)) (by first | exact lt_n7 (by assumption) | exact lt_n8 (by assumption)) (by omega) (by omega) (by omega) (by first | exact first_a (by assumption) (by assumption) hH | exact first_b (by assumption) (by assumption) hF | exact first_c (by assumption) hF) (by assumption) (by k_asm) (newsub (by k_asm) (by kcf_all)) (by omega))
theorem put_c : put_c_S pp w loose mean mg mb dp un gd cn cs a ccd cl outer A₀ base h₀ L m news s Q E d da hg ha rl pl hh hha rvs pvs nr np_z fv first g1 g2 g3 g4 g5 g6 g7 g8 k1 k2 tb tM tM2 tA tS q1 q2 q3 q4 q5 q6 q7 q8 q9 q10 t9 t10 tp s1 s2 s3 s4 s5 s6 s7 began ahead size off a2 rows parts hdr pb r1 r2 rest rest0 := Mine.ep_all (P := fun c => @put_c_P c) neCx put_c_T ⟨(up 0 pp zC0, up 0 w zC1, up 0 loose zC2, up 0 mean zC3, up 0 mg (up 1 mb (up 2 m zC4)), up 0 dp (up 1 un (up 2 nr (up 3 np_z zC5))), up 0 gd zC6, up 0 cn zC7, up 0 cs zC8, up 0 a (up 1 L (up 6 d (up 7 da (up 2 hg (up 3 ha (up 4 rl (up 8 pl (up 9 hh (up 10 hha zC9))))))))), up 0 ccd (up 3 fv (up 4 s1 (up 5 s2 (up 6 s3 (up 7 s4 (up 8 s5 (up 9 s6 (up 10 s7 zC10)))))))), up 0 cl zC11, up 0 outer zC12, up 0 A₀ zC13, up 0 base (up 1 h₀ zC14), up 0 news (up 2 r1 (up 3 r2 (up 1 rest (up 4 rest0 zC15)))), up 0 s zC16, up 0 Q (up 1 E zC17), up 6 g1 (up 7 g2 (up 8 g3 (up 9 g4 (up 10 g5 (up 11 g6 (up 12 g7 (up 13 g8 (up 0 k1 (up 1 k2 (up 2 tb (up 4 tM (up 18 tM2 (up 14 tA (up 15 tS (up 21 q1 (up 22 q2 (up 23 q3 (up 24 q4 (up 25 q5 (up 26 q6 (up 27 q7 (up 28 q8 (up 29 q9 (up 30 q10 (up 31 t9 (up 32 t10 (up 33 tp zC18))))))))))))))))))))))))))), up 0 rvs (up 2 pvs zC19), up 0 rows zC20, zC21, up 4 began (up 5 ahead (up 6 size (up 8 off (up 3 a2 zC22)))), zC23, up 0 first zC24, up 0 parts zC25, up 0 hdr zC26, up 0 pb zC27, zCt28)⟩ 
theorem rows_X01 : True := by
  k_with "my:eval Call Attribute" => row_timed "f" (((with_reducible show wpAny _ _ (eval (Expr.Call (Expr.Attribute _ "is_whole" _) _ _ _) _) _ _ _); refine MethodCall_ ?_))
  trivial
def dwhole_a_S (pp : Program) (w : World) (loose : List Str) (mean : ExcName → Option Value) (mg : Str → Option Value) (mb : Str → Option Value) (dp : Nat) (un : Nat) (gd : Option (List Code)) (cn : Str) (cs : Scope) (a : Addr) (ccd : Value) (cl : List (Str × Addr)) (outer : List Env) (A₀ : Around) (base : Heap) (h₀ : Heap) (L : Addr) (m : Str → Option Value) (news : List (Addr × Obj)) (s : Shared) (Q : Value → Shared → Prop) (E : Value → Shared → Prop) (d : Addr) (da : Addr) (hg : Addr) (pl : Addr) (fv : Value) (g1 : Tok) (g2 : Tok) (g3 : Tok) (g4 : Tok) (g5 : Tok) (g6 : Tok) (g7 : Tok) (g8 : Tok) (tb : Tok) (tM : Tok) (tA : Tok) (tS : Tok) (began : Int) (ahead : Int) (size : Int) : Prop := Below A₀ base outer h₀ → Fr h₀ L s.heap m → (Mine.hd.heap_1 w.params).In h₀ → News h₀ L s.heap news → Top pp loose mean mg mb h₀ → cs.kind = .function → dp < 490 → un < 8900 → 
    (da, (dictOf [leftact% began g1 (Value.int began tb), leftact% most g2 (Value.int 65535 tM), leftact% holes g3 (Value.ref hg), leftact% parts g4 (Value.ref pl), leftact% «end» g5 Value.none, leftact% ahead g6 (Value.int ahead tA), leftact% first g7 fv, leftact% size g8 (Value.int size tS)] 8)) ∈ news → (d, instObj 452 da) ∈ news → 
    (∀  h' tk',  Fr h₀ L h' m → News h₀ L h' (news) →  Q (.bool false) { s with heap := h', toks := tk' }) →
    wpAny (model Challenge.rw_xw0340_01.row.prog w) (ktrTop dp un gd cn cs L a ccd cl outer) (call (.ref 437) [.ref d]) Q E s
open Cx in
def dwhole_a_P [Cx] : Prop := dwhole_a_S pp w loose mean mg mb dp un gd cn cs a ccd cl outer A₀ base h₀ L m news s Q E d da hg pl fv g1 g2 g3 g4 g5 g6 g7 g8 tb tM tA tS began ahead size
noncomputable def dwhole_a_C : Cx := Mine.ep neCx (fun c => ¬ @dwhole_a_P c)
noncomputable instance dwhole_a_I : Cx := dwhole_a_C
open Cx in
set_option maxHeartbeats 4000000 in
theorem dwhole_a_T : dwhole_a_P := by
  unfold dwhole_a_P dwhole_a_S
  k_fill
  intro B F X N T hk hd hu hS0 hS1 ret
  refine wpAny_call ?_
  refine' code_part (rw := []) (ro := [(da, (dictOf [leftact% began g1 (Value.int began tb), leftact% most g2 (Value.int 65535 tM), leftact% holes g3 (Value.ref hg), leftact% parts g4 (Value.ref pl), leftact% «end» g5 Value.none, leftact% ahead g6 (Value.int ahead tA), leftact% first g7 fv, leftact% size g8 (Value.int size tS)] 8)), (d, instObj 452 da)]) (rest := news) ?k1 ?k2 ?k3 ?k4 ?k5 ?kA ?kF ?kK ?k6 ?k7 ?k8 ?k9 ?kB ?r1 ?r2 ?r3 ?r4 ?_ ?c2 ?c3 ?c4 ?c5
  k_extra "my:enter"
  (case r1 => intro q hq; cases hq)
  (case r2 => exact fun q hq => hq)
  (case r3 => exact List.forall_mem_cons.mpr ⟨hS0, List.forall_mem_cons.mpr ⟨hS1, List.forall_mem_nil _⟩⟩)
  (case r4 => intro q hq; cases hq)
  intro g' L' h' FG' F' N' B' X' T' hLt hst
  (try simp only [List.nil_append, List.cons_append] at N' hLt)
  (try dsimp only)
  k_steps
  all_goals (rename (News _ _ _ _ → News _ _ _ _) => hR)
  all_goals (refine' ret _ _ ?f ?nn; (case f => k_asm); (case nn => exact hR (newsl (by k_asm) (by k_subL))))
theorem dwhole_a : dwhole_a_S pp w loose mean mg mb dp un gd cn cs a ccd cl outer A₀ base h₀ L m news s Q E d da hg pl fv g1 g2 g3 g4 g5 g6 g7 g8 tb tM tA tS began ahead size := Mine.ep_all (P := fun c => @dwhole_a_P c) neCx dwhole_a_T ⟨(up 0 pp zC0, up 0 w zC1, up 0 loose zC2, up 0 mean zC3, up 0 mg (up 1 mb (up 2 m zC4)), up 0 dp (up 1 un zC5), up 0 gd zC6, up 0 cn zC7, up 0 cs zC8, up 0 a (up 1 L (up 6 d (up 7 da (up 2 hg (up 8 pl zC9))))), up 0 ccd (up 3 fv zC10), up 0 cl zC11, up 0 outer zC12, up 0 A₀ zC13, up 0 base (up 1 h₀ zC14), up 0 news zC15, up 0 s zC16, up 0 Q (up 1 E zC17), up 6 g1 (up 7 g2 (up 8 g3 (up 9 g4 (up 10 g5 (up 11 g6 (up 12 g7 (up 13 g8 (up 2 tb (up 4 tM (up 14 tA (up 15 tS zC18))))))))))), zC19, zC20, zC21, up 4 began (up 5 ahead (up 6 size zC22)), zCt23)⟩ 
def dwhole_b_S (pp : Program) (w : World) (loose : List Str) (mean : ExcName → Option Value) (mg : Str → Option Value) (mb : Str → Option Value) (dp : Nat) (un : Nat) (gd : Option (List Code)) (cn : Str) (cs : Scope) (a : Addr) (ccd : Value) (cl : List (Str × Addr)) (outer : List Env) (A₀ : Around) (base : Heap) (h₀ : Heap) (L : Addr) (m : Str → Option Value) (news : List (Addr × Obj)) (s : Shared) (Q : Value → Shared → Prop) (E : Value → Shared → Prop) (d : Addr) (da : Addr) (hg : Addr) (ha : Addr) (rl : Addr) (pl : Addr) (rvs : List Value) (nr : Nat) (fv : Value) (first : Option Hd) (g1 : Tok) (g2 : Tok) (g3 : Tok) (g4 : Tok) (g5 : Tok) (g6 : Tok) (g7 : Tok) (g8 : Tok) (k1 : Tok) (k2 : Tok) (tb : Tok) (tM : Tok) (tM2 : Tok) (te : Tok) (tA : Tok) (tS : Tok) (began : Int) (ahead : Int) (size : Int) (x : Int) : Prop := Below A₀ base outer h₀ → Fr h₀ L s.heap m → (Mine.hd.heap_1 w.params).In h₀ → News h₀ L s.heap news → Top pp loose mean mg mb h₀ → cs.kind = .function → dp < 490 → un < 8900 → 
    (da, (dictOf [leftact% began g1 (Value.int began tb), leftact% most g2 (Value.int 65535 tM), leftact% holes g3 (Value.ref hg), leftact% parts g4 (Value.ref pl), leftact% «end» g5 (Value.int x te), leftact% ahead g6 (Value.int ahead tA), leftact% first g7 fv, leftact% size g8 (Value.int size tS)] 8)) ∈ news → (d, instObj 452 da) ∈ news → (ha, (dictOf [leftact% most k1 (Value.int 65535 tM2), leftact% rows k2 (Value.ref rl)] 2)) ∈ news → (hg, instObj 398 ha) ∈ news → (rl, listOf rvs.toArray nr) ∈ news → FirstAt w.params news fv first → 
    (∀ bb h' tk', bb = (first.isSome && rvs.isEmpty) → Fr h₀ L h' m → News h₀ L h' (news) →  Q (.bool bb) { s with heap := h', toks := tk' }) →
    wpAny (model Challenge.rw_xw0340_01.row.prog w) (ktrTop dp un gd cn cs L a ccd cl outer) (call (.ref 437) [.ref d]) Q E s
open Cx in
def dwhole_b_P [Cx] : Prop := dwhole_b_S pp w loose mean mg mb dp un gd cn cs a ccd cl outer A₀ base h₀ L m news s Q E d da hg ha rl pl rvs nr fv first g1 g2 g3 g4 g5 g6 g7 g8 k1 k2 tb tM tM2 te tA tS began ahead size x
noncomputable def dwhole_b_C : Cx := Mine.ep neCx (fun c => ¬ @dwhole_b_P c)
noncomputable instance dwhole_b_I : Cx := dwhole_b_C
open Cx in
set_option maxHeartbeats 4000000 in
theorem dwhole_b_T : dwhole_b_P := by
  unfold dwhole_b_P dwhole_b_S
  k_fill
  intro B F X N T hk hd hu hS0 hS1 hS2 hS3 hS4 hF ret
  refine wpAny_call ?_
  refine' code_part (rw := []) (ro := [(da, (dictOf [leftact% began g1 (Value.int began tb), leftact% most g2 (Value.int 65535 tM), leftact% holes g3 (Value.ref hg), leftact% parts g4 (Value.ref pl), leftact% «end» g5 (Value.int x te), leftact% ahead g6 (Value.int ahead tA), leftact% first g7 fv, leftact% size g8 (Value.int size tS)] 8)), (d, instObj 452 da), (ha, (dictOf [leftact% most k1 (Value.int 65535 tM2), leftact% rows k2 (Value.ref rl)] 2)), (hg, instObj 398 ha), (rl, listOf rvs.toArray nr)]) (rest := news) ?k1 ?k2 ?k3 ?k4 ?k5 ?kA ?kF ?kK ?k6 ?k7 ?k8 ?k9 ?kB ?r1 ?r2 ?r3 ?r4 ?_ ?c2 ?c3 ?c4 ?c5
  k_extra "my:enter"
  (case r1 => intro q hq; cases hq)
  (case r2 => exact fun q hq => hq)
  (case r3 => exact List.forall_mem_cons.mpr ⟨hS0, List.forall_mem_cons.mpr ⟨hS1, List.forall_mem_cons.mpr ⟨hS2, List.forall_mem_cons.mpr ⟨hS3, List.forall_mem_cons.mpr ⟨hS4, List.forall_mem_nil _⟩⟩⟩⟩⟩)
  (case r4 => intro q hq; cases hq)
  intro g' L' h' FG' F' N' B' X' T' hLt hst
  (try simp only [List.nil_append, List.cons_append] at N' hLt)
  (try dsimp only)
  have hhd : handedIn fv = true := hF.handed
  k_steps
  all_goals (rename (News _ _ _ _ → News _ _ _ _) => hR)
  all_goals (refine' ret _ _ _ ?b ?f ?nn; (case f => k_asm); (case nn => exact hR (newsl (by k_asm) (by k_subL))); (case b => first | (rw [(by assumption : first = none)]; rfl) | (rw [(by assumption : first = some _)]; rfl)))
theorem dwhole_b : dwhole_b_S pp w loose mean mg mb dp un gd cn cs a ccd cl outer A₀ base h₀ L m news s Q E d da hg ha rl pl rvs nr fv first g1 g2 g3 g4 g5 g6 g7 g8 k1 k2 tb tM tM2 te tA tS began ahead size x := Mine.ep_all (P := fun c => @dwhole_b_P c) neCx dwhole_b_T ⟨(up 0 pp zC0, up 0 w zC1, up 0 loose zC2, up 0 mean zC3, up 0 mg (up 1 mb (up 2 m zC4)), up 0 dp (up 1 un (up 2 nr zC5)), up 0 gd zC6, up 0 cn zC7, up 0 cs zC8, up 0 a (up 1 L (up 6 d (up 7 da (up 2 hg (up 3 ha (up 4 rl (up 8 pl zC9))))))), up 0 ccd (up 3 fv zC10), up 0 cl zC11, up 0 outer zC12, up 0 A₀ zC13, up 0 base (up 1 h₀ zC14), up 0 news zC15, up 0 s zC16, up 0 Q (up 1 E zC17), up 6 g1 (up 7 g2 (up 8 g3 (up 9 g4 (up 10 g5 (up 11 g6 (up 12 g7 (up 13 g8 (up 0 k1 (up 1 k2 (up 2 tb (up 4 tM (up 18 tM2 (up 3 te (up 14 tA (up 15 tS zC18))))))))))))))), up 0 rvs zC19, zC20, zC21, up 4 began (up 5 ahead (up 6 size (up 7 x zC22))), zC23, up 0 first zC24, zCt25)⟩ 
theorem dwhole_l {pp : Program} {w : World} {loose : List Str} {mean : ExcName → Option Value} {mg mb : Str → Option Value} {dp un : Nat} {gd : Option (List Code)} {cn : Str} {cs : Scope} {a : Addr} {ccd : Value} {cl : List (Str × Addr)} {outer : List Env} {A₀ : Around} {base h₀ : Heap} {L : Addr} {m : Str → Option Value} {news : List (Addr × Obj)} {s : Shared} {Q E : Value → Shared → Prop} {d da hg ha rl pl : Addr} {rvs : List Value} {nr : Nat} {fv : Value} {first : Option Hd} {g1 g2 g3 g4 g5 g6 g7 g8 k1 k2 tb tM tM2 te tA tS : Tok}  {began ahead size x : Int}      {rest0 : List (Addr × Obj)} :
    Below A₀ base outer h₀ → Fr h₀ L s.heap m → (Mine.hd.heap_1 w.params).In h₀ → News h₀ L s.heap news → Top pp loose mean mg mb h₀ → cs.kind = .function → dp < 490 → un < 8900 →
    (da, (dictOf [leftact% began g1 (Value.int began tb), leftact% most g2 (Value.int 65535 tM), leftact% holes g3 (Value.ref hg), leftact% parts g4 (Value.ref pl), leftact% «end» g5 (Value.int x te), leftact% ahead g6 (Value.int ahead tA), leftact% first g7 fv, leftact% size g8 (Value.int size tS)] 8)) ∈ news → (d, instObj 452 da) ∈ news → (ha, (dictOf [leftact% most k1 (Value.int 65535 tM2), leftact% rows k2 (Value.ref rl)] 2)) ∈ news → (hg, instObj 398 ha) ∈ news → (rl, listOf rvs.toArray nr) ∈ news → FirstAt w.params rest0 fv first → (∀ p ∈ rest0, p ∈ news) →
    (∀ h' tk', (first = none ∨ rvs ≠ []) → Fr h₀ L h' m → News h₀ L h' news → Q (.bool false) { s with heap := h', toks := tk' }) →
    (∀ h' tk' h1 fh fha p1 p2 p3 p4 p5 p6 p7 p8 p9 p10 n1 n2 n3 n4 n5 n6 n9 n10, first = some h1 → rvs = [] → fv = .ref fh → (fh, instObj 74 fha) ∈ rest0 → (fha, (dictOf [leftact% source p1 (Value.int h1.src n1), leftact% target p2 (Value.int h1.tgt n2), leftact% protocol p3 (Value.int h1.prot n3), leftact% ident p4 (Value.int h1.ident n4), leftact% ttl p5 (Value.int h1.ttl n5), leftact% tos p6 (Value.int h1.tos n6), leftact% dont p7 (Value.bool h1.dont), leftact% more p8 (Value.bool h1.more), leftact% offset p9 (Value.int h1.off n9), leftact% options p10 (Value.bytes #[] n10)] 10)) ∈ rest0 → Fr h₀ L h' m → News h₀ L h' ((fh, instObj 74 fha) :: (fha, (dictOf [leftact% source p1 (Value.int h1.src n1), leftact% target p2 (Value.int h1.tgt n2), leftact% protocol p3 (Value.int h1.prot n3), leftact% ident p4 (Value.int h1.ident n4), leftact% ttl p5 (Value.int h1.ttl n5), leftact% tos p6 (Value.int h1.tos n6), leftact% dont p7 (Value.bool h1.dont), leftact% more p8 (Value.bool h1.more), leftact% offset p9 (Value.int h1.off n9), leftact% options p10 (Value.bytes #[] n10)] 10)) :: news) → Q (.bool true) { s with heap := h', toks := tk' }) →
    wpAny (model Challenge.rw_xw0340_01.row.prog w) (ktrTop dp un gd cn cs L a ccd cl outer) (call (.ref 437) [.ref d]) Q E s := by
  intros B F X N T hk hd hu m1 m2 m3 m4 m5 hF hs ret0 ret1
  refine dwhole_b B F X N T hk hd hu m1 m2 m3 m4 m5 (hF.mono hs) fun bb h' tk' e F' N' => ?_
  subst e
  cases first with
  | none => exact ret0 h' tk' (.inl rfl) F' N'
  | some h1 =>
    cases rvs with
    | cons v r => exact ret0 h' tk' (.inr (by simp)) F' N'
    | nil =>
      obtain ⟨fh, e, fha, q1, q2, q3, q4, q5, q6, q7, q8, q9, q10, t1, t2, t3, t4, t5, t6, t9, t10, k1, k2⟩ := hF
      exact ret1 h' tk' h1 fh fha _ _ _ _ _ _ _ _ _ _ _ _ _ _ _ _ _ _ rfl rfl e k1 k2 F' fun q hq => by
        rcases List.mem_cons.mp hq with rfl | hq
        · exact N' _ (hs _ k1)
        rcases List.mem_cons.mp hq with rfl | hq
        · exact N' _ (hs _ k2)
        · exact N' _ hq
theorem dwhole_m {pp : Program} {w : World} {loose : List Str} {mean : ExcName → Option Value} {mg mb : Str → Option Value} {dp un : Nat} {gd : Option (List Code)} {cn : Str} {cs : Scope} {a : Addr} {ccd : Value} {cl : List (Str × Addr)} {outer : List Env} {A₀ : Around} {base h₀ : Heap} {L : Addr} {m : Str → Option Value} {news : List (Addr × Obj)} {s : Shared} {Q E : Value → Shared → Prop} {d da hg ha rl pl : Addr} {rvs : List Value} {nr : Nat} {fv : Value} {first : Option Hd} {g1 g2 g3 g4 g5 g6 g7 g8 k1 k2 tb tM tM2 te tA tS : Tok}  {began ahead size : Int}     {fin : Option Int} {rest0 : List (Addr × Obj)} :
    Below A₀ base outer h₀ → Fr h₀ L s.heap m → (Mine.hd.heap_1 w.params).In h₀ → News h₀ L s.heap news → Top pp loose mean mg mb h₀ → cs.kind = .function → dp < 490 → un < 8900 →
    (da, (dictOf [leftact% began g1 (Value.int began tb), leftact% most g2 (Value.int 65535 tM), leftact% holes g3 (Value.ref hg), leftact% parts g4 (Value.ref pl), leftact% «end» g5 (finV fin te), leftact% ahead g6 (Value.int ahead tA), leftact% first g7 fv, leftact% size g8 (Value.int size tS)] 8)) ∈ news → (d, instObj 452 da) ∈ news → (ha, (dictOf [leftact% most k1 (Value.int 65535 tM2), leftact% rows k2 (Value.ref rl)] 2)) ∈ news → (hg, instObj 398 ha) ∈ news → (rl, listOf rvs.toArray nr) ∈ news → FirstAt w.params rest0 fv first → (∀ p ∈ rest0, p ∈ news) →
    (∀ h' tk', (fin = none ∨ first = none ∨ rvs ≠ []) → Fr h₀ L h' m → News h₀ L h' news → Q (.bool false) { s with heap := h', toks := tk' }) →
    (∀ h' tk' xe h1 fh fha p1 p2 p3 p4 p5 p6 p7 p8 p9 p10 n1 n2 n3 n4 n5 n6 n9 n10, fin = some xe → first = some h1 → rvs = [] → fv = .ref fh → (fh, instObj 74 fha) ∈ rest0 → (fha, (dictOf [leftact% source p1 (Value.int h1.src n1), leftact% target p2 (Value.int h1.tgt n2), leftact% protocol p3 (Value.int h1.prot n3), leftact% ident p4 (Value.int h1.ident n4), leftact% ttl p5 (Value.int h1.ttl n5), leftact% tos p6 (Value.int h1.tos n6), leftact% dont p7 (Value.bool h1.dont), leftact% more p8 (Value.bool h1.more), leftact% offset p9 (Value.int h1.off n9), leftact% options p10 (Value.bytes #[] n10)] 10)) ∈ rest0 → Fr h₀ L h' m → News h₀ L h' ((fh, instObj 74 fha) :: (fha, (dictOf [leftact% source p1 (Value.int h1.src n1), leftact% target p2 (Value.int h1.tgt n2), leftact% protocol p3 (Value.int h1.prot n3), leftact% ident p4 (Value.int h1.ident n4), leftact% ttl p5 (Value.int h1.ttl n5), leftact% tos p6 (Value.int h1.tos n6), leftact% dont p7 (Value.bool h1.dont), leftact% more p8 (Value.bool h1.more), leftact% offset p9 (Value.int h1.off n9), leftact% options p10 (Value.bytes #[] n10)] 10)) :: news) → Q (.bool true) { s with heap := h', toks := tk' }) →
    wpAny (model Challenge.rw_xw0340_01.row.prog w) (ktrTop dp un gd cn cs L a ccd cl outer) (call (.ref 437) [.ref d]) Q E s := by
  intros B F X N T hk hd hu m1 m2 m3 m4 m5 hF hs ret0 ret1
  cases fin with
  | none => exact dwhole_a B F X N T hk hd hu m1 m2 (fun h' tk' F' N' => ret0 h' tk' (.inl rfl) F' N')
  | some x => exact dwhole_l B F X N T hk hd hu m1 m2 m3 m4 m5 hF hs (fun h' tk' e F' N' => ret0 h' tk' (.inr e) F' N') (fun h' tk' h1 fh fha _ _ _ _ _ _ _ _ _ _ _ _ _ _ _ _ _ _ e1 e2 e3 k1 k2 F' N' => ret1 h' tk' x h1 fh fha _ _ _ _ _ _ _ _ _ _ _ _ _ _ _ _ _ _ rfl e1 e2 e3 k1 k2 F' N')
theorem rows_Y01a : True := by
  k_with "my:call builtin:sorted" => row_timed "f" ((k_here; (with_reducible show wpAny _ _ (call (Value.builtin _) [Value.ref _]) _ _ _); k_dflt (refine' Mine.sorted_tup ?F ?N ?l ?t ?z ?y ?p ?o ?_; (case F => k_asm); (case N => k_asm); (case l => k_mem); (case t => (refine' Mine.TupInts.mono ?hs ?hp; (case hp => assumption); (case hs => kcf_all))); (case z => assumption); (case y => assumption); (case p => assumption); (case o => assumption)); intro D' e' h' F' N' l1; (try k_lt l1); (try k_sweep)))
  trivial
def octets2_S (pp : Program) (w : World) (loose : List Str) (mean : ExcName → Option Value) (mg : Str → Option Value) (mb : Str → Option Value) (dp : Nat) (un : Nat) (gd : Option (List Code)) (cn : Str) (cs : Scope) (a : Addr) (ccd : Value) (cl : List (Str × Addr)) (outer : List Env) (A₀ : Around) (base : Heap) (h₀ : Heap) (L : Addr) (m : Str → Option Value) (news : List (Addr × Obj)) (s : Shared) (Q : Value → Shared → Prop) (E : Value → Shared → Prop) (d : Addr) (da : Addr) (hg : Addr) (pl : Addr) (e0 : Addr) (e1 : Addr) (vs : List Value) (ks : List Int) (p9 : Array Nat) (ev : Value) (fv : Value) (np_z : Nat) (g1 : Tok) (g2 : Tok) (g3 : Tok) (g4 : Tok) (g5 : Tok) (g6 : Tok) (g7 : Tok) (g8 : Tok) (tb : Tok) (tM : Tok) (tA : Tok) (tS : Tok) (u0 : Tok) (u1 : Tok) (v0 : Tok) (v1 : Tok) (began : Int) (ahead : Int) (size : Int) (c0 : Byt) (c1 : Byt) : Prop := Below A₀ base outer h₀ → Fr h₀ L s.heap m → (Mine.hd.heap_1 w.params).In h₀ → News h₀ L s.heap news → Top pp loose mean mg mb h₀ → cs.kind = .function → dp < 490 → un < 8900 → 
    (da, (dictOf [leftact% began g1 (Value.int began tb), leftact% most g2 (Value.int 65535 tM), leftact% holes g3 (Value.ref hg), leftact% parts g4 (Value.ref pl), leftact% «end» g5 ev, leftact% ahead g6 (Value.int ahead tA), leftact% first g7 fv, leftact% size g8 (Value.int size tS)] 8)) ∈ news → (d, instObj 452 da) ∈ news → (pl, listOf vs.toArray np_z) ∈ news → TupInts news vs ks → runT ks (PySem.W.kas_sort vs.length) = some p9 → (p9.toList.map fun i => vs.getD i Value.none) = [Value.ref e0, Value.ref e1] → 2 ≤ vs.length → vs.length < 64 → (e0, partObj 0 u0 c0 v0) ∈ news → (e1, partObj 8 u1 c1 v1) ∈ news → c0.size + c1.size ≤ 16777216 → 
    (∀ tr h' tk',  Fr h₀ L h' m → News h₀ L h' (news) →  Q (.bytes (c0 ++ c1) tr) { s with heap := h', toks := tk' }) →
    wpAny (model Challenge.rw_xw0340_01.row.prog w) (ktrTop dp un gd cn cs L a ccd cl outer) (call (.ref 442) [.ref d]) Q E s
open Cx in
def octets2_P [Cx] : Prop := octets2_S pp w loose mean mg mb dp un gd cn cs a ccd cl outer A₀ base h₀ L m news s Q E d da hg pl e0 e1 vs ks p9 ev fv np_z g1 g2 g3 g4 g5 g6 g7 g8 tb tM tA tS u0 u1 v0 v1 began ahead size c0 c1
noncomputable def octets2_C : Cx := Mine.ep neCx (fun c => ¬ @octets2_P c)
noncomputable instance octets2_I : Cx := octets2_C
open Cx in
set_option maxHeartbeats 4000000 in
theorem octets2_T : octets2_P := by
  unfold octets2_P octets2_S
  k_fill
  intro B F X N T hk hd hu hS0 hS1 hS2 hS3 hS4 hS5 hS6 hS7 hS8 hS9 hz ret
  refine wpAny_call ?_
  refine' code_part (rw := []) (ro := news) (rest := news) ?k1 ?k2 ?k3 ?k4 ?k5 ?kA ?kF ?kK ?k6 ?k7 ?k8 ?k9 ?kB ?r1 ?r2 ?r3 ?r4 ?_ ?c2 ?c3 ?c4 ?c5
  k_extra "my:enter"
  (case r1 => intro q hq; cases hq)
  (case r2 => exact fun q hq => hq)
  (case r3 => exact fun q hq => hq)
  (case r4 => intro q hq; cases hq)
  intro g' L' h' FG' F' N' B' X' T' hLt hst
  (try simp only [List.nil_append, List.cons_append] at N' hLt)
  (try dsimp only)
  k_steps
  all_goals (rename (News _ _ _ _ → News _ _ _ _) => hR)
  all_goals (refine' ret _ _ _ ?f ?nn; (case f => k_asm); (case nn => exact hR (newsub (by k_asm) (by kcf_all))))
theorem octets2 : octets2_S pp w loose mean mg mb dp un gd cn cs a ccd cl outer A₀ base h₀ L m news s Q E d da hg pl e0 e1 vs ks p9 ev fv np_z g1 g2 g3 g4 g5 g6 g7 g8 tb tM tA tS u0 u1 v0 v1 began ahead size c0 c1 := Mine.ep_all (P := fun c => @octets2_P c) neCx octets2_T ⟨(up 0 pp zC0, up 0 w zC1, up 0 loose zC2, up 0 mean zC3, up 0 mg (up 1 mb (up 2 m zC4)), up 0 dp (up 1 un (up 3 np_z zC5)), up 0 gd zC6, up 0 cn zC7, up 0 cs zC8, up 0 a (up 1 L (up 6 d (up 7 da (up 2 hg (up 8 pl (up 11 e0 (up 12 e1 zC9))))))), up 0 ccd (up 11 ev (up 3 fv zC10)), up 0 cl zC11, up 0 outer zC12, up 0 A₀ zC13, up 0 base (up 1 h₀ zC14), up 0 news zC15, up 0 s zC16, up 0 Q (up 1 E zC17), up 6 g1 (up 7 g2 (up 8 g3 (up 9 g4 (up 10 g5 (up 11 g6 (up 12 g7 (up 13 g8 (up 2 tb (up 4 tM (up 14 tA (up 15 tS (up 36 u0 (up 37 u1 (up 38 v0 (up 39 v1 zC18))))))))))))))), up 1 vs zC19, zC20, zC21, up 4 began (up 5 ahead (up 6 size zC22)), zC23, zC24, zC25, zC26, up 1 c0 (up 2 c1 zC27), zC28, up 0 ks zC29, up 0 p9 zC30, zCt31)⟩ 
def octets3_S (pp : Program) (w : World) (loose : List Str) (mean : ExcName → Option Value) (mg : Str → Option Value) (mb : Str → Option Value) (dp : Nat) (un : Nat) (gd : Option (List Code)) (cn : Str) (cs : Scope) (a : Addr) (ccd : Value) (cl : List (Str × Addr)) (outer : List Env) (A₀ : Around) (base : Heap) (h₀ : Heap) (L : Addr) (m : Str → Option Value) (news : List (Addr × Obj)) (s : Shared) (Q : Value → Shared → Prop) (E : Value → Shared → Prop) (d : Addr) (da : Addr) (hg : Addr) (pl : Addr) (e0 : Addr) (e1 : Addr) (e2 : Addr) (vs : List Value) (ks : List Int) (p9 : Array Nat) (ev : Value) (fv : Value) (np_z : Nat) (g1 : Tok) (g2 : Tok) (g3 : Tok) (g4 : Tok) (g5 : Tok) (g6 : Tok) (g7 : Tok) (g8 : Tok) (tb : Tok) (tM : Tok) (tA : Tok) (tS : Tok) (u0 : Tok) (u1 : Tok) (u2 : Tok) (v0 : Tok) (v1 : Tok) (v2 : Tok) (began : Int) (ahead : Int) (size : Int) (c0 : Byt) (c1 : Byt) (c2 : Byt) : Prop := Below A₀ base outer h₀ → Fr h₀ L s.heap m → (Mine.hd.heap_1 w.params).In h₀ → News h₀ L s.heap news → Top pp loose mean mg mb h₀ → cs.kind = .function → dp < 490 → un < 8900 → 
    (da, (dictOf [leftact% began g1 (Value.int began tb), leftact% most g2 (Value.int 65535 tM), leftact% holes g3 (Value.ref hg), leftact% parts g4 (Value.ref pl), leftact% «end» g5 ev, leftact% ahead g6 (Value.int ahead tA), leftact% first g7 fv, leftact% size g8 (Value.int size tS)] 8)) ∈ news → (d, instObj 452 da) ∈ news → (pl, listOf vs.toArray np_z) ∈ news → TupInts news vs ks → runT ks (PySem.W.kas_sort vs.length) = some p9 → (p9.toList.map fun i => vs.getD i Value.none) = [Value.ref e0, Value.ref e1, Value.ref e2] → 2 ≤ vs.length → vs.length < 64 → (e0, partObj 0 u0 c0 v0) ∈ news → (e1, partObj 8 u1 c1 v1) ∈ news → (e2, partObj 16 u2 c2 v2) ∈ news → c0.size + c1.size + c2.size ≤ 16777216 → 
    (∀ tr h' tk',  Fr h₀ L h' m → News h₀ L h' (news) →  Q (.bytes (c0 ++ c1 ++ c2) tr) { s with heap := h', toks := tk' }) →
    wpAny (model Challenge.rw_xw0340_01.row.prog w) (ktrTop dp un gd cn cs L a ccd cl outer) (call (.ref 442) [.ref d]) Q E s
open Cx in
def octets3_P [Cx] : Prop := octets3_S pp w loose mean mg mb dp un gd cn cs a ccd cl outer A₀ base h₀ L m news s Q E d da hg pl e0 e1 e2 vs ks p9 ev fv np_z g1 g2 g3 g4 g5 g6 g7 g8 tb tM tA tS u0 u1 u2 v0 v1 v2 began ahead size c0 c1 c2
noncomputable def octets3_C : Cx := Mine.ep neCx (fun c => ¬ @octets3_P c)
noncomputable instance octets3_I : Cx := octets3_C
open Cx in
set_option maxHeartbeats 4000000 in
theorem octets3_T : octets3_P := by
  unfold octets3_P octets3_S
  k_fill
  intro B F X N T hk hd hu hS0 hS1 hS2 hS3 hS4 hS5 hS6 hS7 hS8 hS9 hS10 hz ret
  refine wpAny_call ?_
  refine' code_part (rw := []) (ro := news) (rest := news) ?k1 ?k2 ?k3 ?k4 ?k5 ?kA ?kF ?kK ?k6 ?k7 ?k8 ?k9 ?kB ?r1 ?r2 ?r3 ?r4 ?_ ?c2 ?c3 ?c4 ?c5
  k_extra "my:enter"
  (case r1 => intro q hq; cases hq)
  (case r2 => exact fun q hq => hq)
  (case r3 => exact fun q hq => hq)
  (case r4 => intro q hq; cases hq)
  intro g' L' h' FG' F' N' B' X' T' hLt hst
  (try simp only [List.nil_append, List.cons_append] at N' hLt)
  (try dsimp only)
  k_steps
  all_goals (rename (News _ _ _ _ → News _ _ _ _) => hR)
  all_goals (refine' ret _ _ _ ?f ?nn; (case f => k_asm); (case nn => exact hR (newsub (by k_asm) (by kcf_all))))
theorem octets3 : octets3_S pp w loose mean mg mb dp un gd cn cs a ccd cl outer A₀ base h₀ L m news s Q E d da hg pl e0 e1 e2 vs ks p9 ev fv np_z g1 g2 g3 g4 g5 g6 g7 g8 tb tM tA tS u0 u1 u2 v0 v1 v2 began ahead size c0 c1 c2 := Mine.ep_all (P := fun c => @octets3_P c) neCx octets3_T ⟨(up 0 pp zC0, up 0 w zC1, up 0 loose zC2, up 0 mean zC3, up 0 mg (up 1 mb (up 2 m zC4)), up 0 dp (up 1 un (up 3 np_z zC5)), up 0 gd zC6, up 0 cn zC7, up 0 cs zC8, up 0 a (up 1 L (up 6 d (up 7 da (up 2 hg (up 8 pl (up 11 e0 (up 12 e1 (up 13 e2 zC9)))))))), up 0 ccd (up 11 ev (up 3 fv zC10)), up 0 cl zC11, up 0 outer zC12, up 0 A₀ zC13, up 0 base (up 1 h₀ zC14), up 0 news zC15, up 0 s zC16, up 0 Q (up 1 E zC17), up 6 g1 (up 7 g2 (up 8 g3 (up 9 g4 (up 10 g5 (up 11 g6 (up 12 g7 (up 13 g8 (up 2 tb (up 4 tM (up 14 tA (up 15 tS (up 36 u0 (up 37 u1 (up 40 u2 (up 38 v0 (up 39 v1 (up 41 v2 zC18))))))))))))))))), up 1 vs zC19, zC20, zC21, up 4 began (up 5 ahead (up 6 size zC22)), zC23, zC24, zC25, zC26, up 1 c0 (up 2 c1 (up 3 c2 zC27)), zC28, up 0 ks zC29, up 0 p9 zC30, zCt31)⟩ 
theorem rows_Z01a : True := by
  k_with "my:subscriptTail" => row_timed "f" ((k_here; (with_reducible show wpAny _ _ (subscriptTail _ _ (Value.ref _) (Value.ref _)) _ _ _); k_dflt (refine' Mine.w_item ?hu ?N ?hm ?hw ?hk ?hka ?tk ?hp ?_ ?hs ?hg; (case N => k_asm); (case hm => k_mem); (case hw => assumption); (case hka => k_mem); (case tk => exact Mine.key4); (case hp => first | assumption | exact Mine.w_get (by assumption) 0 rfl | exact Mine.w_get (by assumption) 1 rfl | exact Mine.w_get (by assumption) 2 rfl | exact Mine.w_get (by assumption) 3 rfl); (case hu => k_extra "my:kd"); (case hk => first | (refine' Mine.WKeys.mono ?ws ?wk; (case wk => assumption); (case ws => kcf_all)) | (refine' Mine.wkeys_app ?ws ?wk ?wm Mine.key4; (case wk => assumption); (case ws => kcf_all); (case wm => k_mem))); (case hs => with_unfolding_all rfl); (case hg => intro _; with_unfolding_all rfl)); intro tk'))
  k_with "my:CompRest" => row_timed "f" ((with_unfolding_all first
  | (refine LCg.CompRest.succ ?_; intro v' I' oI' C' oC' D' m' h' tk' E' hv' hC' hx' F' N' off' ne'; (replace hv' := Option.some.inj hv'); subst hv')
  | refine LCg.CompRest.zero ?_))
  k_with "my:CompEnd" => row_timed "f" ((refine' LCg.CompEnd.intro ?F ?N _ ?sub ?off ?src ?_; (case off => assumption); (case F => k_asm); (case N => k_asm); (case sub => kcf_all); (case src => k_mem)))
  k_with "my:eval ListComp" => row_timed "f" (((fail_if_success k_extra "off:Z"); k_here; k_dflt (refine Mine.ListComp_D (knd := tupleKind (intKind _ _)) (by k_asm) (by rfl) (by decide) (by rfl) (by decide) (by rfl) ?_ (by intro _; rfl))))
  k_with "my:SrcD" => row_timed "f" ((k_here; k_dflt (refine' Mine.SrcD.intro ?hh ?lo ?F ?N ?hm ?hw ?hz ?_; (case hh => rfl); (case F => k_asm); (case N => k_asm); (case hm => k_mem); (case hw => assumption); (case hz => exact Nat.le_of_ble_eq_true rfl); (case lo => assumption)); intro g'; dsimp only [List.length_cons, List.length_nil]; lcg_lit))
  trivial
def stored_1_S (pp : Program) (w : World) (loose : List Str) (mean : ExcName → Option Value) (mg : Str → Option Value) (mb : Str → Option Value) (dp : Nat) (un : Nat) (gd : Option (List Code)) (cn : Str) (cs : Scope) (a : Addr) (ccd : Value) (cl : List (Str × Addr)) (outer : List Env) (A₀ : Around) (base : Heap) (h₀ : Heap) (L : Addr) (m : Str → Option Value) (news : List (Addr × Obj)) (s : Shared) (Q : Value → Shared → Prop) (E : Value → Shared → Prop) (re : Addr) (rd : Addr) (wd : Addr) (ka0 : Addr) (d0 : Addr) (da0 : Addr) (wo : Obj) (r1_2z : Tok) (r2_2z : Tok) (r3 : Tok) (r4 : Tok) (tl1 : Tok) (tl2 : Tok) (tl3 : Tok) (g01 : Tok) (g02 : Tok) (g03 : Tok) (g04 : Tok) (g05 : Tok) (g06 : Tok) (g07 : Tok) (g08 : Tok) (x01 : Tok) (x02 : Tok) (x03 : Tok) (x04 : Tok) (tz0 : Tok) (lim : Int) (a01 : Int) (a02 : Int) (a03 : Int) (a04 : Int) (z0 : Int) (b01 : Value) (b02 : Value) (b03 : Value) (b04 : Value) (b05 : Value) (b06 : Value) (b07 : Value) : Prop := Below A₀ base outer h₀ → Fr h₀ L s.heap m → (Mine.hd.heap_1 w.params).In h₀ → News h₀ L s.heap news → Top pp loose mean mg mb h₀ → cs.kind = .function → dp < 485 → un < 8850 → 
    WObj Challenge.rw_xw0340_01.row.prog w wo [([a01, a02, a03, a04], ka0, Value.ref d0)] → (wd == sysModules) = false → (re, instObj 535 rd) ∈ news → (rd, (dictOf [leftact% time_limit r1_2z (Value.int lim tl1), leftact% most_octets r2_2z (Value.int 999 tl2), leftact% most r3 (Value.int 65535 tl3), leftact% waiting r4 (Value.ref wd)] 4)) ∈ news → (wd, wo) ∈ news → (ka0, ({ cls := .type "tuple", data := .seq #[Value.int a01 x01, Value.int a02 x02, Value.int a03 x03, Value.int a04 x04] } : Obj)) ∈ news → (d0, instObj 452 da0) ∈ news → (da0, (dictOf [leftact% began g01 b01, leftact% most g02 b02, leftact% holes g03 b03, leftact% parts g04 b04, leftact% «end» g05 b05, leftact% ahead g06 b06, leftact% first g07 b07, leftact% size g08 (Value.int z0 tz0)] 8)) ∈ news → 0 ≤ z0 → z0 ≤ 65535 → 
    (∀ sm tr h' tk', sm = z0 → Fr h₀ L h' m → News h₀ L h' (news) →  Q (.int sm tr) { s with heap := h', toks := tk' }) →
    wpAny (model Challenge.rw_xw0340_01.row.prog w) (ktrTop dp un gd cn cs L a ccd cl outer) (call (.ref 504) [.ref re]) Q E s
open Cx in
def stored_1_P [Cx] : Prop := stored_1_S pp w loose mean mg mb dp un gd cn cs a ccd cl outer A₀ base h₀ L m news s Q E re rd wd ka0 d0 da0 wo r1_2z r2_2z r3 r4 tl1 tl2 tl3 g01 g02 g03 g04 g05 g06 g07 g08 x01 x02 x03 x04 tz0 lim a01 a02 a03 a04 z0 b01 b02 b03 b04 b05 b06 b07
noncomputable def stored_1_C : Cx := Mine.ep neCx (fun c => ¬ @stored_1_P c)
noncomputable instance stored_1_I : Cx := stored_1_C
open Cx in
set_option maxHeartbeats 4000000 in
theorem stored_1_T : stored_1_P := by
  unfold stored_1_P stored_1_S
  k_fill
  intro B F X N T hk hd hu hW lo hS0 hS1 hS2 hS3 hS4 hS5 hz0 hy0 ret
  refine wpAny_call ?_
  refine' code_partC (rw := []) (ro := [(re, instObj 535 rd), (rd, (dictOf [leftact% time_limit r1_2z (Value.int lim tl1), leftact% most_octets r2_2z (Value.int 999 tl2), leftact% most r3 (Value.int 65535 tl3), leftact% waiting r4 (Value.ref wd)] 4)), (wd, wo), (ka0, ({ cls := .type "tuple", data := .seq #[Value.int a01 x01, Value.int a02 x02, Value.int a03 x03, Value.int a04 x04] } : Obj)), (d0, instObj 452 da0), (da0, (dictOf [leftact% began g01 b01, leftact% most g02 b02, leftact% holes g03 b03, leftact% parts g04 b04, leftact% «end» g05 b05, leftact% ahead g06 b06, leftact% first g07 b07, leftact% size g08 (Value.int z0 tz0)] 8))]) (rest := news) ?k1 ?k2 ?k3 ?k4 ?k5 ?kA ?kF ?kK ?k6 ?k7 ?k8 ?k9 ?kB ?kD ?r1_2z ?r2_2z ?r3 ?r4 ?_ ?c2 ?c3 ?c4
  k_extra "my:enterC"
  (case r1_2z => intro q hq; cases hq)
  (case r2_2z => exact fun q hq => hq)
  (case r3 => exact List.forall_mem_cons.mpr ⟨hS0, List.forall_mem_cons.mpr ⟨hS1, List.forall_mem_cons.mpr ⟨hS2, List.forall_mem_cons.mpr ⟨hS3, List.forall_mem_cons.mpr ⟨hS4, List.forall_mem_cons.mpr ⟨hS5, List.forall_mem_nil _⟩⟩⟩⟩⟩⟩)
  (case r4 => intro q hq; cases hq)
  intro g' L' h' tk' cells' FG' F' N' Y' B' X' T' hLt hst
  (try simp only [List.cons_append, List.nil_append] at hLt)
  (try k_lt hLt)
  k_cells Y'
  (try simp only [List.nil_append, List.cons_append] at N')
  (try dsimp only)
  obtain ⟨es0, ep0, hraw⟩ := hW.raw
  have hWK : WKeys Challenge.rw_xw0340_01.row.prog w [(re, instObj 535 rd), (rd, (dictOf [leftact% time_limit r1_2z (Value.int lim tl1), leftact% most_octets r2_2z (Value.int 999 tl2), leftact% most r3 (Value.int 65535 tl3), leftact% waiting r4 (Value.ref wd)] 4)), (wd, wo), (ka0, ({ cls := .type "tuple", data := .seq #[Value.int a01 x01, Value.int a02 x02, Value.int a03 x03, Value.int a04 x04] } : Obj)), (d0, instObj 452 da0), (da0, (dictOf [leftact% began g01 b01, leftact% most g02 b02, leftact% holes g03 b03, leftact% parts g04 b04, leftact% «end» g05 b05, leftact% ahead g06 b06, leftact% first g07 b07, leftact% size g08 (Value.int z0 tz0)] 8))] [([a01, a02, a03, a04], ka0, Value.ref d0)] := by
    intro x hx
    simp only [List.mem_cons, List.not_mem_nil, or_false] at hx
    subst hx
    exact ⟨({ cls := .type "tuple", data := .seq #[Value.int a01 x01, Value.int a02 x02, Value.int a03 x03, Value.int a04 x04] } : Obj), by simp, key4⟩
  k_steps
  all_goals (rename (News _ _ _ _ → News _ _ _ _) => hR)
  all_goals (refine' ret _ _ _ _ ?b ?f ?nn; (case f => k_asm); (case nn => exact hR (newsl (by k_asm) (by k_subL))); (case b => omega))
theorem stored_1 : stored_1_S pp w loose mean mg mb dp un gd cn cs a ccd cl outer A₀ base h₀ L m news s Q E re rd wd ka0 d0 da0 wo r1_2z r2_2z r3 r4 tl1 tl2 tl3 g01 g02 g03 g04 g05 g06 g07 g08 x01 x02 x03 x04 tz0 lim a01 a02 a03 a04 z0 b01 b02 b03 b04 b05 b06 b07 := Mine.ep_all (P := fun c => @stored_1_P c) neCx stored_1_T ⟨(up 0 pp zC0, up 0 w zC1, up 0 loose zC2, up 0 mean zC3, up 0 mg (up 1 mb (up 2 m zC4)), up 0 dp (up 1 un zC5), up 0 gd zC6, up 0 cn zC7, up 0 cs zC8, up 0 a (up 1 L (up 14 re (up 15 rd (up 16 wd (up 17 ka0 (up 18 d0 (up 19 da0 zC9))))))), up 0 ccd (up 12 b01 (up 13 b02 (up 14 b03 (up 15 b04 (up 16 b05 (up 17 b06 (up 18 b07 zC10))))))), up 0 cl zC11, up 0 outer zC12, up 0 A₀ zC13, up 0 base (up 1 h₀ zC14), up 0 news zC15, up 0 s zC16, up 0 Q (up 1 E zC17), up 34 r1_2z (up 35 r2_2z (up 42 r3 (up 43 r4 (up 44 tl1 (up 45 tl2 (up 46 tl3 (up 47 g01 (up 48 g02 (up 49 g03 (up 50 g04 (up 51 g05 (up 52 g06 (up 53 g07 (up 54 g08 (up 55 x01 (up 56 x02 (up 57 x03 (up 58 x04 (up 59 tz0 zC18))))))))))))))))))), zC19, zC20, zC21, up 9 lim (up 10 a01 (up 11 a02 (up 12 a03 (up 13 a04 (up 14 z0 zC22))))), zC23, zC24, zC25, zC26, zC27, zC28, zC29, zC30, up 0 wo zC31, zCt32)⟩ 
def stored_2_S (pp : Program) (w : World) (loose : List Str) (mean : ExcName → Option Value) (mg : Str → Option Value) (mb : Str → Option Value) (dp : Nat) (un : Nat) (gd : Option (List Code)) (cn : Str) (cs : Scope) (a : Addr) (ccd : Value) (cl : List (Str × Addr)) (outer : List Env) (A₀ : Around) (base : Heap) (h₀ : Heap) (L : Addr) (m : Str → Option Value) (news : List (Addr × Obj)) (s : Shared) (Q : Value → Shared → Prop) (E : Value → Shared → Prop) (re : Addr) (rd : Addr) (wd : Addr) (ka0 : Addr) (d0 : Addr) (da0 : Addr) (ka1 : Addr) (d1 : Addr) (da1 : Addr) (wo : Obj) (r1_2z : Tok) (r2_2z : Tok) (r3 : Tok) (r4 : Tok) (tl1 : Tok) (tl2 : Tok) (tl3 : Tok) (g01 : Tok) (g02 : Tok) (g03 : Tok) (g04 : Tok) (g05 : Tok) (g06 : Tok) (g07 : Tok) (g08 : Tok) (g11 : Tok) (g12 : Tok) (g13 : Tok) (g14 : Tok) (g15 : Tok) (g16 : Tok) (g17 : Tok) (g18 : Tok) (x01 : Tok) (x02 : Tok) (x03 : Tok) (x04 : Tok) (x11 : Tok) (x12 : Tok) (x13 : Tok) (x14 : Tok) (tz0 : Tok) (tz1 : Tok) (lim : Int) (a01 : Int) (a02 : Int) (a03 : Int) (a04 : Int) (a11 : Int) (a12 : Int) (a13 : Int) (a14 : Int) (z0 : Int) (z1 : Int) (b01 : Value) (b02 : Value) (b03 : Value) (b04 : Value) (b05 : Value) (b06 : Value) (b07 : Value) (b11 : Value) (b12 : Value) (b13 : Value) (b14 : Value) (b15 : Value) (b16 : Value) (b17 : Value) : Prop := Below A₀ base outer h₀ → Fr h₀ L s.heap m → (Mine.hd.heap_1 w.params).In h₀ → News h₀ L s.heap news → Top pp loose mean mg mb h₀ → cs.kind = .function → dp < 485 → un < 8850 → 
    WObj Challenge.rw_xw0340_01.row.prog w wo [([a01, a02, a03, a04], ka0, Value.ref d0), ([a11, a12, a13, a14], ka1, Value.ref d1)] → (wd == sysModules) = false → (re, instObj 535 rd) ∈ news → (rd, (dictOf [leftact% time_limit r1_2z (Value.int lim tl1), leftact% most_octets r2_2z (Value.int 999 tl2), leftact% most r3 (Value.int 65535 tl3), leftact% waiting r4 (Value.ref wd)] 4)) ∈ news → (wd, wo) ∈ news → (ka0, ({ cls := .type "tuple", data := .seq #[Value.int a01 x01, Value.int a02 x02, Value.int a03 x03, Value.int a04 x04] } : Obj)) ∈ news → (d0, instObj 452 da0) ∈ news → (da0, (dictOf [leftact% began g01 b01, leftact% most g02 b02, leftact% holes g03 b03, leftact% parts g04 b04, leftact% «end» g05 b05, leftact% ahead g06 b06, leftact% first g07 b07, leftact% size g08 (Value.int z0 tz0)] 8)) ∈ news → (ka1, ({ cls := .type "tuple", data := .seq #[Value.int a11 x11, Value.int a12 x12, Value.int a13 x13, Value.int a14 x14] } : Obj)) ∈ news → (d1, instObj 452 da1) ∈ news → (da1, (dictOf [leftact% began g11 b11, leftact% most g12 b12, leftact% holes g13 b13, leftact% parts g14 b14, leftact% «end» g15 b15, leftact% ahead g16 b16, leftact% first g17 b17, leftact% size g18 (Value.int z1 tz1)] 8)) ∈ news → 0 ≤ z0 → 0 ≤ z1 → z0 ≤ 65535 → z1 ≤ 65535 → 
    (∀ sm tr h' tk', sm = z0 + z1 → Fr h₀ L h' m → News h₀ L h' (news) →  Q (.int sm tr) { s with heap := h', toks := tk' }) →
    wpAny (model Challenge.rw_xw0340_01.row.prog w) (ktrTop dp un gd cn cs L a ccd cl outer) (call (.ref 504) [.ref re]) Q E s
open Cx in
def stored_2_P [Cx] : Prop := stored_2_S pp w loose mean mg mb dp un gd cn cs a ccd cl outer A₀ base h₀ L m news s Q E re rd wd ka0 d0 da0 ka1 d1 da1 wo r1_2z r2_2z r3 r4 tl1 tl2 tl3 g01 g02 g03 g04 g05 g06 g07 g08 g11 g12 g13 g14 g15 g16 g17 g18 x01 x02 x03 x04 x11 x12 x13 x14 tz0 tz1 lim a01 a02 a03 a04 a11 a12 a13 a14 z0 z1 b01 b02 b03 b04 b05 b06 b07 b11 b12 b13 b14 b15 b16 b17
noncomputable def stored_2_C : Cx := Mine.ep neCx (fun c => ¬ @stored_2_P c)
noncomputable instance stored_2_I : Cx := stored_2_C
open Cx in
set_option maxHeartbeats 4000000 in
theorem stored_2_T : stored_2_P := by
  unfold stored_2_P stored_2_S
  k_fill
  intro B F X N T hk hd hu hW lo hS0 hS1 hS2 hS3 hS4 hS5 hS6 hS7 hS8 hz0 hz1 hy0 hy1 ret
  refine wpAny_call ?_
  refine' code_partC (rw := []) (ro := [(re, instObj 535 rd), (rd, (dictOf [leftact% time_limit r1_2z (Value.int lim tl1), leftact% most_octets r2_2z (Value.int 999 tl2), leftact% most r3 (Value.int 65535 tl3), leftact% waiting r4 (Value.ref wd)] 4)), (wd, wo), (ka0, ({ cls := .type "tuple", data := .seq #[Value.int a01 x01, Value.int a02 x02, Value.int a03 x03, Value.int a04 x04] } : Obj)), (d0, instObj 452 da0), (da0, (dictOf [leftact% began g01 b01, leftact% most g02 b02, leftact% holes g03 b03, leftact% parts g04 b04, leftact% «end» g05 b05, leftact% ahead g06 b06, leftact% first g07 b07, leftact% size g08 (Value.int z0 tz0)] 8)), (ka1, ({ cls := .type "tuple", data := .seq #[Value.int a11 x11, Value.int a12 x12, Value.int a13 x13, Value.int a14 x14] } : Obj)), (d1, instObj 452 da1), (da1, (dictOf [leftact% began g11 b11, leftact% most g12 b12, leftact% holes g13 b13, leftact% parts g14 b14, leftact% «end» g15 b15, leftact% ahead g16 b16, leftact% first g17 b17, leftact% size g18 (Value.int z1 tz1)] 8))]) (rest := news) ?k1 ?k2 ?k3 ?k4 ?k5 ?kA ?kF ?kK ?k6 ?k7 ?k8 ?k9 ?kB ?kD ?r1_2z ?r2_2z ?r3 ?r4 ?_ ?c2 ?c3 ?c4
  k_extra "my:enterC"
  (case r1_2z => intro q hq; cases hq)
  (case r2_2z => exact fun q hq => hq)
  (case r3 => exact List.forall_mem_cons.mpr ⟨hS0, List.forall_mem_cons.mpr ⟨hS1, List.forall_mem_cons.mpr ⟨hS2, List.forall_mem_cons.mpr ⟨hS3, List.forall_mem_cons.mpr ⟨hS4, List.forall_mem_cons.mpr ⟨hS5, List.forall_mem_cons.mpr ⟨hS6, List.forall_mem_cons.mpr ⟨hS7, List.forall_mem_cons.mpr ⟨hS8, List.forall_mem_nil _⟩⟩⟩⟩⟩⟩⟩⟩⟩)
  (case r4 => intro q hq; cases hq)
  intro g' L' h' tk' cells' FG' F' N' Y' B' X' T' hLt hst
  (try simp only [List.cons_append, List.nil_append] at hLt)
  (try k_lt hLt)
  k_cells Y'
  (try simp only [List.nil_append, List.cons_append] at N')
  (try dsimp only)
  obtain ⟨es0, ep0, hraw⟩ := hW.raw
  have hWK : WKeys Challenge.rw_xw0340_01.row.prog w [(re, instObj 535 rd), (rd, (dictOf [leftact% time_limit r1_2z (Value.int lim tl1), leftact% most_octets r2_2z (Value.int 999 tl2), leftact% most r3 (Value.int 65535 tl3), leftact% waiting r4 (Value.ref wd)] 4)), (wd, wo), (ka0, ({ cls := .type "tuple", data := .seq #[Value.int a01 x01, Value.int a02 x02, Value.int a03 x03, Value.int a04 x04] } : Obj)), (d0, instObj 452 da0), (da0, (dictOf [leftact% began g01 b01, leftact% most g02 b02, leftact% holes g03 b03, leftact% parts g04 b04, leftact% «end» g05 b05, leftact% ahead g06 b06, leftact% first g07 b07, leftact% size g08 (Value.int z0 tz0)] 8)), (ka1, ({ cls := .type "tuple", data := .seq #[Value.int a11 x11, Value.int a12 x12, Value.int a13 x13, Value.int a14 x14] } : Obj)), (d1, instObj 452 da1), (da1, (dictOf [leftact% began g11 b11, leftact% most g12 b12, leftact% holes g13 b13, leftact% parts g14 b14, leftact% «end» g15 b15, leftact% ahead g16 b16, leftact% first g17 b17, leftact% size g18 (Value.int z1 tz1)] 8))] [([a01, a02, a03, a04], ka0, Value.ref d0), ([a11, a12, a13, a14], ka1, Value.ref d1)] := by
    intro x hx
    simp only [List.mem_cons, List.not_mem_nil, or_false] at hx
    rcases hx with rfl | rfl
    · exact ⟨({ cls := .type "tuple", data := .seq #[Value.int a01 x01, Value.int a02 x02, Value.int a03 x03, Value.int a04 x04] } : Obj), by simp, key4⟩
    · exact ⟨({ cls := .type "tuple", data := .seq #[Value.int a11 x11, Value.int a12 x12, Value.int a13 x13, Value.int a14 x14] } : Obj), by simp, key4⟩
  k_steps
  all_goals (rename (News _ _ _ _ → News _ _ _ _) => hR)
  all_goals (refine' ret _ _ _ _ ?b ?f ?nn; (case f => k_asm); (case nn => exact hR (newsl (by k_asm) (by k_subL))); (case b => omega))
theorem stored_2 : stored_2_S pp w loose mean mg mb dp un gd cn cs a ccd cl outer A₀ base h₀ L m news s Q E re rd wd ka0 d0 da0 ka1 d1 da1 wo r1_2z r2_2z r3 r4 tl1 tl2 tl3 g01 g02 g03 g04 g05 g06 g07 g08 g11 g12 g13 g14 g15 g16 g17 g18 x01 x02 x03 x04 x11 x12 x13 x14 tz0 tz1 lim a01 a02 a03 a04 a11 a12 a13 a14 z0 z1 b01 b02 b03 b04 b05 b06 b07 b11 b12 b13 b14 b15 b16 b17 := Mine.ep_all (P := fun c => @stored_2_P c) neCx stored_2_T ⟨(up 0 pp zC0, up 0 w zC1, up 0 loose zC2, up 0 mean zC3, up 0 mg (up 1 mb (up 2 m zC4)), up 0 dp (up 1 un zC5), up 0 gd zC6, up 0 cn zC7, up 0 cs zC8, up 0 a (up 1 L (up 14 re (up 15 rd (up 16 wd (up 17 ka0 (up 18 d0 (up 19 da0 (up 20 ka1 (up 21 d1 (up 22 da1 zC9)))))))))), up 0 ccd (up 12 b01 (up 13 b02 (up 14 b03 (up 15 b04 (up 16 b05 (up 17 b06 (up 18 b07 (up 19 b11 (up 20 b12 (up 21 b13 (up 22 b14 (up 23 b15 (up 24 b16 (up 25 b17 zC10)))))))))))))), up 0 cl zC11, up 0 outer zC12, up 0 A₀ zC13, up 0 base (up 1 h₀ zC14), up 0 news zC15, up 0 s zC16, up 0 Q (up 1 E zC17), up 34 r1_2z (up 35 r2_2z (up 42 r3 (up 43 r4 (up 44 tl1 (up 45 tl2 (up 46 tl3 (up 47 g01 (up 48 g02 (up 49 g03 (up 50 g04 (up 51 g05 (up 52 g06 (up 53 g07 (up 54 g08 (up 60 g11 (up 61 g12 (up 62 g13 (up 63 g14 (up 64 g15 (up 65 g16 (up 66 g17 (up 67 g18 (up 55 x01 (up 56 x02 (up 57 x03 (up 58 x04 (up 68 x11 (up 69 x12 (up 70 x13 (up 71 x14 (up 59 tz0 (up 72 tz1 zC18)))))))))))))))))))))))))))))))), zC19, zC20, zC21, up 9 lim (up 10 a01 (up 11 a02 (up 12 a03 (up 13 a04 (up 15 a11 (up 16 a12 (up 17 a13 (up 18 a14 (up 14 z0 (up 19 z1 zC22)))))))))), zC23, zC24, zC25, zC26, zC27, zC28, zC29, zC30, up 0 wo zC31, zCt32)⟩ 
theorem rows_Z02 : True := by
  k_with "off:Z" => skip
  k_with "my:CompRest" => row_timed "f" ((with_unfolding_all first
  | (refine LCg.CompRest.succ ?_; intro v' I' oI' C' oC' D' m' h' tk' E' hv' hC' hx' F' N' off' ne'; (first | lcg_open hv' | (obtain ⟨t9', hv9'⟩ := hv'; subst hv9')))
  | refine LCg.CompRest.zero ?_))
  k_with "my:CompEnd" => row_timed "f" ((refine' LCg.CompEnd.intro ?F ?N _ ?sub ?off ?src ?_; (case off => assumption); (case F => k_asm); (case N => k_asm); (case sub => kcf_all); (case src => lcg_src)))
  k_with "my:eval Call Attribute" => row_timed "f" (((with_reducible show wpAny _ _ (eval (Expr.Call (Expr.Attribute _ "stored" _) _ _ _) _) _ _ _); refine MethodCall_ ?_))
  k_with "my:WhlIf" => row_timed "f" ((first | refine WhlIf.no (decide_eq_false (by omega)) ?_ | refine WhlIf.yes (decide_eq_true (by omega)) ?_))
  trivial
def mroom_1_S (pp : Program) (w : World) (loose : List Str) (mean : ExcName → Option Value) (mg : Str → Option Value) (mb : Str → Option Value) (dp : Nat) (un : Nat) (gd : Option (List Code)) (cn : Str) (cs : Scope) (a : Addr) (ccd : Value) (cl : List (Str × Addr)) (outer : List Env) (A₀ : Around) (base : Heap) (h₀ : Heap) (L : Addr) (m : Str → Option Value) (news : List (Addr × Obj)) (s : Shared) (Q : Value → Shared → Prop) (E : Value → Shared → Prop) (re : Addr) (rd : Addr) (wd : Addr) (ka0 : Addr) (d0 : Addr) (da0 : Addr) (wo : Obj) (r1_2z : Tok) (r2_2z : Tok) (r3 : Tok) (r4 : Tok) (tl1 : Tok) (tl2 : Tok) (tl3 : Tok) (g01 : Tok) (g02 : Tok) (g03 : Tok) (g04 : Tok) (g05 : Tok) (g06 : Tok) (g07 : Tok) (g08 : Tok) (x01 : Tok) (x02 : Tok) (x03 : Tok) (x04 : Tok) (tz0 : Tok) (lim : Int) (a01 : Int) (a02 : Int) (a03 : Int) (a04 : Int) (z0 : Int) (b01 : Value) (b02 : Value) (b03 : Value) (b04 : Value) (b05 : Value) (b06 : Value) (b07 : Value) : Prop := Below A₀ base outer h₀ → Fr h₀ L s.heap m → (Mine.hd.heap_1 w.params).In h₀ → News h₀ L s.heap news → Top pp loose mean mg mb h₀ → cs.kind = .function → dp < 480 → un < 8800 → 
    WObj Challenge.rw_xw0340_01.row.prog w wo [([a01, a02, a03, a04], ka0, Value.ref d0)] → (wd == sysModules) = false → (re, instObj 535 rd) ∈ news → (rd, (dictOf [leftact% time_limit r1_2z (Value.int lim tl1), leftact% most_octets r2_2z (Value.int 999 tl2), leftact% most r3 (Value.int 65535 tl3), leftact% waiting r4 (Value.ref wd)] 4)) ∈ news → (wd, wo) ∈ news → (ka0, ({ cls := .type "tuple", data := .seq #[Value.int a01 x01, Value.int a02 x02, Value.int a03 x03, Value.int a04 x04] } : Obj)) ∈ news → (d0, instObj 452 da0) ∈ news → (da0, (dictOf [leftact% began g01 b01, leftact% most g02 b02, leftact% holes g03 b03, leftact% parts g04 b04, leftact% «end» g05 b05, leftact% ahead g06 b06, leftact% first g07 b07, leftact% size g08 (Value.int z0 tz0)] 8)) ∈ news → 0 ≤ z0 → z0 ≤ 999 → 
    (∀  h' tk',  Fr h₀ L h' m → News h₀ L h' (news) →  Q .none { s with heap := h', toks := tk' }) →
    wpAny (model Challenge.rw_xw0340_01.row.prog w) (ktrTop dp un gd cn cs L a ccd cl outer) (call (.ref 518) [.ref re]) Q E s
open Cx in
def mroom_1_P [Cx] : Prop := mroom_1_S pp w loose mean mg mb dp un gd cn cs a ccd cl outer A₀ base h₀ L m news s Q E re rd wd ka0 d0 da0 wo r1_2z r2_2z r3 r4 tl1 tl2 tl3 g01 g02 g03 g04 g05 g06 g07 g08 x01 x02 x03 x04 tz0 lim a01 a02 a03 a04 z0 b01 b02 b03 b04 b05 b06 b07
noncomputable def mroom_1_C : Cx := Mine.ep neCx (fun c => ¬ @mroom_1_P c)
noncomputable instance mroom_1_I : Cx := mroom_1_C
open Cx in
set_option maxHeartbeats 4000000 in
theorem mroom_1_T : mroom_1_P := by
  unfold mroom_1_P mroom_1_S
  k_fill
  intro B F X N T hk hd hu hW lo hS0 hS1 hS2 hS3 hS4 hS5 hz0 hy ret
  refine wpAny_call ?_
  refine' code_part (rw := []) (ro := [(re, instObj 535 rd), (rd, (dictOf [leftact% time_limit r1_2z (Value.int lim tl1), leftact% most_octets r2_2z (Value.int 999 tl2), leftact% most r3 (Value.int 65535 tl3), leftact% waiting r4 (Value.ref wd)] 4)), (wd, wo), (ka0, ({ cls := .type "tuple", data := .seq #[Value.int a01 x01, Value.int a02 x02, Value.int a03 x03, Value.int a04 x04] } : Obj)), (d0, instObj 452 da0), (da0, (dictOf [leftact% began g01 b01, leftact% most g02 b02, leftact% holes g03 b03, leftact% parts g04 b04, leftact% «end» g05 b05, leftact% ahead g06 b06, leftact% first g07 b07, leftact% size g08 (Value.int z0 tz0)] 8))]) (rest := news) ?k1 ?k2 ?k3 ?k4 ?k5 ?kA ?kF ?kK ?k6 ?k7 ?k8 ?k9 ?kB ?r1_2z ?r2_2z ?r3 ?r4 ?_ ?c2 ?c3 ?c4 ?c5
  k_extra "my:enter"
  (case r1_2z => intro q hq; cases hq)
  (case r2_2z => exact fun q hq => hq)
  (case r3 => exact List.forall_mem_cons.mpr ⟨hS0, List.forall_mem_cons.mpr ⟨hS1, List.forall_mem_cons.mpr ⟨hS2, List.forall_mem_cons.mpr ⟨hS3, List.forall_mem_cons.mpr ⟨hS4, List.forall_mem_cons.mpr ⟨hS5, List.forall_mem_nil _⟩⟩⟩⟩⟩⟩)
  (case r4 => intro q hq; cases hq)
  intro g' L' h' FG' F' N' B' X' T' hLt hst
  (try simp only [List.nil_append, List.cons_append] at N' hLt)
  (try dsimp only)
  k_steps
  all_goals (rename (News _ _ _ _ → News _ _ _ _) => hR)
  all_goals (refine' ret _ _ ?f ?nn; (case f => k_asm); (case nn => exact hR (newsl (by k_asm) (by k_subL))))
theorem mroom_1 : mroom_1_S pp w loose mean mg mb dp un gd cn cs a ccd cl outer A₀ base h₀ L m news s Q E re rd wd ka0 d0 da0 wo r1_2z r2_2z r3 r4 tl1 tl2 tl3 g01 g02 g03 g04 g05 g06 g07 g08 x01 x02 x03 x04 tz0 lim a01 a02 a03 a04 z0 b01 b02 b03 b04 b05 b06 b07 := Mine.ep_all (P := fun c => @mroom_1_P c) neCx mroom_1_T ⟨(up 0 pp zC0, up 0 w zC1, up 0 loose zC2, up 0 mean zC3, up 0 mg (up 1 mb (up 2 m zC4)), up 0 dp (up 1 un zC5), up 0 gd zC6, up 0 cn zC7, up 0 cs zC8, up 0 a (up 1 L (up 14 re (up 15 rd (up 16 wd (up 17 ka0 (up 18 d0 (up 19 da0 zC9))))))), up 0 ccd (up 12 b01 (up 13 b02 (up 14 b03 (up 15 b04 (up 16 b05 (up 17 b06 (up 18 b07 zC10))))))), up 0 cl zC11, up 0 outer zC12, up 0 A₀ zC13, up 0 base (up 1 h₀ zC14), up 0 news zC15, up 0 s zC16, up 0 Q (up 1 E zC17), up 34 r1_2z (up 35 r2_2z (up 42 r3 (up 43 r4 (up 44 tl1 (up 45 tl2 (up 46 tl3 (up 47 g01 (up 48 g02 (up 49 g03 (up 50 g04 (up 51 g05 (up 52 g06 (up 53 g07 (up 54 g08 (up 55 x01 (up 56 x02 (up 57 x03 (up 58 x04 (up 59 tz0 zC18))))))))))))))))))), zC19, zC20, zC21, up 9 lim (up 10 a01 (up 11 a02 (up 12 a03 (up 13 a04 (up 14 z0 zC22))))), zC23, zC24, zC25, zC26, zC27, zC28, zC29, zC30, up 0 wo zC31, zCt32)⟩ 
def mroom_2_S (pp : Program) (w : World) (loose : List Str) (mean : ExcName → Option Value) (mg : Str → Option Value) (mb : Str → Option Value) (dp : Nat) (un : Nat) (gd : Option (List Code)) (cn : Str) (cs : Scope) (a : Addr) (ccd : Value) (cl : List (Str × Addr)) (outer : List Env) (A₀ : Around) (base : Heap) (h₀ : Heap) (L : Addr) (m : Str → Option Value) (news : List (Addr × Obj)) (s : Shared) (Q : Value → Shared → Prop) (E : Value → Shared → Prop) (re : Addr) (rd : Addr) (wd : Addr) (ka0 : Addr) (d0 : Addr) (da0 : Addr) (ka1 : Addr) (d1 : Addr) (da1 : Addr) (wo : Obj) (r1_2z : Tok) (r2_2z : Tok) (r3 : Tok) (r4 : Tok) (tl1 : Tok) (tl2 : Tok) (tl3 : Tok) (g01 : Tok) (g02 : Tok) (g03 : Tok) (g04 : Tok) (g05 : Tok) (g06 : Tok) (g07 : Tok) (g08 : Tok) (g11 : Tok) (g12 : Tok) (g13 : Tok) (g14 : Tok) (g15 : Tok) (g16 : Tok) (g17 : Tok) (g18 : Tok) (x01 : Tok) (x02 : Tok) (x03 : Tok) (x04 : Tok) (x11 : Tok) (x12 : Tok) (x13 : Tok) (x14 : Tok) (tz0 : Tok) (tz1 : Tok) (lim : Int) (a01 : Int) (a02 : Int) (a03 : Int) (a04 : Int) (a11 : Int) (a12 : Int) (a13 : Int) (a14 : Int) (z0 : Int) (z1 : Int) (b01 : Value) (b02 : Value) (b03 : Value) (b04 : Value) (b05 : Value) (b06 : Value) (b07 : Value) (b11 : Value) (b12 : Value) (b13 : Value) (b14 : Value) (b15 : Value) (b16 : Value) (b17 : Value) : Prop := Below A₀ base outer h₀ → Fr h₀ L s.heap m → (Mine.hd.heap_1 w.params).In h₀ → News h₀ L s.heap news → Top pp loose mean mg mb h₀ → cs.kind = .function → dp < 480 → un < 8800 → 
    WObj Challenge.rw_xw0340_01.row.prog w wo [([a01, a02, a03, a04], ka0, Value.ref d0), ([a11, a12, a13, a14], ka1, Value.ref d1)] → (wd == sysModules) = false → (re, instObj 535 rd) ∈ news → (rd, (dictOf [leftact% time_limit r1_2z (Value.int lim tl1), leftact% most_octets r2_2z (Value.int 999 tl2), leftact% most r3 (Value.int 65535 tl3), leftact% waiting r4 (Value.ref wd)] 4)) ∈ news → (wd, wo) ∈ news → (ka0, ({ cls := .type "tuple", data := .seq #[Value.int a01 x01, Value.int a02 x02, Value.int a03 x03, Value.int a04 x04] } : Obj)) ∈ news → (d0, instObj 452 da0) ∈ news → (da0, (dictOf [leftact% began g01 b01, leftact% most g02 b02, leftact% holes g03 b03, leftact% parts g04 b04, leftact% «end» g05 b05, leftact% ahead g06 b06, leftact% first g07 b07, leftact% size g08 (Value.int z0 tz0)] 8)) ∈ news → (ka1, ({ cls := .type "tuple", data := .seq #[Value.int a11 x11, Value.int a12 x12, Value.int a13 x13, Value.int a14 x14] } : Obj)) ∈ news → (d1, instObj 452 da1) ∈ news → (da1, (dictOf [leftact% began g11 b11, leftact% most g12 b12, leftact% holes g13 b13, leftact% parts g14 b14, leftact% «end» g15 b15, leftact% ahead g16 b16, leftact% first g17 b17, leftact% size g18 (Value.int z1 tz1)] 8)) ∈ news → 0 ≤ z0 → 0 ≤ z1 → z0 + z1 ≤ 999 → 
    (∀  h' tk',  Fr h₀ L h' m → News h₀ L h' (news) →  Q .none { s with heap := h', toks := tk' }) →
    wpAny (model Challenge.rw_xw0340_01.row.prog w) (ktrTop dp un gd cn cs L a ccd cl outer) (call (.ref 518) [.ref re]) Q E s
open Cx in
def mroom_2_P [Cx] : Prop := mroom_2_S pp w loose mean mg mb dp un gd cn cs a ccd cl outer A₀ base h₀ L m news s Q E re rd wd ka0 d0 da0 ka1 d1 da1 wo r1_2z r2_2z r3 r4 tl1 tl2 tl3 g01 g02 g03 g04 g05 g06 g07 g08 g11 g12 g13 g14 g15 g16 g17 g18 x01 x02 x03 x04 x11 x12 x13 x14 tz0 tz1 lim a01 a02 a03 a04 a11 a12 a13 a14 z0 z1 b01 b02 b03 b04 b05 b06 b07 b11 b12 b13 b14 b15 b16 b17
noncomputable def mroom_2_C : Cx := Mine.ep neCx (fun c => ¬ @mroom_2_P c)
noncomputable instance mroom_2_I : Cx := mroom_2_C
open Cx in
set_option maxHeartbeats 4000000 in
theorem mroom_2_T : mroom_2_P := by
  unfold mroom_2_P mroom_2_S
  k_fill
  intro B F X N T hk hd hu hW lo hS0 hS1 hS2 hS3 hS4 hS5 hS6 hS7 hS8 hz0 hz1 hy ret
  refine wpAny_call ?_
  refine' code_part (rw := []) (ro := [(re, instObj 535 rd), (rd, (dictOf [leftact% time_limit r1_2z (Value.int lim tl1), leftact% most_octets r2_2z (Value.int 999 tl2), leftact% most r3 (Value.int 65535 tl3), leftact% waiting r4 (Value.ref wd)] 4)), (wd, wo), (ka0, ({ cls := .type "tuple", data := .seq #[Value.int a01 x01, Value.int a02 x02, Value.int a03 x03, Value.int a04 x04] } : Obj)), (d0, instObj 452 da0), (da0, (dictOf [leftact% began g01 b01, leftact% most g02 b02, leftact% holes g03 b03, leftact% parts g04 b04, leftact% «end» g05 b05, leftact% ahead g06 b06, leftact% first g07 b07, leftact% size g08 (Value.int z0 tz0)] 8)), (ka1, ({ cls := .type "tuple", data := .seq #[Value.int a11 x11, Value.int a12 x12, Value.int a13 x13, Value.int a14 x14] } : Obj)), (d1, instObj 452 da1), (da1, (dictOf [leftact% began g11 b11, leftact% most g12 b12, leftact% holes g13 b13, leftact% parts g14 b14, leftact% «end» g15 b15, leftact% ahead g16 b16, leftact% first g17 b17, leftact% size g18 (Value.int z1 tz1)] 8))]) (rest := news) ?k1 ?k2 ?k3 ?k4 ?k5 ?kA ?kF ?kK ?k6 ?k7 ?k8 ?k9 ?kB ?r1_2z ?r2_2z ?r3 ?r4 ?_ ?c2 ?c3 ?c4 ?c5
  k_extra "my:enter"
  (case r1_2z => intro q hq; cases hq)
  (case r2_2z => exact fun q hq => hq)
  (case r3 => exact List.forall_mem_cons.mpr ⟨hS0, List.forall_mem_cons.mpr ⟨hS1, List.forall_mem_cons.mpr ⟨hS2, List.forall_mem_cons.mpr ⟨hS3, List.forall_mem_cons.mpr ⟨hS4, List.forall_mem_cons.mpr ⟨hS5, List.forall_mem_cons.mpr ⟨hS6, List.forall_mem_cons.mpr ⟨hS7, List.forall_mem_cons.mpr ⟨hS8, List.forall_mem_nil _⟩⟩⟩⟩⟩⟩⟩⟩⟩)
  (case r4 => intro q hq; cases hq)
  intro g' L' h' FG' F' N' B' X' T' hLt hst
  (try simp only [List.nil_append, List.cons_append] at N' hLt)
  (try dsimp only)
  k_steps
  all_goals (rename (News _ _ _ _ → News _ _ _ _) => hR)
  all_goals (refine' ret _ _ ?f ?nn; (case f => k_asm); (case nn => exact hR (newsl (by k_asm) (by k_subL))))
theorem mroom_2 : mroom_2_S pp w loose mean mg mb dp un gd cn cs a ccd cl outer A₀ base h₀ L m news s Q E re rd wd ka0 d0 da0 ka1 d1 da1 wo r1_2z r2_2z r3 r4 tl1 tl2 tl3 g01 g02 g03 g04 g05 g06 g07 g08 g11 g12 g13 g14 g15 g16 g17 g18 x01 x02 x03 x04 x11 x12 x13 x14 tz0 tz1 lim a01 a02 a03 a04 a11 a12 a13 a14 z0 z1 b01 b02 b03 b04 b05 b06 b07 b11 b12 b13 b14 b15 b16 b17 := Mine.ep_all (P := fun c => @mroom_2_P c) neCx mroom_2_T ⟨(up 0 pp zC0, up 0 w zC1, up 0 loose zC2, up 0 mean zC3, up 0 mg (up 1 mb (up 2 m zC4)), up 0 dp (up 1 un zC5), up 0 gd zC6, up 0 cn zC7, up 0 cs zC8, up 0 a (up 1 L (up 14 re (up 15 rd (up 16 wd (up 17 ka0 (up 18 d0 (up 19 da0 (up 20 ka1 (up 21 d1 (up 22 da1 zC9)))))))))), up 0 ccd (up 12 b01 (up 13 b02 (up 14 b03 (up 15 b04 (up 16 b05 (up 17 b06 (up 18 b07 (up 19 b11 (up 20 b12 (up 21 b13 (up 22 b14 (up 23 b15 (up 24 b16 (up 25 b17 zC10)))))))))))))), up 0 cl zC11, up 0 outer zC12, up 0 A₀ zC13, up 0 base (up 1 h₀ zC14), up 0 news zC15, up 0 s zC16, up 0 Q (up 1 E zC17), up 34 r1_2z (up 35 r2_2z (up 42 r3 (up 43 r4 (up 44 tl1 (up 45 tl2 (up 46 tl3 (up 47 g01 (up 48 g02 (up 49 g03 (up 50 g04 (up 51 g05 (up 52 g06 (up 53 g07 (up 54 g08 (up 60 g11 (up 61 g12 (up 62 g13 (up 63 g14 (up 64 g15 (up 65 g16 (up 66 g17 (up 67 g18 (up 55 x01 (up 56 x02 (up 57 x03 (up 58 x04 (up 68 x11 (up 69 x12 (up 70 x13 (up 71 x14 (up 59 tz0 (up 72 tz1 zC18)))))))))))))))))))))))))))))))), zC19, zC20, zC21, up 9 lim (up 10 a01 (up 11 a02 (up 12 a03 (up 13 a04 (up 15 a11 (up 16 a12 (up 17 a13 (up 18 a14 (up 14 z0 (up 19 z1 zC22)))))))))), zC23, zC24, zC25, zC26, zC27, zC28, zC29, zC30, up 0 wo zC31, zCt32)⟩ 
theorem octets_any {pp : Program} {w : World} {loose : List Str} {mean : ExcName → Option Value} {mg mb : Str → Option Value} {dp un : Nat} {gd : Option (List Code)} {cn : Str} {cs : Scope} {a : Addr} {ccd : Value} {cl : List (Str × Addr)} {outer : List Env} {A₀ : Around} {base h₀ : Heap} {L : Addr} {m : Str → Option Value} {news : List (Addr × Obj)} {s : Shared} {Q E : Value → Shared → Prop} {d da hg pl : Addr} {pvs : List Value} {ev fv : Value} {np : Nat} {g1 g2 g3 g4 g5 g6 g7 g8 tb tM tA tS : Tok} {began ahead size : Int} {parts : List (Int × Byt)} {val : Byt} :
    Below A₀ base outer h₀ → Fr h₀ L s.heap m → (Mine.hd.heap_1 w.params).In h₀ → News h₀ L s.heap news → Top pp loose mean mg mb h₀ → cs.kind = .function → dp < 490 → un < 8900 →
    (da, (dictOf [leftact% began g1 (Value.int began tb), leftact% most g2 (Value.int 65535 tM), leftact% holes g3 (Value.ref hg), leftact% parts g4 (Value.ref pl), leftact% «end» g5 ev, leftact% ahead g6 (Value.int ahead tA), leftact% first g7 fv, leftact% size g8 (Value.int size tS)] 8)) ∈ news → (d, instObj 452 da) ∈ news → (pl, listOf pvs.toArray np) ∈ news → Parts news pvs parts → Octs parts val → (∀ p ∈ parts, p.2.size ≤ 65535) →
    (∀ tr h' tk', Fr h₀ L h' m → News h₀ L h' news → Q (.bytes val tr) { s with heap := h', toks := tk' }) →
    wpAny (model Challenge.rw_xw0340_01.row.prog w) (ktrTop dp un gd cn cs L a ccd cl outer) (call (.ref 442) [.ref d]) Q E s := by
  intros B F X N T hk hd hu h1 h2 h3 hP hO hz ret
  cases hO
  case p01 =>
    obtain ⟨t0, a0, b0, v0, rfl, m0, hP⟩ := Parts.inv hP
    obtain ⟨t1, a1, b1, v1, rfl, m1, hP⟩ := Parts.inv hP
    obtain rfl := Parts.inv0 hP
    exact octets2 B F X N T hk hd hu h1 h2 h3 (.cons m0 rfl rfl rfl (.cons m1 rfl rfl rfl .nil)) run_01 rfl (Nat.le_of_ble_eq_true rfl) (Nat.le_of_ble_eq_true rfl) m0 m1 (size2 (hz _ (.head _)) (hz _ (.tail _ (.head _)))) ret
  case p10 =>
    obtain ⟨t0, a0, b0, v0, rfl, m0, hP⟩ := Parts.inv hP
    obtain ⟨t1, a1, b1, v1, rfl, m1, hP⟩ := Parts.inv hP
    obtain rfl := Parts.inv0 hP
    exact octets2 B F X N T hk hd hu h1 h2 h3 (.cons m0 rfl rfl rfl (.cons m1 rfl rfl rfl .nil)) run_10 rfl (Nat.le_of_ble_eq_true rfl) (Nat.le_of_ble_eq_true rfl) m1 m0 (size2 (hz _ (.tail _ (.head _))) (hz _ (.head _))) ret
  case p012 =>
    obtain ⟨t0, a0, b0, v0, rfl, m0, hP⟩ := Parts.inv hP
    obtain ⟨t1, a1, b1, v1, rfl, m1, hP⟩ := Parts.inv hP
    obtain ⟨t2, a2, b2, v2, rfl, m2, hP⟩ := Parts.inv hP
    obtain rfl := Parts.inv0 hP
    exact octets3 B F X N T hk hd hu h1 h2 h3 (.cons m0 rfl rfl rfl (.cons m1 rfl rfl rfl (.cons m2 rfl rfl rfl .nil))) run_012 rfl (Nat.le_of_ble_eq_true rfl) (Nat.le_of_ble_eq_true rfl) m0 m1 m2 (size3 (hz _ (.head _)) (hz _ (.tail _ (.head _))) (hz _ (.tail _ (.tail _ (.head _))))) ret
  case p021 =>
    obtain ⟨t0, a0, b0, v0, rfl, m0, hP⟩ := Parts.inv hP
    obtain ⟨t1, a1, b1, v1, rfl, m1, hP⟩ := Parts.inv hP
    obtain ⟨t2, a2, b2, v2, rfl, m2, hP⟩ := Parts.inv hP
    obtain rfl := Parts.inv0 hP
    exact octets3 B F X N T hk hd hu h1 h2 h3 (.cons m0 rfl rfl rfl (.cons m1 rfl rfl rfl (.cons m2 rfl rfl rfl .nil))) run_021 rfl (Nat.le_of_ble_eq_true rfl) (Nat.le_of_ble_eq_true rfl) m0 m2 m1 (size3 (hz _ (.head _)) (hz _ (.tail _ (.tail _ (.head _)))) (hz _ (.tail _ (.head _)))) ret
  case p102 =>
    obtain ⟨t0, a0, b0, v0, rfl, m0, hP⟩ := Parts.inv hP
    obtain ⟨t1, a1, b1, v1, rfl, m1, hP⟩ := Parts.inv hP
    obtain ⟨t2, a2, b2, v2, rfl, m2, hP⟩ := Parts.inv hP
    obtain rfl := Parts.inv0 hP
    exact octets3 B F X N T hk hd hu h1 h2 h3 (.cons m0 rfl rfl rfl (.cons m1 rfl rfl rfl (.cons m2 rfl rfl rfl .nil))) run_102 rfl (Nat.le_of_ble_eq_true rfl) (Nat.le_of_ble_eq_true rfl) m1 m0 m2 (size3 (hz _ (.tail _ (.head _))) (hz _ (.head _)) (hz _ (.tail _ (.tail _ (.head _))))) ret
  case p120 =>
    obtain ⟨t0, a0, b0, v0, rfl, m0, hP⟩ := Parts.inv hP
    obtain ⟨t1, a1, b1, v1, rfl, m1, hP⟩ := Parts.inv hP
    obtain ⟨t2, a2, b2, v2, rfl, m2, hP⟩ := Parts.inv hP
    obtain rfl := Parts.inv0 hP
    exact octets3 B F X N T hk hd hu h1 h2 h3 (.cons m0 rfl rfl rfl (.cons m1 rfl rfl rfl (.cons m2 rfl rfl rfl .nil))) run_120 rfl (Nat.le_of_ble_eq_true rfl) (Nat.le_of_ble_eq_true rfl) m2 m0 m1 (size3 (hz _ (.tail _ (.tail _ (.head _)))) (hz _ (.head _)) (hz _ (.tail _ (.head _)))) ret
  case p201 =>
    obtain ⟨t0, a0, b0, v0, rfl, m0, hP⟩ := Parts.inv hP
    obtain ⟨t1, a1, b1, v1, rfl, m1, hP⟩ := Parts.inv hP
    obtain ⟨t2, a2, b2, v2, rfl, m2, hP⟩ := Parts.inv hP
    obtain rfl := Parts.inv0 hP
    exact octets3 B F X N T hk hd hu h1 h2 h3 (.cons m0 rfl rfl rfl (.cons m1 rfl rfl rfl (.cons m2 rfl rfl rfl .nil))) run_201 rfl (Nat.le_of_ble_eq_true rfl) (Nat.le_of_ble_eq_true rfl) m1 m2 m0 (size3 (hz _ (.tail _ (.head _))) (hz _ (.tail _ (.tail _ (.head _)))) (hz _ (.head _))) ret
  case p210 =>
    obtain ⟨t0, a0, b0, v0, rfl, m0, hP⟩ := Parts.inv hP
    obtain ⟨t1, a1, b1, v1, rfl, m1, hP⟩ := Parts.inv hP
    obtain ⟨t2, a2, b2, v2, rfl, m2, hP⟩ := Parts.inv hP
    obtain rfl := Parts.inv0 hP
    exact octets3 B F X N T hk hd hu h1 h2 h3 (.cons m0 rfl rfl rfl (.cons m1 rfl rfl rfl (.cons m2 rfl rfl rfl .nil))) run_210 rfl (Nat.le_of_ble_eq_true rfl) (Nat.le_of_ble_eq_true rfl) m2 m1 m0 (size3 (hz _ (.tail _ (.tail _ (.head _)))) (hz _ (.tail _ (.head _))) (hz _ (.head _))) ret
theorem mroom_any {pp : Program} {w : World} {loose : List Str} {mean : ExcName → Option Value} {mg mb : Str → Option Value} {dp un : Nat} {gd : Option (List Code)} {cn : Str} {cs : Scope} {a : Addr} {ccd : Value} {cl : List (Str × Addr)} {outer : List Env} {A₀ : Around} {base h₀ : Heap} {L : Addr} {m : Str → Option Value} {news : List (Addr × Obj)} {s : Shared} {Q E : Value → Shared → Prop} {re rd wd : Addr} {wo : Obj} {r1 r2 r3 r4 tl1 tl2 tl3 : Tok} {lim : Int} {xs : List (List Int × Addr × Value)} {zs : List Int} :
    Below A₀ base outer h₀ → Fr h₀ L s.heap m → (Mine.hd.heap_1 w.params).In h₀ → News h₀ L s.heap news → Top pp loose mean mg mb h₀ → cs.kind = .function → dp < 480 → un < 8800 →
    WObj Challenge.rw_xw0340_01.row.prog w wo xs → (wd == sysModules) = false → (re, instObj 535 rd) ∈ news → (rd, (dictOf [leftact% time_limit r1 (Value.int lim tl1), leftact% most_octets r2 (Value.int 999 tl2), leftact% most r3 (Value.int 65535 tl3), leftact% waiting r4 (Value.ref wd)] 4)) ∈ news → (wd, wo) ∈ news → Waits w.params news xs zs → xs ≠ [] → xs.length ≤ 2 → (∀ z ∈ zs, 0 ≤ z) → zs.sum ≤ 999 →
    (∀ h' tk', Fr h₀ L h' m → News h₀ L h' news → Q .none { s with heap := h', toks := tk' }) →
    wpAny (model Challenge.rw_xw0340_01.row.prog w) (ktrTop dp un gd cn cs L a ccd cl outer) (call (.ref 518) [.ref re]) Q E s := by
  intros B F X N T hk hd hu hW lo h1 h2 h3 hV hne hlen hz hs ret
  obtain _ | ⟨m0, m1, m2, hV⟩ := hV
  · exact absurd rfl hne
  obtain _ | ⟨n0, n1, n2, hV⟩ := hV
  · simp only [List.forall_mem_cons, List.sum_cons, List.sum_nil] at hz hs
    exact mroom_1 B F X N T hk hd hu hW lo h1 h2 h3 m0 m1 m2 hz.1 (by omega) ret
  obtain _ | ⟨k0, k1, k2, hV⟩ := hV
  · simp only [List.forall_mem_cons, List.sum_cons, List.sum_nil] at hz hs
    exact mroom_2 B F X N T hk hd hu hW lo h1 h2 h3 m0 m1 m2 n0 n1 n2 hz.1 hz.2.1 (by omega) ret
  · simp only [List.length_cons] at hlen; omega
theorem rows_RP0 : True := by
  k_with "my:compareOp Eq bytes bytes" => row_timed "f" ((k_here; refine Mine.eq_bytes_no (by assumption) ?_))
  k_with "my:compareOp NotIn ref ref" => row_timed "f" ((k_here; k_dflt (first | (refine' Mine.w_notin0 ?hp ?hu ?N ?hm ?hw ?hk ?hka ?tk ?lo ?_; (case N => k_asm); (case hm => k_mem); (case hw => assumption); (case hka => k_mem); (case tk => exact Mine.key4); (case hp => assumption); (case hu => k_extra "my:kd"); (case hk => (refine' Mine.WKeys.mono ?ws ?wk; (case wk => assumption); (case ws => kcf_all))); (case lo => assumption)) | (refine' Mine.w_notin1 ?hp ?hu ?N ?hm ?hw ?hk ?hka ?tk ?lo ?_; (case N => k_asm); (case hm => k_mem); (case hw => assumption); (case hka => k_mem); (case tk => exact Mine.key4); (case hp => assumption); (case hu => k_extra "my:kd"); (case hk => (refine' Mine.WKeys.mono ?ws ?wk; (case wk => assumption); (case ws => kcf_all))); (case lo => assumption))); intro tk'))
  k_with "my:setItem ref ref" => row_timed "f" ((k_here; (with_reducible show wpAny _ _ (setItem (Value.ref _) (Value.ref _) _) _ _ _); k_dflt (refine' Mine.w_set ?hu ?F ?N ?U ?hw ?hk ?hka ?tk ?hz ?_; (case F => k_asm); (case N => k_asm); (case U => k_updF); (case hw => assumption); (case hka => k_mem); (case tk => exact Mine.key4); (case hu => k_extra "my:kd"); (case hk => (refine' Mine.WKeys.mono ?ws ?wk; (case wk => assumption); (case ws => kcf_all))); (case hz => omega)); intro h' o' tk' F' N' hW'; (try dsimp only at N'); (obtain ⟨hW', hA'⟩ := Mine.w_after hW' (by assumption))))
  k_with "my:getMethod ref" => row_timed "f" ((k_here; (with_reducible show wpAny _ _ (getMethod (Value.ref _) (Str.ofString "pop") _) _ _ _); k_dflt (refine' Mine.w_method PySem.F.slot_dict_pop PySem.F.type_dict_pop ?N ?hm ?hw ?hk ?_; (case N => k_asm); (case hm => k_mem); (case hw => assumption); (case hk => (refine' Mine.WKeys.mono ?ws ?wk; (case wk => assumption); (case ws => kcf_all))))))
  k_with "my:call builtin:dict.pop" => row_timed "f" ((k_here; (with_reducible show wpAny _ _ (call (Value.builtin "dict.pop") [Value.ref _, Value.ref _]) _ _ _); k_dflt (refine' Mine.w_pop ?hu ?F ?N ?U ?hw ?hk ?hka ?tk ?hp ?hz ?_; (case F => k_asm); (case N => k_asm); (case U => k_updF); (case hw => assumption); (case hka => k_mem); (case tk => exact Mine.key4); (case hp => assumption); (case hu => k_extra "my:kd"); (case hk => (refine' Mine.WKeys.mono ?ws ?wk; (case wk => assumption); (case ws => kcf_all))); (case hz => omega)); intro h' o' tk' F' N' hW'; (try dsimp only at N')))
  k_with "my:subscriptTail Attribute" => row_timed "f" ((k_here; (with_reducible show wpAny _ _ (subscriptTail _ _ (Value.ref _) (Value.ref _)) _ _ _); k_dflt (refine kba_turn (value' := PySem.Expr.Name (PySem.Str.ofString "_") ⟨0, 0, 0, 0⟩) (fun _ => rfl) ?_); k_dflt (refine' Mine.w_item ?hu ?N ?hm ?hw ?hk ?hka ?tk ?hp ?_ ?hs ?hg; (case N => k_asm); (case hm => k_mem); (case hw => assumption); (case hka => k_mem); (case tk => exact Mine.key4); (case hp => first | assumption | exact Mine.w_get (by assumption) 0 rfl | exact Mine.w_get (by assumption) 1 rfl | exact Mine.w_get (by assumption) 2 rfl | exact Mine.w_get (by assumption) 3 rfl); (case hu => k_extra "my:kd"); (case hk => first | (refine' Mine.WKeys.mono ?ws ?wk; (case wk => assumption); (case ws => kcf_all)) | (refine' Mine.wkeys_app ?ws ?wk ?wm Mine.key4; (case wk => assumption); (case ws => kcf_all); (case wm => k_mem))); (case hs => with_unfolding_all rfl); (case hg => intro _; with_unfolding_all rfl)); intro tk'))
  k_with "my:compareOp NotEq int int" => row_timed "f" ((k_here; (with_reducible refine Mine.ne_same (by assumption) ?_)))
  trivial
def badp_t_S (pp : Program) (w : World) (loose : List Str) (mean : ExcName → Option Value) (mg : Str → Option Value) (mb : Str → Option Value) (dp : Nat) (un : Nat) (gd : Option (List Code)) (cn : Str) (cs : Scope) (a : Addr) (ccd : Value) (cl : List (Str × Addr)) (outer : List Env) (A₀ : Around) (base : Heap) (h₀ : Heap) (L : Addr) (m : Str → Option Value) (news : List (Addr × Obj)) (s : Shared) (Q : Value → Shared → Prop) (E : Value → Shared → Prop) (hh : Addr) (hha : Addr) (q1 : Tok) (q2 : Tok) (q3 : Tok) (q4 : Tok) (q5 : Tok) (q6 : Tok) (q7 : Tok) (q8 : Tok) (q9 : Tok) (q10 : Tok) (t9 : Tok) (t10 : Tok) (tp : Tok) (s1 : Value) (s2 : Value) (s3 : Value) (s4 : Value) (s5 : Value) (s6 : Value) (s7 : Value) (off : Int) (pb : Byt) : Prop := Below A₀ base outer h₀ → Fr h₀ L s.heap m → (Mine.hd.heap_1 w.params).In h₀ → News h₀ L s.heap news → Top pp loose mean mg mb h₀ → cs.kind = .function → dp < 480 → un < 8800 → 
    (hh, instObj 74 hha) ∈ news → (hha, (dictOf [leftact% source q1 s1, leftact% target q2 s2, leftact% protocol q3 s3, leftact% ident q4 s4, leftact% ttl q5 s5, leftact% tos q6 s6, leftact% dont q7 s7, leftact% more q8 (Value.bool true), leftact% offset q9 (Value.int off t9), leftact% options q10 (Value.bytes #[] t10)] 10)) ∈ news → pb ≠ #[] → Int.fmod pb.size 8 = 0 → (pb.size : Int) ≤ 65535 → 
    (∀  h' tk',  Fr h₀ L h' m → News h₀ L h' (news) →  Q (.bool false) { s with heap := h', toks := tk' }) →
    wpAny (model Challenge.rw_xw0340_01.row.prog w) (ktrTop dp un gd cn cs L a ccd cl outer) (call (.ref 477) [.ref hh, .bytes pb tp]) Q E s
open Cx in
def badp_t_P [Cx] : Prop := badp_t_S pp w loose mean mg mb dp un gd cn cs a ccd cl outer A₀ base h₀ L m news s Q E hh hha q1 q2 q3 q4 q5 q6 q7 q8 q9 q10 t9 t10 tp s1 s2 s3 s4 s5 s6 s7 off pb
noncomputable def badp_t_C : Cx := Mine.ep neCx (fun c => ¬ @badp_t_P c)
noncomputable instance badp_t_I : Cx := badp_t_C
open Cx in
set_option maxHeartbeats 4000000 in
theorem badp_t_T : badp_t_P := by
  unfold badp_t_P badp_t_S
  k_fill
  intro B F X N T hk hd hu hS0 hS1 hpb hp8 hpz ret
  refine wpAny_call ?_
  refine' code_part (rw := []) (ro := [(hh, instObj 74 hha), (hha, (dictOf [leftact% source q1 s1, leftact% target q2 s2, leftact% protocol q3 s3, leftact% ident q4 s4, leftact% ttl q5 s5, leftact% tos q6 s6, leftact% dont q7 s7, leftact% more q8 (Value.bool true), leftact% offset q9 (Value.int off t9), leftact% options q10 (Value.bytes #[] t10)] 10))]) (rest := news) ?k1 ?k2 ?k3 ?k4 ?k5 ?kA ?kF ?kK ?k6 ?k7 ?k8 ?k9 ?kB ?r1 ?r2 ?r3 ?r4 ?_ ?c2 ?c3 ?c4 ?c5
  k_extra "my:enter"
  (case r1 => intro q hq; cases hq)
  (case r2 => exact fun q hq => hq)
  (case r3 => exact List.forall_mem_cons.mpr ⟨hS0, List.forall_mem_cons.mpr ⟨hS1, List.forall_mem_nil _⟩⟩)
  (case r4 => intro q hq; cases hq)
  intro g' L' h' FG' F' N' B' X' T' hLt hst
  (try simp only [List.nil_append, List.cons_append] at N' hLt)
  (try dsimp only)
  have mk2 : MkMore := trivial
  k_steps
  all_goals (rename (News _ _ _ _ → News _ _ _ _) => hR)
  all_goals (refine' ret _ _ ?f ?nn; (case f => k_asm); (case nn => exact hR (newsl (by k_asm) (by k_subL))))
theorem badp_t : badp_t_S pp w loose mean mg mb dp un gd cn cs a ccd cl outer A₀ base h₀ L m news s Q E hh hha q1 q2 q3 q4 q5 q6 q7 q8 q9 q10 t9 t10 tp s1 s2 s3 s4 s5 s6 s7 off pb := Mine.ep_all (P := fun c => @badp_t_P c) neCx badp_t_T ⟨(up 0 pp zC0, up 0 w zC1, up 0 loose zC2, up 0 mean zC3, up 0 mg (up 1 mb (up 2 m zC4)), up 0 dp (up 1 un zC5), up 0 gd zC6, up 0 cn zC7, up 0 cs zC8, up 0 a (up 1 L (up 9 hh (up 10 hha zC9))), up 0 ccd (up 4 s1 (up 5 s2 (up 6 s3 (up 7 s4 (up 8 s5 (up 9 s6 (up 10 s7 zC10))))))), up 0 cl zC11, up 0 outer zC12, up 0 A₀ zC13, up 0 base (up 1 h₀ zC14), up 0 news zC15, up 0 s zC16, up 0 Q (up 1 E zC17), up 21 q1 (up 22 q2 (up 23 q3 (up 24 q4 (up 25 q5 (up 26 q6 (up 27 q7 (up 28 q8 (up 29 q9 (up 30 q10 (up 31 t9 (up 32 t10 (up 33 tp zC18)))))))))))), zC19, zC20, zC21, up 8 off zC22, zC23, zC24, zC25, zC26, up 0 pb zC27, zCt28)⟩ 
def badp_f_S (pp : Program) (w : World) (loose : List Str) (mean : ExcName → Option Value) (mg : Str → Option Value) (mb : Str → Option Value) (dp : Nat) (un : Nat) (gd : Option (List Code)) (cn : Str) (cs : Scope) (a : Addr) (ccd : Value) (cl : List (Str × Addr)) (outer : List Env) (A₀ : Around) (base : Heap) (h₀ : Heap) (L : Addr) (m : Str → Option Value) (news : List (Addr × Obj)) (s : Shared) (Q : Value → Shared → Prop) (E : Value → Shared → Prop) (hh : Addr) (hha : Addr) (q1 : Tok) (q2 : Tok) (q3 : Tok) (q4 : Tok) (q5 : Tok) (q6 : Tok) (q7 : Tok) (q8 : Tok) (q9 : Tok) (q10 : Tok) (t9 : Tok) (t10 : Tok) (tp : Tok) (s1 : Value) (s2 : Value) (s3 : Value) (s4 : Value) (s5 : Value) (s6 : Value) (s7 : Value) (off : Int) (pb : Byt) : Prop := Below A₀ base outer h₀ → Fr h₀ L s.heap m → (Mine.hd.heap_1 w.params).In h₀ → News h₀ L s.heap news → Top pp loose mean mg mb h₀ → cs.kind = .function → dp < 480 → un < 8800 → 
    (hh, instObj 74 hha) ∈ news → (hha, (dictOf [leftact% source q1 s1, leftact% target q2 s2, leftact% protocol q3 s3, leftact% ident q4 s4, leftact% ttl q5 s5, leftact% tos q6 s6, leftact% dont q7 s7, leftact% more q8 (Value.bool false), leftact% offset q9 (Value.int off t9), leftact% options q10 (Value.bytes #[] t10)] 10)) ∈ news → 
    (∀  h' tk',  Fr h₀ L h' m → News h₀ L h' (news) →  Q (.bool false) { s with heap := h', toks := tk' }) →
    wpAny (model Challenge.rw_xw0340_01.row.prog w) (ktrTop dp un gd cn cs L a ccd cl outer) (call (.ref 477) [.ref hh, .bytes pb tp]) Q E s
open Cx in
def badp_f_P [Cx] : Prop := badp_f_S pp w loose mean mg mb dp un gd cn cs a ccd cl outer A₀ base h₀ L m news s Q E hh hha q1 q2 q3 q4 q5 q6 q7 q8 q9 q10 t9 t10 tp s1 s2 s3 s4 s5 s6 s7 off pb
noncomputable def badp_f_C : Cx := Mine.ep neCx (fun c => ¬ @badp_f_P c)
noncomputable instance badp_f_I : Cx := badp_f_C
open Cx in
set_option maxHeartbeats 4000000 in
theorem badp_f_T : badp_f_P := by
  unfold badp_f_P badp_f_S
  k_fill
  intro B F X N T hk hd hu hS0 hS1 ret
  refine wpAny_call ?_
  refine' code_part (rw := []) (ro := [(hh, instObj 74 hha), (hha, (dictOf [leftact% source q1 s1, leftact% target q2 s2, leftact% protocol q3 s3, leftact% ident q4 s4, leftact% ttl q5 s5, leftact% tos q6 s6, leftact% dont q7 s7, leftact% more q8 (Value.bool false), leftact% offset q9 (Value.int off t9), leftact% options q10 (Value.bytes #[] t10)] 10))]) (rest := news) ?k1 ?k2 ?k3 ?k4 ?k5 ?kA ?kF ?kK ?k6 ?k7 ?k8 ?k9 ?kB ?r1 ?r2 ?r3 ?r4 ?_ ?c2 ?c3 ?c4 ?c5
  k_extra "my:enter"
  (case r1 => intro q hq; cases hq)
  (case r2 => exact fun q hq => hq)
  (case r3 => exact List.forall_mem_cons.mpr ⟨hS0, List.forall_mem_cons.mpr ⟨hS1, List.forall_mem_nil _⟩⟩)
  (case r4 => intro q hq; cases hq)
  intro g' L' h' FG' F' N' B' X' T' hLt hst
  (try simp only [List.nil_append, List.cons_append] at N' hLt)
  (try dsimp only)
  have mk2 : MkMore := trivial
  k_steps
  all_goals (rename (News _ _ _ _ → News _ _ _ _) => hR)
  all_goals (refine' ret _ _ ?f ?nn; (case f => k_asm); (case nn => exact hR (newsl (by k_asm) (by k_subL))))
theorem badp_f : badp_f_S pp w loose mean mg mb dp un gd cn cs a ccd cl outer A₀ base h₀ L m news s Q E hh hha q1 q2 q3 q4 q5 q6 q7 q8 q9 q10 t9 t10 tp s1 s2 s3 s4 s5 s6 s7 off pb := Mine.ep_all (P := fun c => @badp_f_P c) neCx badp_f_T ⟨(up 0 pp zC0, up 0 w zC1, up 0 loose zC2, up 0 mean zC3, up 0 mg (up 1 mb (up 2 m zC4)), up 0 dp (up 1 un zC5), up 0 gd zC6, up 0 cn zC7, up 0 cs zC8, up 0 a (up 1 L (up 9 hh (up 10 hha zC9))), up 0 ccd (up 4 s1 (up 5 s2 (up 6 s3 (up 7 s4 (up 8 s5 (up 9 s6 (up 10 s7 zC10))))))), up 0 cl zC11, up 0 outer zC12, up 0 A₀ zC13, up 0 base (up 1 h₀ zC14), up 0 news zC15, up 0 s zC16, up 0 Q (up 1 E zC17), up 21 q1 (up 22 q2 (up 23 q3 (up 24 q4 (up 25 q5 (up 26 q6 (up 27 q7 (up 28 q8 (up 29 q9 (up 30 q10 (up 31 t9 (up 32 t10 (up 33 tp zC18)))))))))))), zC19, zC20, zC21, up 8 off zC22, zC23, zC24, zC25, zC26, up 0 pb zC27, zCt28)⟩ 
theorem badp {pp : Program} {w : World} {loose : List Str} {mean : ExcName → Option Value} {mg mb : Str → Option Value} {dp un : Nat} {gd : Option (List Code)} {cn : Str} {cs : Scope} {a : Addr} {ccd : Value} {cl : List (Str × Addr)} {outer : List Env} {A₀ : Around} {base h₀ : Heap} {L : Addr} {m : Str → Option Value} {news : List (Addr × Obj)} {s : Shared} {Q E : Value → Shared → Prop} {hh hha : Addr} {q1 q2 q3 q4 q5 q6 q7 q8 q9 q10 t9 t10 tp : Tok} {s1 s2 s3 s4 s5 s6 s7 : Value} {off : Int} {pb : Byt} {mr : Bool} :
    Below A₀ base outer h₀ → Fr h₀ L s.heap m → (Mine.hd.heap_1 w.params).In h₀ → News h₀ L s.heap news → Top pp loose mean mg mb h₀ → cs.kind = .function → dp < 480 → un < 8800 →
    (hh, instObj 74 hha) ∈ news → (hha, (dictOf [leftact% source q1 s1, leftact% target q2 s2, leftact% protocol q3 s3, leftact% ident q4 s4, leftact% ttl q5 s5, leftact% tos q6 s6, leftact% dont q7 s7, leftact% more q8 (Value.bool mr), leftact% offset q9 (Value.int off t9), leftact% options q10 (Value.bytes #[] t10)] 10)) ∈ news → (mr = true → pb ≠ #[] ∧ Int.fmod pb.size 8 = 0) → (pb.size : Int) ≤ 65535 →
    (∀ h' tk', Fr h₀ L h' m → News h₀ L h' news → Q (.bool false) { s with heap := h', toks := tk' }) →
    wpAny (model Challenge.rw_xw0340_01.row.prog w) (ktrTop dp un gd cn cs L a ccd cl outer) (call (.ref 477) [.ref hh, .bytes pb tp]) Q E s := by
  intros B F X N T hk hd hu m1 m2 hb hz ret
  cases mr with
  | false => exact badp_f B F X N T hk hd hu m1 m2 ret
  | true => exact badp_t B F X N T hk hd hu m1 m2 (hb rfl).1 (hb rfl).2 hz ret
theorem put_any {pp : Program} {w : World} {loose : List Str} {mean : ExcName → Option Value} {mg mb : Str → Option Value} {dp un : Nat} {gd : Option (List Code)} {cn : Str} {cs : Scope} {a : Addr} {ccd : Value} {cl : List (Str × Addr)} {outer : List Env} {A₀ : Around} {base h₀ : Heap} {L : Addr} {m : Str → Option Value} {news : List (Addr × Obj)} {s : Shared} {Q E : Value → Shared → Prop} {d da hg ha rl pl hh hha : Addr} {rvs pvs : List Value} {nr np : Nat} {fv : Value} {first : Option Hd} {fin : Option Int} {g1 g2 g3 g4 g5 g6 g7 g8 k1 k2 tb tM tM2 te tA tS q1 q2 q3 q4 q5 q6 q7 q8 q9 q10 t9 t10 tp : Tok} {s1 s2 s3 s4 s5 s6 s7 : Value} {began ahead size : Int} {rows : Rws} {parts : List (Int × Byt)} {hdr : Hd} {pb : Byt} {gq : Dg} {r1 r2 rest rest0 : List (Addr × Obj)} :
    Below A₀ base outer h₀ → Fr h₀ L s.heap m → (Mine.hd.heap_1 w.params).In h₀ → News h₀ L s.heap news → Top pp loose mean mg mb h₀ → cs.kind = .function → dp < 485 → un < 8850 →
    Sel da (dictOf [leftact% began g1 (Value.int began tb), leftact% most g2 (Value.int 65535 tM), leftact% holes g3 (Value.ref hg), leftact% parts g4 (Value.ref pl), leftact% «end» g5 (finV fin te), leftact% ahead g6 (Value.int ahead tA), leftact% first g7 fv, leftact% size g8 (Value.int size tS)] 8) news r1 → Sel ha (dictOf [leftact% most k1 (Value.int 65535 tM2), leftact% rows k2 (Value.ref rl)] 2) r1 r2 → Sel pl (listOf pvs.toArray np) r2 rest → (∀ p ∈ r1, p.1 ≠ da) → (∀ p ∈ r2, p.1 ≠ ha) → (∀ p ∈ rest, p.1 ≠ pl) → (d, instObj 452 da) ∈ rest → (hg, instObj 398 ha) ∈ rest → (rl, listOf rvs.toArray nr) ∈ rest → (hh, instObj 74 hha) ∈ rest → (hha, (dictOf [leftact% source q1 s1, leftact% target q2 s2, leftact% protocol q3 s3, leftact% ident q4 s4, leftact% ttl q5 s5, leftact% tos q6 s6, leftact% dont q7 s7, leftact% more q8 (Value.bool hdr.more), leftact% offset q9 (Value.int hdr.off t9), leftact% options q10 (Value.bytes #[] t10)] 10)) ∈ rest → Pairs rest rvs rows → Parts rest0 pvs parts → (∀ p ∈ rest0, p ∈ rest) → HdAt w.params rest0 hh hdr → FirstAt w.params rest0 fv first → PutOk (⟨began, rows, parts, fin, ahead, first, size⟩ : Dg) hdr pb → gq = (⟨began, rows, parts, fin, ahead, first, size⟩ : Dg).put hdr pb → 0 ≤ hdr.off → hdr.off + pb.size ≤ 65515 → rows.length ≤ 50 → parts.length + rows.length ≤ 1000 →
    (∀ r rl' rvs' pvs' nr' np' fv' tA' te' tS' sz' tl h' tk', Pairs tl rvs' gq.rows → Parts (tl ++ rest0) pvs' gq.parts → (∀ p ∈ tl, @LT.lt Nat _ r p.1) → AllLt r rest → @LT.lt Nat _ da r → @LT.lt Nat _ ha r → @LT.lt Nat _ pl r → FirstAt w.params rest0 fv' gq.first → sz' = gq.size → Fr h₀ L h' m → News h₀ L h' ((da, (dictOf [leftact% began g1 (Value.int began tb), leftact% most g2 (Value.int 65535 tM), leftact% holes g3 (Value.ref hg), leftact% parts g4 (Value.ref pl), leftact% «end» g5 (finV gq.fin te'), leftact% ahead g6 (Value.int gq.ahead tA'), leftact% first g7 fv', leftact% size g8 (Value.int sz' tS')] 8)) :: (ha, (dictOf [leftact% most k1 (Value.int 65535 tM2), leftact% rows k2 (Value.ref rl')] 2)) :: (pl, listOf pvs'.toArray np') :: (rl', listOf rvs'.toArray nr') :: (tl ++ rest)) → @LT.lt Nat _ r rl' → Q (.bool true) { s with heap := h', toks := tk' }) →
    wpAny (model Challenge.rw_xw0340_01.row.prog w) (ktrTop dp un gd cn cs L a ccd cl outer) (call (.ref 430) [.ref d, .ref hh, .bytes pb tp]) Q E s := by
  intros B F X N T hk hd hu S1 S2 S3 ap1 ap2 ap3 m1 m2 m3 m4 m5 hP hQ hr0 hH hF hok e ho hoz hrn hpn ret
  subst e
  obtain ⟨src, tgt, prot, ident, ttl, tos, dont, more, off⟩ := hdr
  rcases hok with ⟨hm, -, -, hx⟩ | ⟨hm, -, hf, ⟨r, a2, hr, ha2⟩, hah⟩
  · dsimp only at hm
    subst hm
    exact put_m B F X N T hk hd hu S1 S2 S3 ap1 ap2 ap3 m1 m2 m3 m4 m5 hP hQ hr0 hH hF ho hoz hrn hpn hx fun r rl' rvs' pvs' nr' np' fv' tA' tS' sz' tl h' tk' => ret r rl' rvs' pvs' nr' np' fv' tA' te tS' sz' tl h' tk'
  · dsimp only at hm hf
    subst hm
    subst hf
    exact put_c B F X N T hk hd hu S1 S2 S3 ap1 ap2 ap3 m1 m2 m3 m4 m5 hP hQ hr0 hH hF ho hoz hrn hpn ⟨r, hr⟩ ha2 hah fun r rl' rvs' pvs' nr' np' fv' tA' te' tS' sz' tl h' tk' => ret r rl' rvs' pvs' nr' np' fv' tA' te' tS' sz' tl h' tk'
theorem mroom_old {pp : Program} {w : World} {loose : List Str} {mean : ExcName → Option Value} {mg mb : Str → Option Value} {dp un : Nat} {gd : Option (List Code)} {cn : Str} {cs : Scope} {a : Addr} {ccd : Value} {cl : List (Str × Addr)} {outer : List Env} {A₀ : Around} {base h₀ : Heap} {L : Addr} {m : Str → Option Value} {news : List (Addr × Obj)} {s : Shared} {Q E : Value → Shared → Prop} {re rd wd da : Addr} {wo : Obj} {r1 r2 r3 r4 tl1 tl2 tl3 g1 g2 g3 g4 g5 g6 g7 g8 tz : Tok} {b1 b2 b3 b4 b5 b6 b7 : Value} {lim z zo : Int} {xs : List (List Int × Addr × Value)} {rest : List (Addr × Obj)} :
    Below A₀ base outer h₀ → Fr h₀ L s.heap m → (Mine.hd.heap_1 w.params).In h₀ → News h₀ L s.heap news → Top pp loose mean mg mb h₀ → cs.kind = .function → dp < 480 → un < 8800 →
    WObj Challenge.rw_xw0340_01.row.prog w wo xs → (wd == sysModules) = false → (re, instObj 535 rd) ∈ news → (rd, (dictOf [leftact% time_limit r1 (Value.int lim tl1), leftact% most_octets r2 (Value.int 999 tl2), leftact% most r3 (Value.int 65535 tl3), leftact% waiting r4 (Value.ref wd)] 4)) ∈ news → (wd, wo) ∈ news → WaitsD w.params rest da xs zo → (∀ p ∈ rest, p ∈ news) → (da, (dictOf [leftact% began g1 b1, leftact% most g2 b2, leftact% holes g3 b3, leftact% parts g4 b4, leftact% «end» g5 b5, leftact% ahead g6 b6, leftact% first g7 b7, leftact% size g8 (Value.int z tz)] 8)) ∈ news → 0 ≤ z → z + zo ≤ 999 → xs ≠ [] → xs.length ≤ 2 →
    (∀ h' tk', Fr h₀ L h' m → News h₀ L h' news → Q .none { s with heap := h', toks := tk' }) →
    wpAny (model Challenge.rw_xw0340_01.row.prog w) (ktrTop dp un gd cn cs L a ccd cl outer) (call (.ref 518) [.ref re]) Q E s := by
  intros B F X N T hk hd hu hW lo h1 h2 h3 hV hs hm hz hzz hne hlen ret
  obtain ⟨zs, hW2, hnn, hsum⟩ := hV news z g1 g2 g3 g4 g5 g6 g7 g8 tz b1 b2 b3 b4 b5 b6 b7 hs hm hz
  exact mroom_any B F X N T hk hd hu hW lo h1 h2 h3 hW2 hne hlen hnn (by omega) ret
theorem rows_DL1 : True := by
  k_with "my:call ref cons nil" => row_timed "f" ((k_here; (with_reducible show wpAny _ _ (call (Value.ref 499) _) _ _ _); k_dflt (refine' Mine.PutC.use (by with_reducible assumption) ?k1 ?k2 ?k3 ?k4 ?k5 ?k6 ?kK ?kd ?ku ?_; (case k1 => k_asm); (case k2 => k_asm); (case k3 => k_asm); (case k4 => exact Mine.newsub (by k_asm) (by kcf_all)); (case k5 => assumption); (case k6 => k_asm); (case kK => first | exact rfl | assumption); (case kd => k_extra "my:kd"); (case ku => k_extra "my:kd"); k_whole); intro v' post' h' tk' hp' hv' hf' F' N'; (try k_sweep)))
  k_with "my:compareOp Is" => row_timed "f" (((with_reducible show wpAny _ _ (compareOp CmpOp.Is _ Value.none) _ _ _); (with_reducible rename Mine.PutV _ _ _ _ => pv9); k_dflt (refine Mine.is_put pv9 (by k_asm) ?_ ?_); (all_goals first | (intro e1' e2'; subst e2') | (intro h1' b1' t1' nh1' tv1' e1' e2' hh1' m1' N'; subst e2')); (try k_sweep)))
  k_with "my:call builtin:len" => row_timed "f" ((k_here; (with_reducible show wpAny _ _ (call (Value.builtin "len") [Value.bytes #[] _]) _ _ _); k_dflt (refine Mine.len_B0 ?_)))
  k_with "my:exec If" => row_timed "f" (((with_reducible show wpAny _ _ (exec (Stmt.If (Expr.BoolOp _ _ _) [Stmt.Return (some (Expr.List _ _)) _] _ _) _) _ _ _); (have mk9 : Mine.MkDel := (by with_reducible assumption)); clear mk9; (refine Mine.if_no ?_ ?_); (focus (k_dflt (k_steps; all_goals (first | exact ⟨rfl, _, rfl⟩ | exact Mine.om_no (by with_reducible assumption) (by with_reducible assumption) (by with_reducible assumption)))))))
  k_with "my:eval Call Attribute" => row_timed "f" (((with_reducible show wpAny _ _ (eval (Expr.Call (Expr.Attribute _ "put" _) _ _ _) _) _ _ _); refine MethodCall_ ?_))
  trivial
def del_gen_S (pp : Program) (w : World) (loose : List Str) (mean : ExcName → Option Value) (mg : Str → Option Value) (mb : Str → Option Value) (dp : Nat) (un : Nat) (gd : Option (List Code)) (cn : Str) (cs : Scope) (a : Addr) (ccd : Value) (cl : List (Str × Addr)) (outer : List Env) (A₀ : Around) (base : Heap) (h₀ : Heap) (L : Addr) (m : Str → Option Value) (news : List (Addr × Obj)) (s : Shared) (Q : Value → Shared → Prop) (E : Value → Shared → Prop) (lay : Addr) (ld : Addr) (hh : Addr) (hha : Addr) (re : Addr) (rd : Addr) (wd : Addr) (r1_2z : Tok) (r2_2z : Tok) (r3 : Tok) (r4 : Tok) (tl1 : Tok) (tl2 : Tok) (tl3 : Tok) (f1 : Tok) (f2 : Tok) (f3 : Tok) (f4 : Tok) (f5 : Tok) (q1 : Tok) (q2 : Tok) (q3 : Tok) (q4 : Tok) (q5 : Tok) (q6 : Tok) (q7 : Tok) (q8 : Tok) (q9 : Tok) (q10 : Tok) (y1 : Tok) (y2 : Tok) (y3 : Tok) (y4 : Tok) (t9 : Tok) (t10 : Tok) (tp : Tok) (tn : Tok) (fcv : Value) (rtv : Value) (fwv : Value) (liv : Value) (s5 : Value) (s6 : Value) (s7 : Value) (lim : Int) (i1 : Int) (i2 : Int) (i3 : Int) (i4 : Int) (off : Int) (now : Int) (more : Bool) (ta_2z : Bool) (pb : Byt) (mu : List (Addr × Obj)) (pre : List (Addr × Obj)) (fz : List (Addr × Obj)) (o : Option (Hd × Byt)) (Post : List (Addr × Obj) → Prop) : Prop := Below A₀ base outer h₀ → Fr h₀ L s.heap m → (Mine.hd.heap_1 w.params).In h₀ → News h₀ L s.heap news → Top pp loose mean mg mb h₀ → cs.kind = .function → dp < 470 → un < 8700 → 
    News h₀ L s.heap (mu ++ (pre ++ fz)) → Sep mu (pre ++ fz) → (lay, instObj 349 ld) ∈ pre → (ld, (dictOf [leftact% faces f1 fcv, leftact% routes f2 rtv, leftact% reassembly f3 (Value.ref re), leftact% forwards f4 fwv, leftact% last_ident f5 liv] 5)) ∈ pre → (hh, instObj 74 hha) ∈ pre → (hha, (dictOf [leftact% source q1 (Value.int i1 y1), leftact% target q2 (Value.int i2 y2), leftact% protocol q3 (Value.int i3 y3), leftact% ident q4 (Value.int i4 y4), leftact% ttl q5 s5, leftact% tos q6 s6, leftact% dont q7 s7, leftact% more q8 (Value.bool more), leftact% offset q9 (Value.int off t9), leftact% options q10 (Value.bytes #[] t10)] 10)) ∈ pre → (re, instObj 535 rd) ∈ pre → (rd, (dictOf [leftact% time_limit r1_2z (Value.int lim tl1), leftact% most_octets r2_2z (Value.int 999 tl2), leftact% most r3 (Value.int 65535 tl3), leftact% waiting r4 (Value.ref wd)] 4)) ∈ pre → (off ≠ 0 ∨ more = true) → PutC Mine.hd.heap_1 w re hh pb now mu pre o Post → 
    (∀ l post h' tk', Grows Post post → ToldAt w.params post ta_2z o l → FreshOf mu pre fz post → Fr h₀ L h' m → News h₀ L h' (post ++ fz) →  Q (.ref l) { s with heap := h', toks := tk' }) →
    wpAny (model Challenge.rw_xw0340_01.row.prog w) (ktrTop dp un gd cn cs L a ccd cl outer) (call (.ref 289) [.ref lay, .ref hh, .bytes pb tp, .bool ta_2z, .int now tn]) Q E s
open Cx in
def del_gen_P [Cx] : Prop := del_gen_S pp w loose mean mg mb dp un gd cn cs a ccd cl outer A₀ base h₀ L m news s Q E lay ld hh hha re rd wd r1_2z r2_2z r3 r4 tl1 tl2 tl3 f1 f2 f3 f4 f5 q1 q2 q3 q4 q5 q6 q7 q8 q9 q10 y1 y2 y3 y4 t9 t10 tp tn fcv rtv fwv liv s5 s6 s7 lim i1 i2 i3 i4 off now more ta_2z pb mu pre fz o Post
noncomputable def del_gen_C : Cx := Mine.ep neCx (fun c => ¬ @del_gen_P c)
noncomputable instance del_gen_I : Cx := del_gen_C
open Cx in
set_option maxHeartbeats 4000000 in
theorem del_gen_T : del_gen_P := by
  unfold del_gen_P del_gen_S
  k_fill
  intro B F X N T hk hd hu N2 hap m1 m2 m3 m4 m5 m6 hom hput ret
  refine wpAny_call ?_
  refine' code_part (rw := mu) (ro := ((lay, instObj 349 ld) :: (ld, (dictOf [leftact% faces f1 fcv, leftact% routes f2 rtv, leftact% reassembly f3 (Value.ref re), leftact% forwards f4 fwv, leftact% last_ident f5 liv] 5)) :: (hh, instObj 74 hha) :: (hha, (dictOf [leftact% source q1 (Value.int i1 y1), leftact% target q2 (Value.int i2 y2), leftact% protocol q3 (Value.int i3 y3), leftact% ident q4 (Value.int i4 y4), leftact% ttl q5 s5, leftact% tos q6 s6, leftact% dont q7 s7, leftact% more q8 (Value.bool more), leftact% offset q9 (Value.int off t9), leftact% options q10 (Value.bytes #[] t10)] 10)) :: (re, instObj 535 rd) :: (rd, (dictOf [leftact% time_limit r1_2z (Value.int lim tl1), leftact% most_octets r2_2z (Value.int 999 tl2), leftact% most r3 (Value.int 65535 tl3), leftact% waiting r4 (Value.ref wd)] 4)) :: (pre ++ fz))) (rest := (pre ++ fz)) ?k1 ?k2 ?k3 ?k4 ?k5 ?kA ?kF ?kK ?k6 ?k7 ?k8 ?k9 ?kB ?r1_2z ?r2_2z ?r3 ?r4 ?_ ?c2 ?c3 ?c4 ?c5
  k_extra "my:enter"
  (case r1_2z => exact fun q hq => List.mem_append.mpr (.inl hq))
  (case r2_2z => exact fun q hq => List.mem_append.mpr (.inr hq))
  (case r3 => exact List.forall_mem_cons.mpr ⟨List.mem_append.mpr (.inl m1), List.forall_mem_cons.mpr ⟨List.mem_append.mpr (.inl m2), List.forall_mem_cons.mpr ⟨List.mem_append.mpr (.inl m3), List.forall_mem_cons.mpr ⟨List.mem_append.mpr (.inl m4), List.forall_mem_cons.mpr ⟨List.mem_append.mpr (.inl m5), List.forall_mem_cons.mpr ⟨List.mem_append.mpr (.inl m6), fun q hq => hq⟩⟩⟩⟩⟩⟩)
  (case r4 => exact hap.2)
  intro g' L' h' FG' F' N' B' X' T' hLt hst
  (try simp only [List.nil_append, List.cons_append] at N' hLt)
  (try dsimp only)
  have mk2 : MkDel := trivial
  k_steps
  all_goals first
    | (obtain ⟨z1, z2, z3⟩ := Mine.del_end0 (P := w.params) (ta := ta_2z) (n := 0) (by with_reducible assumption : o = none) (by with_reducible assumption : Post _) (by with_reducible assumption) (by with_reducible assumption); exact ret _ _ _ _ z1 z2 z3 (by k_asm) (newsub (by k_asm) (by kcf_all)))
    | (refine' (fun z => ret _ _ _ _ z.1 z.2.1 z.2.2 ?f ?nn) (Mine.del_end1 (P := w.params) (ta := ta_2z) (n := 0) (ts := ?ts) (tv := ?tv) (by with_reducible assumption : o = some _) (by with_reducible assumption) (by with_reducible assumption : Post _) (by with_reducible assumption) (lt_n1 (by with_reducible assumption)) (lt_n2 (by with_reducible assumption)) (by omega)); (case f => k_asm); (case nn => exact newsub (by k_asm) (by kcf_all)))
theorem del_gen {ld : Addr} : del_gen_S pp w loose mean mg mb dp un gd cn cs a ccd cl outer A₀ base h₀ L m news s Q E lay ld hh hha re rd wd r1_2z r2_2z r3 r4 tl1 tl2 tl3 f1 f2 f3 f4 f5 q1 q2 q3 q4 q5 q6 q7 q8 q9 q10 y1 y2 y3 y4 t9 t10 tp tn fcv rtv fwv liv s5 s6 s7 lim i1 i2 i3 i4 off now more ta_2z pb mu pre fz o Post := Mine.ep_all (P := fun c => @del_gen_P c) neCx del_gen_T ⟨(up 0 pp zC0, up 0 w zC1, up 0 loose zC2, up 0 mean zC3, up 0 mg (up 1 mb (up 2 m zC4)), up 0 dp (up 1 un zC5), up 0 gd zC6, up 0 cn zC7, up 0 cs zC8, up 0 a (up 1 L (up 24 lay (up 25 ld (up 9 hh (up 10 hha (up 14 re (up 15 rd (up 16 wd zC9)))))))), up 0 ccd (up 26 fcv (up 27 rtv (up 28 fwv (up 29 liv (up 8 s5 (up 9 s6 (up 10 s7 zC10))))))), up 0 cl zC11, up 0 outer zC12, up 0 A₀ zC13, up 0 base (up 1 h₀ zC14), up 0 news (up 6 mu (up 7 pre (up 8 fz zC15))), up 0 s zC16, up 0 Q (up 1 E zC17), up 34 r1_2z (up 35 r2_2z (up 42 r3 (up 43 r4 (up 44 tl1 (up 45 tl2 (up 46 tl3 (up 80 f1 (up 81 f2 (up 82 f3 (up 83 f4 (up 84 f5 (up 21 q1 (up 22 q2 (up 23 q3 (up 24 q4 (up 25 q5 (up 26 q6 (up 27 q7 (up 28 q8 (up 29 q9 (up 30 q10 (up 73 y1 (up 74 y2 (up 75 y3 (up 76 y4 (up 31 t9 (up 32 t10 (up 33 tp (up 77 tn zC18))))))))))))))))))))))))))))), zC19, zC20, zC21, up 9 lim (up 20 i1 (up 21 i2 (up 22 i3 (up 23 i4 (up 8 off (up 24 now zC22)))))), up 1 more (up 0 ta_2z zC23), zC24, zC25, zC26, up 0 pb zC27, zC28, zC29, zC30, zC31, zC32, zC33, up 0 o zC34, up 0 Post zC35, zCt36)⟩ 
theorem rows_DL2 : True := by
  k_with "my:compareOp Is" => row_timed "f" (((with_reducible show wpAny _ _ (compareOp CmpOp.Is _ Value.none) _ _ _); (refine Mine.is_first (by assumption) ?_ ?_); (all_goals first | (intro x' hx') | (intro hx' hy'))))
  trivial
def del_one_S (pp : Program) (w : World) (loose : List Str) (mean : ExcName → Option Value) (mg : Str → Option Value) (mb : Str → Option Value) (dp : Nat) (un : Nat) (gd : Option (List Code)) (cn : Str) (cs : Scope) (a : Addr) (ccd : Value) (cl : List (Str × Addr)) (outer : List Env) (A₀ : Around) (base : Heap) (h₀ : Heap) (L : Addr) (m : Str → Option Value) (news : List (Addr × Obj)) (s : Shared) (Q : Value → Shared → Prop) (E : Value → Shared → Prop) (lay : Addr) (ld : Addr) (hh : Addr) (hha : Addr) (re : Addr) (f1 : Tok) (f2 : Tok) (f3 : Tok) (f4 : Tok) (f5 : Tok) (q1 : Tok) (q2 : Tok) (q3 : Tok) (q4 : Tok) (q5 : Tok) (q6 : Tok) (q7 : Tok) (q8 : Tok) (q9 : Tok) (q10 : Tok) (y1 : Tok) (y2 : Tok) (y3 : Tok) (y4 : Tok) (t9 : Tok) (t10 : Tok) (tp : Tok) (tn : Tok) (fcv : Value) (rtv : Value) (fwv : Value) (liv : Value) (s5 : Value) (s6 : Value) (s7 : Value) (i1 : Int) (i2 : Int) (i3 : Int) (i4 : Int) (now : Int) (ta_2z : Bool) (pb : Byt) (hdr : Hd) (mu : List (Addr × Obj)) (pre : List (Addr × Obj)) (fz : List (Addr × Obj)) : Prop := Below A₀ base outer h₀ → Fr h₀ L s.heap m → (Mine.hd.heap_1 w.params).In h₀ → News h₀ L s.heap news → Top pp loose mean mg mb h₀ → cs.kind = .function → dp < 470 → un < 8700 → 
    News h₀ L s.heap (mu ++ (pre ++ fz)) → Sep mu (pre ++ fz) → (lay, instObj 349 ld) ∈ pre → (ld, (dictOf [leftact% faces f1 fcv, leftact% routes f2 rtv, leftact% reassembly f3 (Value.ref re), leftact% forwards f4 fwv, leftact% last_ident f5 liv] 5)) ∈ pre → (hh, instObj 74 hha) ∈ pre → (hha, (dictOf [leftact% source q1 (Value.int i1 y1), leftact% target q2 (Value.int i2 y2), leftact% protocol q3 (Value.int i3 y3), leftact% ident q4 (Value.int i4 y4), leftact% ttl q5 s5, leftact% tos q6 s6, leftact% dont q7 s7, leftact% more q8 (Value.bool false), leftact% offset q9 (Value.int 0 t9), leftact% options q10 (Value.bytes #[] t10)] 10)) ∈ pre → HdAt w.params pre hh hdr → 
    (∀ l post h' tk', Grows (fun p => p = mu ++ pre) post → ToldAt w.params post ta_2z (some (hdr, pb)) l → FreshOf mu pre fz post → Fr h₀ L h' m → News h₀ L h' (post ++ fz) →  Q (.ref l) { s with heap := h', toks := tk' }) →
    wpAny (model Challenge.rw_xw0340_01.row.prog w) (ktrTop dp un gd cn cs L a ccd cl outer) (call (.ref 289) [.ref lay, .ref hh, .bytes pb tp, .bool ta_2z, .int now tn]) Q E s
open Cx in
def del_one_P [Cx] : Prop := del_one_S pp w loose mean mg mb dp un gd cn cs a ccd cl outer A₀ base h₀ L m news s Q E lay ld hh hha re f1 f2 f3 f4 f5 q1 q2 q3 q4 q5 q6 q7 q8 q9 q10 y1 y2 y3 y4 t9 t10 tp tn fcv rtv fwv liv s5 s6 s7 i1 i2 i3 i4 now ta_2z pb hdr mu pre fz
noncomputable def del_one_C : Cx := Mine.ep neCx (fun c => ¬ @del_one_P c)
noncomputable instance del_one_I : Cx := del_one_C
open Cx in
set_option maxHeartbeats 4000000 in
theorem del_one_T : del_one_P := by
  unfold del_one_P del_one_S
  k_fill
  intro B F X N T hk hd hu N2 hap m1 m2 m3 m4 hH ret
  refine wpAny_call ?_
  refine' code_part (rw := mu) (ro := ((lay, instObj 349 ld) :: (ld, (dictOf [leftact% faces f1 fcv, leftact% routes f2 rtv, leftact% reassembly f3 (Value.ref re), leftact% forwards f4 fwv, leftact% last_ident f5 liv] 5)) :: (hh, instObj 74 hha) :: (hha, (dictOf [leftact% source q1 (Value.int i1 y1), leftact% target q2 (Value.int i2 y2), leftact% protocol q3 (Value.int i3 y3), leftact% ident q4 (Value.int i4 y4), leftact% ttl q5 s5, leftact% tos q6 s6, leftact% dont q7 s7, leftact% more q8 (Value.bool false), leftact% offset q9 (Value.int 0 t9), leftact% options q10 (Value.bytes #[] t10)] 10)) :: (pre ++ fz))) (rest := (pre ++ fz)) ?k1 ?k2 ?k3 ?k4 ?k5 ?kA ?kF ?kK ?k6 ?k7 ?k8 ?k9 ?kB ?r1 ?r2 ?r3 ?r4 ?_ ?c2 ?c3 ?c4 ?c5
  k_extra "my:enter"
  (case r1 => exact fun q hq => List.mem_append.mpr (.inl hq))
  (case r2 => exact fun q hq => List.mem_append.mpr (.inr hq))
  (case r3 => exact List.forall_mem_cons.mpr ⟨List.mem_append.mpr (.inl m1), List.forall_mem_cons.mpr ⟨List.mem_append.mpr (.inl m2), List.forall_mem_cons.mpr ⟨List.mem_append.mpr (.inl m3), List.forall_mem_cons.mpr ⟨List.mem_append.mpr (.inl m4), fun q hq => hq⟩⟩⟩⟩)
  (case r4 => exact hap.2)
  intro g' L' h' FG' F' N' B' X' T' hLt hst
  (try simp only [List.nil_append, List.cons_append] at N' hLt)
  (try dsimp only)
  k_steps
  all_goals (refine' (fun z => ret _ _ _ _ z.1 z.2.1 z.2.2 ?f ?nn) (Mine.del_end2 (P := w.params) (ta := ta_2z) (n := 0) (ts := ?ts) (tv := ?tv) hH ?hs (by with_reducible assumption) (by with_reducible assumption)); (case f => k_asm); (case hs => kcf_all); (case nn => exact newsub (by k_asm) (by kcf_all)))
theorem del_one {ld : Addr} : del_one_S pp w loose mean mg mb dp un gd cn cs a ccd cl outer A₀ base h₀ L m news s Q E lay ld hh hha re f1 f2 f3 f4 f5 q1 q2 q3 q4 q5 q6 q7 q8 q9 q10 y1 y2 y3 y4 t9 t10 tp tn fcv rtv fwv liv s5 s6 s7 i1 i2 i3 i4 now ta_2z pb hdr mu pre fz := Mine.ep_all (P := fun c => @del_one_P c) neCx del_one_T ⟨(up 0 pp zC0, up 0 w zC1, up 0 loose zC2, up 0 mean zC3, up 0 mg (up 1 mb (up 2 m zC4)), up 0 dp (up 1 un zC5), up 0 gd zC6, up 0 cn zC7, up 0 cs zC8, up 0 a (up 1 L (up 24 lay (up 25 ld (up 9 hh (up 10 hha (up 14 re zC9)))))), up 0 ccd (up 26 fcv (up 27 rtv (up 28 fwv (up 29 liv (up 8 s5 (up 9 s6 (up 10 s7 zC10))))))), up 0 cl zC11, up 0 outer zC12, up 0 A₀ zC13, up 0 base (up 1 h₀ zC14), up 0 news (up 6 mu (up 7 pre (up 8 fz zC15))), up 0 s zC16, up 0 Q (up 1 E zC17), up 80 f1 (up 81 f2 (up 82 f3 (up 83 f4 (up 84 f5 (up 21 q1 (up 22 q2 (up 23 q3 (up 24 q4 (up 25 q5 (up 26 q6 (up 27 q7 (up 28 q8 (up 29 q9 (up 30 q10 (up 73 y1 (up 74 y2 (up 75 y3 (up 76 y4 (up 31 t9 (up 32 t10 (up 33 tp (up 77 tn zC18)))))))))))))))))))))), zC19, zC20, zC21, up 20 i1 (up 21 i2 (up 22 i3 (up 23 i4 (up 24 now zC22)))), up 0 ta_2z zC23, zC24, zC25, up 0 hdr zC26, up 0 pb zC27, zCt28)⟩ 
theorem rows_RP1 : True := by
  k_with "nofold" => skip
  k_with "my:call ref cons nil" => row_timed "f" ((k_here; (with_reducible show wpAny _ _ (call (Value.ref 477) _) _ _ _); k_dflt (refine' Mine.badp ?k1 ?k2 ?k3 ?k4 ?k5 ?kK ?kd ?ku ?e0 ?e1 ?e2 ?e3 ?_; (case k1 => k_asm); (case k2 => k_asm); (case k3 => k_asm); (case k4 => k_asm); (case k5 => k_asm); (case kK => first | exact rfl | assumption); (case e0 => k_mem); (case e1 => k_mem); (case e2 => assumption); (case e3 => omega); (case kd => k_extra "my:kd"); (case ku => k_extra "my:kd"); k_whole); intro h' tk' F' N'; (try k_sweep)))
  k_with "my:call ref cons nil" => row_timed "f" ((k_here; (with_reducible show wpAny _ _ (call (Value.ref 430) _) _ _ _); (have mk9 : Mine.MkN := (by with_reducible assumption)); clear mk9; k_dflt (refine' Mine.put_any (fin := none) (te := 0) ?k1 ?k2 ?k3 ?k4 ?k5 ?kK ?kd ?ku ?e0 ?e1 ?e2 ?e3 ?e4 ?e5 ?e6 ?e7 ?e8 ?e9 ?e10 ?e11 ?e12 ?e13 ?e14 ?e15 ?e16 ?e17 ?e18 ?e19 ?e20 ?e21 ?_; (case k1 => k_asm); (case k2 => k_asm); (case k3 => k_asm); (case k4 => k_asm); (case k5 => k_asm); (case kK => first | exact rfl | assumption); (case e0 => repeat (first | exact Mine.Sel.head | apply Mine.Sel.tail | apply Mine.Sel.app)); (case e1 => repeat (first | exact Mine.Sel.head | apply Mine.Sel.tail | apply Mine.Sel.app)); (case e2 => repeat (first | exact Mine.Sel.head | apply Mine.Sel.tail | apply Mine.Sel.app)); (case e3 => k_all); (case e4 => k_all); (case e5 => k_all); (case e6 => k_mem); (case e7 => k_mem); (case e8 => k_mem); (case e9 => k_mem); (case e10 => k_mem); (case e11 => first | (refine' Mine.Pairs.mono ?hs ?hp; (case hp => assumption); (case hs => kcf_all)) | exact Mine.Pairs.cons (by k_mem) Mine.Pairs.nil); (case e16 => assumption); (case e17 => assumption); (case e14 => assumption); (case e15 => first | exact Mine.first_none | assumption); (case e12 => first | exact Mine.Parts.nil | assumption); (case e13 => first | (refine' Mine.sub_trans ?aa ?bb; (case aa => with_reducible assumption); (case bb => kcf_all)) | kcf_all); (case e18 => omega); (case e19 => omega); (case e20 => first | assumption | (simp; done) | omega); (case e21 => first | assumption | (simp; done) | omega); (case kd => k_extra "my:kd"); (case ku => k_extra "my:kd"); k_whole); intro r' rl' rvs' pvs' nr' np' fv' tA' te' tS' sz' tl' h' tk' hP' hQ' hT' hR' ha' hb' hc' hF' hs' F' N' hr'; (try simp only [AllLt, and_true] at hR'); (try dsimp only [List.cons_append, List.nil_append] at N'); (try k_sweep)))
  k_with "my:call ref cons nil" => row_timed "f" ((k_here; (with_reducible show wpAny _ _ (call (Value.ref 437) _) _ _ _); (have mk9 : Mine.MkN := (by with_reducible assumption)); clear mk9; k_dflt (refine' Mine.dwhole_m ?k1 ?k2 ?k3 ?k4 ?k5 ?kK ?kd ?ku ?e0 ?e1 ?e2 ?e3 ?e4 ?e5 ?e6 ?_ ?_; (case k1 => k_asm); (case k2 => k_asm); (case k3 => k_asm); (case k4 => k_asm); (case k5 => k_asm); (case kK => first | exact rfl | assumption); (case e0 => k_mem); (case e1 => k_mem); (case e2 => k_mem); (case e3 => k_mem); (case e4 => k_mem); (case e5 => assumption); (case e6 => first | (refine' Mine.sub_trans ?aa ?bb; (case aa => with_reducible assumption); (case bb => kcf_all)) | kcf_all); (case kd => k_extra "my:kd"); (case ku => k_extra "my:kd"); k_whole); (focus (intro h' tk' hw' F' N'; (try k_sweep))); rotate_left; (focus (intros; exact Mine.nd_abs (by with_reducible assumption) (by with_reducible assumption) (by with_reducible assumption))); rotate_right))
  k_with "my:call ref cons nil" => row_timed "f" ((k_here; (with_reducible show wpAny _ _ (call (Value.ref 518) _) _ _ _); k_dflt (refine' Mine.mroom_any ?k1 ?k2 ?k3 ?k4 ?k5 ?kK ?kd ?ku ?e0 ?e1 ?e2 ?e3 ?e4 ?e5 ?e6 ?e7 ?e8 ?e9 ?_; (case k1 => k_asm); (case k2 => k_asm); (case k3 => k_asm); (case k4 => k_asm); (case k5 => k_asm); (case kK => first | exact rfl | assumption); (case e0 => assumption); (case e1 => assumption); (case e2 => k_mem); (case e3 => k_mem); (case e4 => k_mem); (case e5 => (refine' Mine.waits_app ?ws ?w1 ?w2 ?w3 ?wk; (case wk => assumption); (case ws => kcf_all); (case w1 => k_mem); (case w2 => k_mem); (case w3 => k_mem))); (case e6 => (intro e9; simp at e9)); (case e7 => (simp only [List.length_append, List.length_cons, List.length_nil]; omega)); (case e8 => exact Mine.nn_app (by assumption) (by omega)); (case e9 => (rw [List.sum_append, List.sum_cons, List.sum_nil]; omega)); (case kd => k_extra "my:kd"); (case ku => k_extra "my:kd"); k_whole); intro h' tk' F' N'; (try k_sweep)))
  k_with "my:call builtin:len" => row_timed "f" ((k_here; (with_reducible show wpAny _ _ (call (Value.builtin "len") [Value.bytes _ _]) _ _ _); k_dflt (refine' Mine.len_By ?z ?_; (case z => first | omega | decide))))
  k_with "my:eval Call Attribute" => row_timed "f" (((with_reducible show wpAny _ _ (eval (Expr.Call (Expr.Attribute _ "is_whole" _) _ _ _) _) _ _ _); refine MethodCall_ ?_))
  k_with "my:eval Call Attribute" => row_timed "f" (((with_reducible show wpAny _ _ (eval (Expr.Call (Expr.Attribute _ "octets" _) _ _ _) _) _ _ _); refine MethodCall_ ?_))
  k_with "my:eval Call Attribute" => row_timed "f" (((with_reducible show wpAny _ _ (eval (Expr.Call (Expr.Attribute _ "make_room" _) _ _ _) _) _ _ _); refine MethodCall_ ?_))
  k_with "my:eval Call Attribute" => row_timed "f" (((with_reducible show wpAny _ _ (eval (Expr.Call (Expr.Attribute _ "size" _) _ _ _) _) _ _ _); refine MethodCall_ ?_))
  k_with "my:exec If" => row_timed "f" (((with_reducible show wpAny _ _ (exec (Stmt.If (Expr.BoolOp _ _ _) [Stmt.Return (some (Expr.Tuple _ _ _)) _] _ _) _) _ _ _); (have mk9 : Mine.MkIf := (by with_reducible assumption)); clear mk9; (refine Mine.if_no ?_ ?_); (focus (k_dflt (k_steps; all_goals (first | exact ⟨rfl, _, rfl⟩ | exact ⟨Mine.om_no (by with_reducible assumption) (by with_reducible assumption) (by with_reducible assumption), _, rfl⟩ | exact Mine.om_no (by with_reducible assumption) (by with_reducible assumption) (by with_reducible assumption)))))))
  trivial
def rput_n_S (pp : Program) (w : World) (loose : List Str) (mean : ExcName → Option Value) (mg : Str → Option Value) (mb : Str → Option Value) (dp : Nat) (un : Nat) (gd : Option (List Code)) (cn : Str) (cs : Scope) (a : Addr) (ccd : Value) (cl : List (Str × Addr)) (outer : List Env) (A₀ : Around) (base : Heap) (h₀ : Heap) (L : Addr) (m : Str → Option Value) (news : List (Addr × Obj)) (s : Shared) (Q : Value → Shared → Prop) (E : Value → Shared → Prop) (re : Addr) (rd : Addr) (wd : Addr) (hh : Addr) (hha : Addr) (wo : Obj) (r1_2z : Tok) (r2_2z : Tok) (r3 : Tok) (r4 : Tok) (tl1 : Tok) (tl2 : Tok) (tl3 : Tok) (q1 : Tok) (q2 : Tok) (q3 : Tok) (q4 : Tok) (q5 : Tok) (q6 : Tok) (q7 : Tok) (q8 : Tok) (q9 : Tok) (q10 : Tok) (y1 : Tok) (y2 : Tok) (y3 : Tok) (y4 : Tok) (t9 : Tok) (t10 : Tok) (tp : Tok) (tn : Tok) (lim : Int) (i1 : Int) (i2 : Int) (i3 : Int) (i4 : Int) (now : Int) (s5 : Value) (s6 : Value) (s7 : Value) (hdr : Hd) (pb : Byt) (gq : Dg) (xs : List (List Int × Addr × Value)) (zs : List Int) (rest : List (Addr × Obj)) (rest0 : List (Addr × Obj)) : Prop := Below A₀ base outer h₀ → Fr h₀ L s.heap m → (Mine.hd.heap_1 w.params).In h₀ → News h₀ L s.heap news → Top pp loose mean mg mb h₀ → cs.kind = .function → dp < 475 → un < 8750 → 
    Sel wd wo news rest → (∀ p ∈ rest, p.1 ≠ wd) → (re, instObj 535 rd) ∈ rest → (rd, (dictOf [leftact% time_limit r1_2z (Value.int lim tl1), leftact% most_octets r2_2z (Value.int 999 tl2), leftact% most r3 (Value.int 65535 tl3), leftact% waiting r4 (Value.ref wd)] 4)) ∈ rest → (hh, instObj 74 hha) ∈ rest → (hha, (dictOf [leftact% source q1 (Value.int i1 y1), leftact% target q2 (Value.int i2 y2), leftact% protocol q3 (Value.int i3 y3), leftact% ident q4 (Value.int i4 y4), leftact% ttl q5 s5, leftact% tos q6 s6, leftact% dont q7 s7, leftact% more q8 (Value.bool hdr.more), leftact% offset q9 (Value.int hdr.off t9), leftact% options q10 (Value.bytes #[] t10)] 10)) ∈ rest → (∀ p ∈ rest0, p ∈ rest) → HdAt w.params rest0 hh hdr → WObj Challenge.rw_xw0340_01.row.prog w wo xs → (wd == sysModules) = false → Waits w.params rest xs zs → atKey xs [i1, i2, i3, i4] = none → xs.length ≤ 1 → (∀ z ∈ zs, 0 ≤ z) → PutOk (Dg.new now) hdr pb → gq = (Dg.new now).put hdr pb → (gq.fin = none ∨ gq.first = none) → 0 ≤ gq.size → zs.sum + gq.size ≤ 999 → 0 ≤ hdr.off → hdr.off + pb.size ≤ 65515 → 
    (∀ d da hg ha pl ka g1 g2 g3 g4 g5 g6 g7 g8 k1 k2 tM tM2 r rl' rvs' pvs' nr' np' fv' tA' te' tS' sz' wo' tl h' tk', WObj Challenge.rw_xw0340_01.row.prog w wo' (xs ++ [([i1, i2, i3, i4], ka, Value.ref d)]) → Pairs tl rvs' gq.rows → Parts (tl ++ rest0) pvs' gq.parts → FirstAt w.params rest0 fv' gq.first → sz' = gq.size → (∀ p ∈ tl, @LT.lt Nat _ r p.1) → AllLt ka rest → @LT.lt Nat _ wd ka → @LT.lt Nat _ ka da → @LT.lt Nat _ da d → @LT.lt Nat _ d ha → @LT.lt Nat _ ha hg → @LT.lt Nat _ hg pl → @LT.lt Nat _ pl r → @LT.lt Nat _ r rl' → Fr h₀ L h' m → News h₀ L h' ((wd, wo') :: (da, (dictOf [leftact% began g1 (Value.int now tn), leftact% most g2 (Value.int 65535 tM), leftact% holes g3 (Value.ref hg), leftact% parts g4 (Value.ref pl), leftact% «end» g5 (finV gq.fin te'), leftact% ahead g6 (Value.int gq.ahead tA'), leftact% first g7 fv', leftact% size g8 (Value.int sz' tS')] 8)) :: (ha, (dictOf [leftact% most k1 (Value.int 65535 tM2), leftact% rows k2 (Value.ref rl')] 2)) :: (pl, listOf pvs'.toArray np') :: (rl', listOf rvs'.toArray nr') :: (d, instObj 452 da) :: (hg, instObj 398 ha) :: (ka, ({ cls := .type "tuple", data := .seq #[Value.int i1 y1, Value.int i2 y2, Value.int i3 y3, Value.int i4 y4] } : Obj)) :: (tl ++ rest)) →  Q .none { s with heap := h', toks := tk' }) →
    wpAny (model Challenge.rw_xw0340_01.row.prog w) (ktrTop dp un gd cn cs L a ccd cl outer) (call (.ref 499) [.ref re, .ref hh, .bytes pb tp, .int now tn]) Q E s
open Cx in
def rput_n_P [Cx] : Prop := rput_n_S pp w loose mean mg mb dp un gd cn cs a ccd cl outer A₀ base h₀ L m news s Q E re rd wd hh hha wo r1_2z r2_2z r3 r4 tl1 tl2 tl3 q1 q2 q3 q4 q5 q6 q7 q8 q9 q10 y1 y2 y3 y4 t9 t10 tp tn lim i1 i2 i3 i4 now s5 s6 s7 hdr pb gq xs zs rest rest0
noncomputable def rput_n_C : Cx := Mine.ep neCx (fun c => ¬ @rput_n_P c)
noncomputable instance rput_n_I : Cx := rput_n_C
open Cx in
set_option maxHeartbeats 4000000 in
theorem rput_n_T : rput_n_P := by
  unfold rput_n_P rput_n_S
  k_fill
  intro B F X N T hk hd hu S1 ap m1 m2 m3 m4 hr0 hH hW lo hV hk0 hxl hz hok hgq hnd hz0 hzs ho hoz ret
  refine wpAny_call ?_
  refine' code_part (rw := [(wd, wo)]) (ro := ((re, instObj 535 rd) :: (rd, (dictOf [leftact% time_limit r1_2z (Value.int lim tl1), leftact% most_octets r2_2z (Value.int 999 tl2), leftact% most r3 (Value.int 65535 tl3), leftact% waiting r4 (Value.ref wd)] 4)) :: (hh, instObj 74 hha) :: (hha, (dictOf [leftact% source q1 (Value.int i1 y1), leftact% target q2 (Value.int i2 y2), leftact% protocol q3 (Value.int i3 y3), leftact% ident q4 (Value.int i4 y4), leftact% ttl q5 s5, leftact% tos q6 s6, leftact% dont q7 s7, leftact% more q8 (Value.bool hdr.more), leftact% offset q9 (Value.int hdr.off t9), leftact% options q10 (Value.bytes #[] t10)] 10)) :: rest)) (rest := rest) ?k1 ?k2 ?k3 ?k4 ?k5 ?kA ?kF ?kK ?k6 ?k7 ?k8 ?k9 ?kB ?r1_2z ?r2_2z ?r3 ?r4 ?_ ?c2 ?c3 ?c4 ?c5
  k_extra "my:enter"
  (case r1_2z => intro q hq; rw [List.mem_singleton.mp hq]; exact S1.mem)
  (case r2_2z => exact S1.sub)
  (case r3 => exact List.forall_mem_cons.mpr ⟨m1, List.forall_mem_cons.mpr ⟨m2, List.forall_mem_cons.mpr ⟨m3, List.forall_mem_cons.mpr ⟨m4, fun q hq => hq⟩⟩⟩⟩)
  (case r4 => intro q hq q' hq'; rw [List.mem_singleton.mp hq]; exact ap q' hq')
  intro g' L' h' FG' F' N' B' X' T' hLt hst
  (try simp only [List.nil_append, List.cons_append] at N' hLt)
  (try dsimp only)
  have mk : MkN := trivial
  have mk2 : MkIf := trivial
  have hom : hdr.off ≠ 0 ∨ hdr.more = true := hok.om
  have hbd : hdr.more = true → pb ≠ #[] ∧ Int.fmod pb.size 8 = 0 := hok.bad
  have ewr : Apt re wd := ap _ m1
  have ewq : Apt rd wd := ap _ m2
  have ewh : Apt hh wd := ap _ m3
  have ewg : Apt hha wd := ap _ m4
  have hWK : WKeys Challenge.rw_xw0340_01.row.prog w rest xs := hV.keys
  k_steps
  all_goals (refine' ret _ _ _ _ _ _ _ _ _ _ _ _ _ _ _ _ _ _ _ _ _ _ _ _ _ _ _ _ _ _ _ _ _ ?b1 ?b2 ?b3 ?b4 ?b5 ?b6 ?b7 ?b8 ?b9 ?c1 ?c2 ?c3 ?c4 ?c5 ?c6 ?f ?nn; (case f => k_asm); (case b1 => assumption); (case b2 => assumption); (case b3 => assumption); (case b4 => assumption); (case b5 => assumption); (case b6 => assumption); (case b7 => exact Mine.lt_n5 (by with_reducible assumption)); (case nn => exact newsub (by k_asm) (by kcf_all)); all_goals omega)
theorem rput_n : rput_n_S pp w loose mean mg mb dp un gd cn cs a ccd cl outer A₀ base h₀ L m news s Q E re rd wd hh hha wo r1_2z r2_2z r3 r4 tl1 tl2 tl3 q1 q2 q3 q4 q5 q6 q7 q8 q9 q10 y1 y2 y3 y4 t9 t10 tp tn lim i1 i2 i3 i4 now s5 s6 s7 hdr pb gq xs zs rest rest0 := Mine.ep_all (P := fun c => @rput_n_P c) neCx rput_n_T ⟨(up 0 pp zC0, up 0 w zC1, up 0 loose zC2, up 0 mean zC3, up 0 mg (up 1 mb (up 2 m zC4)), up 0 dp (up 1 un zC5), up 0 gd zC6, up 0 cn zC7, up 0 cs zC8, up 0 a (up 1 L (up 14 re (up 15 rd (up 16 wd (up 9 hh (up 10 hha zC9)))))), up 0 ccd (up 8 s5 (up 9 s6 (up 10 s7 zC10))), up 0 cl zC11, up 0 outer zC12, up 0 A₀ zC13, up 0 base (up 1 h₀ zC14), up 0 news (up 1 rest (up 4 rest0 zC15)), up 0 s zC16, up 0 Q (up 1 E zC17), up 34 r1_2z (up 35 r2_2z (up 42 r3 (up 43 r4 (up 44 tl1 (up 45 tl2 (up 46 tl3 (up 21 q1 (up 22 q2 (up 23 q3 (up 24 q4 (up 25 q5 (up 26 q6 (up 27 q7 (up 28 q8 (up 29 q9 (up 30 q10 (up 73 y1 (up 74 y2 (up 75 y3 (up 76 y4 (up 31 t9 (up 32 t10 (up 33 tp (up 77 tn zC18)))))))))))))))))))))))), zC19, zC20, zC21, up 9 lim (up 20 i1 (up 21 i2 (up 22 i3 (up 23 i4 (up 24 now zC22))))), zC23, zC24, zC25, up 0 hdr zC26, up 0 pb zC27, zC28, up 1 zs zC29, zC30, up 0 wo zC31, up 0 gq zC32, up 0 xs zC33, zCt34)⟩ 
theorem rows_RP4 : True := by
  k_with "my:call ref cons nil" => row_timed "f" ((k_here; (with_reducible show wpAny _ _ (call (Value.ref 430) _) _ _ _); (have mk9 : Mine.MkOM := (by with_reducible assumption)); clear mk9; k_dflt (refine' Mine.put_any ?k1 ?k2 ?k3 ?k4 ?k5 ?kK ?kd ?ku ?e0 ?e1 ?e2 ?e3 ?e4 ?e5 ?e6 ?e7 ?e8 ?e9 ?e10 ?e11 ?e12 ?e13 ?e14 ?e15 ?e16 ?e17 ?e18 ?e19 ?e20 ?e21 ?_; (case k1 => k_asm); (case k2 => k_asm); (case k3 => k_asm); (case k4 => k_asm); (case k5 => k_asm); (case kK => first | exact rfl | assumption); (case e0 => repeat (first | exact Mine.Sel.head | apply Mine.Sel.tail | apply Mine.Sel.app)); (case e1 => repeat (first | exact Mine.Sel.head | apply Mine.Sel.tail | apply Mine.Sel.app)); (case e2 => repeat (first | exact Mine.Sel.head | apply Mine.Sel.tail | apply Mine.Sel.app)); (case e3 => k_all); (case e4 => k_all); (case e5 => k_all); (case e6 => k_mem); (case e7 => k_mem); (case e8 => k_mem); (case e9 => k_mem); (case e10 => k_mem); (case e11 => first | (refine' Mine.Pairs.mono ?hs ?hp; (case hp => assumption); (case hs => kcf_all)) | exact Mine.Pairs.cons (by k_mem) Mine.Pairs.nil); (case e16 => assumption); (case e17 => assumption); (case e14 => assumption); (case e15 => first | exact Mine.first_none | assumption); (case e12 => first | exact Mine.Parts.nil | assumption); (case e13 => first | (refine' Mine.sub_trans ?aa ?bb; (case aa => with_reducible assumption); (case bb => kcf_all)) | kcf_all); (case e18 => omega); (case e19 => omega); (case e20 => first | assumption | (simp; done) | omega); (case e21 => first | assumption | (simp; done) | omega); (case kd => k_extra "my:kd"); (case ku => k_extra "my:kd"); k_whole); intro r' rl' rvs' pvs' nr' np' fv' tA' te' tS' sz' tl' h' tk' hP' hQ' hT' hR' ha' hb' hc' hF' hs' F' N' hr'; (try simp only [AllLt, and_true] at hR'); (try dsimp only [List.cons_append, List.nil_append] at N'); (try k_sweep)))
  k_with "my:call ref cons nil" => row_timed "f" ((k_here; (with_reducible show wpAny _ _ (call (Value.ref 437) _) _ _ _); (have mk9 : Mine.MkOM := (by with_reducible assumption)); clear mk9; k_dflt (refine' Mine.dwhole_m ?k1 ?k2 ?k3 ?k4 ?k5 ?kK ?kd ?ku ?e0 ?e1 ?e2 ?e3 ?e4 ?e5 ?e6 ?_ ?_; (case k1 => k_asm); (case k2 => k_asm); (case k3 => k_asm); (case k4 => k_asm); (case k5 => k_asm); (case kK => first | exact rfl | assumption); (case e0 => k_mem); (case e1 => k_mem); (case e2 => k_mem); (case e3 => k_mem); (case e4 => k_mem); (case e5 => assumption); (case e6 => first | (refine' Mine.sub_trans ?aa ?bb; (case aa => with_reducible assumption); (case bb => kcf_all)) | kcf_all); (case kd => k_extra "my:kd"); (case ku => k_extra "my:kd"); k_whole); (focus (intro h' tk' hw' F' N'; (try k_sweep))); rotate_left; (focus (intro h' tk' x' h1' fh' fha' p1' p2' p3' p4' p5' p6' p7' p8' p9' p10' n1' n2' n3' n4' n5' n6' n9' n10' e0' e1' e2' e3' k1' k2' F' N'; (simp only [e0', Mine.finV] at N'); subst e2'; subst e3'; (obtain ⟨o9, z9⟩ := Mine.octs_of (by with_reducible assumption) (by with_reducible assumption)); (have b9 := (by with_reducible assumption : ∀ y : Int, gq.fin = some y → y ≤ 65515) x' e0'); (have a1' : Mine.Apt fh' _ := (by with_reducible assumption : Mine.AllNe _ _) _ k1'); (have a2' : Mine.Apt fha' _ := (by with_reducible assumption : Mine.AllNe _ _) _ k2'); (try k_sweep))); rotate_right))
  k_with "my:call ref cons nil" => row_timed "f" ((k_here; (with_reducible show wpAny _ _ (call (Value.ref 518) _) _ _ _); k_dflt (refine' Mine.mroom_old ?k1 ?k2 ?k3 ?k4 ?k5 ?kK ?kd ?ku ?e0 ?e1 ?e2 ?e3 ?e4 ?e5 ?e6 ?e7 ?e8 ?e9 ?e10 ?e11 ?_; (case k1 => k_asm); (case k2 => k_asm); (case k3 => k_asm); (case k4 => k_asm); (case k5 => k_asm); (case kK => first | exact rfl | assumption); (case e0 => assumption); (case e1 => assumption); (case e2 => k_mem); (case e3 => k_mem); (case e4 => k_mem); (case e5 => assumption); (case e6 => kcf_all); (case e7 => k_mem); (case e8 => omega); (case e9 => omega); (case e10 => assumption); (case e11 => assumption); (case kd => k_extra "my:kd"); (case ku => k_extra "my:kd"); k_whole); intro h' tk' F' N'; (try k_sweep)))
  k_with "my:call builtin:len" => row_timed "f" ((k_here; (with_reducible show wpAny _ _ (call (Value.builtin "len") [Value.bytes #[] _]) _ _ _); k_dflt (refine Mine.len_B0 ?_)))
  trivial
def rput_o_S (pp : Program) (w : World) (loose : List Str) (mean : ExcName → Option Value) (mg : Str → Option Value) (mb : Str → Option Value) (dp : Nat) (un : Nat) (gd : Option (List Code)) (cn : Str) (cs : Scope) (a : Addr) (ccd : Value) (cl : List (Str × Addr)) (outer : List Env) (A₀ : Around) (base : Heap) (h₀ : Heap) (L : Addr) (m : Str → Option Value) (news : List (Addr × Obj)) (s : Shared) (Q : Value → Shared → Prop) (E : Value → Shared → Prop) (d : Addr) (da : Addr) (hg : Addr) (ha : Addr) (rl : Addr) (pl : Addr) (kd : Addr) (re : Addr) (rd : Addr) (wd : Addr) (hh : Addr) (hha : Addr) (wo : Obj) (rvs : List Value) (pvs : List Value) (nr : Nat) (np_z : Nat) (fv : Value) (first : Option Hd) (fin : Option Int) (rows : Rws) (parts : List (Int × Byt)) (val : Byt) (gq : Dg) (r1 : List (Addr × Obj)) (r2 : List (Addr × Obj)) (r3_2z : List (Addr × Obj)) (rest : List (Addr × Obj)) (rest0 : List (Addr × Obj)) (g1 : Tok) (g2 : Tok) (g3 : Tok) (g4 : Tok) (g5 : Tok) (g6 : Tok) (g7 : Tok) (g8 : Tok) (k1 : Tok) (k2 : Tok) (tb : Tok) (tM : Tok) (tM2 : Tok) (te : Tok) (tA : Tok) (tS : Tok) (tl1 : Tok) (tl2 : Tok) (tl3 : Tok) (q1 : Tok) (q2 : Tok) (q3 : Tok) (q4 : Tok) (q5 : Tok) (q6 : Tok) (q7 : Tok) (q8 : Tok) (q9 : Tok) (q10 : Tok) (y1 : Tok) (y2 : Tok) (y3 : Tok) (y4 : Tok) (t9 : Tok) (t10 : Tok) (tp : Tok) (tn : Tok) (began : Int) (ahead : Int) (size : Int) (zo : Int) (lim : Int) (i1 : Int) (i2 : Int) (i3 : Int) (i4 : Int) (now : Int) (s5 : Value) (s6 : Value) (s7 : Value) (hdr : Hd) (pb : Byt) (xs : List (List Int × Addr × Value)) (v1 : Tok) (v2 : Tok) (v3 : Tok) (v4 : Tok) : Prop := Below A₀ base outer h₀ → Fr h₀ L s.heap m → (Mine.hd.heap_1 w.params).In h₀ → News h₀ L s.heap news → Top pp loose mean mg mb h₀ → cs.kind = .function → dp < 475 → un < 8750 → 
    Sel wd wo news r1 → Sel da (dictOf [leftact% began g1 (Value.int began tb), leftact% most g2 (Value.int 65535 tM), leftact% holes g3 (Value.ref hg), leftact% parts g4 (Value.ref pl), leftact% «end» g5 (finV fin te), leftact% ahead g6 (Value.int ahead tA), leftact% first g7 fv, leftact% size g8 (Value.int size tS)] 8) r1 r2 → Sel ha (dictOf [leftact% most k1 (Value.int 65535 tM2), leftact% rows k2 (Value.ref rl)] 2) r2 r3_2z → Sel pl (listOf pvs.toArray np_z) r3_2z rest → (∀ p ∈ r1, p.1 ≠ wd) → (∀ p ∈ r2, p.1 ≠ da) → (∀ p ∈ r3_2z, p.1 ≠ ha) → (∀ p ∈ rest, p.1 ≠ pl) → (re, instObj 535 rd) ∈ rest → (rd, (dictOf [leftact% time_limit v1 (Value.int lim tl1), leftact% most_octets v2 (Value.int 999 tl2), leftact% most v3 (Value.int 65535 tl3), leftact% waiting v4 (Value.ref wd)] 4)) ∈ rest → (hh, instObj 74 hha) ∈ rest → (hha, (dictOf [leftact% source q1 (Value.int i1 y1), leftact% target q2 (Value.int i2 y2), leftact% protocol q3 (Value.int i3 y3), leftact% ident q4 (Value.int i4 y4), leftact% ttl q5 s5, leftact% tos q6 s6, leftact% dont q7 s7, leftact% more q8 (Value.bool hdr.more), leftact% offset q9 (Value.int hdr.off t9), leftact% options q10 (Value.bytes #[] t10)] 10)) ∈ rest → (d, instObj 452 da) ∈ rest → (hg, instObj 398 ha) ∈ rest → (rl, listOf rvs.toArray nr) ∈ rest → Pairs rest rvs rows → (∀ p ∈ rest0, p ∈ rest) → Parts rest0 pvs parts → FirstAt w.params rest0 fv first → HdAt w.params rest0 hh hdr → WObj Challenge.rw_xw0340_01.row.prog w wo xs → (wd == sysModules) = false → WKeys Challenge.rw_xw0340_01.row.prog w rest xs → atKey xs [i1, i2, i3, i4] = some (kd, Value.ref d) → xs ≠ [] → xs.length ≤ 2 → WaitsD w.params rest da xs zo → PutOk (⟨began, rows, parts, fin, ahead, first, size⟩ : Dg) hdr pb → gq = (⟨began, rows, parts, fin, ahead, first, size⟩ : Dg).put hdr pb → 0 ≤ gq.size → gq.size + zo ≤ 999 → 0 ≤ hdr.off → hdr.off + pb.size ≤ 65515 → rows.length ≤ 50 → parts.length + rows.length ≤ 1000 → OctsIf gq.rows gq.parts val → (∀ y, gq.fin = some y → y ≤ 65515) → (∀ r rl' rvs' pvs' nr' np' fv' tA' te' tS' sz' tl h' tk', (gq.fin = none ∨ gq.first = none ∨ rvs' ≠ []) → Pairs tl rvs' gq.rows → Parts (tl ++ rest0) pvs' gq.parts → FirstAt w.params rest0 fv' gq.first → sz' = gq.size → (∀ p ∈ tl, @LT.lt Nat _ r p.1) → AllLt r rest → @LT.lt Nat _ wd r → @LT.lt Nat _ da r → @LT.lt Nat _ ha r → @LT.lt Nat _ pl r → @LT.lt Nat _ r rl' → Fr h₀ L h' m → News h₀ L h' ((wd, wo) :: (da, (dictOf [leftact% began g1 (Value.int began tb), leftact% most g2 (Value.int 65535 tM), leftact% holes g3 (Value.ref hg), leftact% parts g4 (Value.ref pl), leftact% «end» g5 (finV gq.fin te'), leftact% ahead g6 (Value.int gq.ahead tA'), leftact% first g7 fv', leftact% size g8 (Value.int sz' tS')] 8)) :: (ha, (dictOf [leftact% most k1 (Value.int 65535 tM2), leftact% rows k2 (Value.ref rl')] 2)) :: (pl, listOf pvs'.toArray np') :: (rl', listOf rvs'.toArray nr') :: (tl ++ rest)) → Q .none { s with heap := h', toks := tk' }) → 
    (∀ wo' t nh nha tv p1 p2 p3 p4 p5 p6 p7 p8 p9 p10 n1 n2 n3 n4 n5 n6 n9 n10 x h1 r h' tk', gq.fin = some x → gq.first = some h1 → gq.rows = [] → WObj Challenge.rw_xw0340_01.row.prog w wo' (withoutH xs [i1, i2, i3, i4]) → AllLt r rest → @LT.lt Nat _ wd r → @LT.lt Nat _ r nha → @LT.lt Nat _ nha nh → @LT.lt Nat _ nh t → Fr h₀ L h' m → News h₀ L h' ((wd, wo') :: (t, ({ cls := .type "tuple", data := .seq #[Value.ref nh, Value.bytes val tv] } : Obj)) :: (nh, instObj 74 nha) :: (nha, (dictOf [leftact% source p1 (Value.int h1.src n1), leftact% target p2 (Value.int h1.tgt n2), leftact% protocol p3 (Value.int h1.prot n3), leftact% ident p4 (Value.int h1.ident n4), leftact% ttl p5 (Value.int h1.ttl n5), leftact% tos p6 (Value.int h1.tos n6), leftact% dont p7 (Value.bool h1.dont), leftact% more p8 (Value.bool false), leftact% offset p9 (Value.int 0 n9), leftact% options p10 (Value.bytes #[] n10)] 10)) :: rest) →  Q (.ref t) { s with heap := h', toks := tk' }) →
    wpAny (model Challenge.rw_xw0340_01.row.prog w) (ktrTop dp un gd cn cs L a ccd cl outer) (call (.ref 499) [.ref re, .ref hh, .bytes pb tp, .int now tn]) Q E s
open Cx in
def rput_o_P [Cx] : Prop := rput_o_S pp w loose mean mg mb dp un gd cn cs a ccd cl outer A₀ base h₀ L m news s Q E d da hg ha rl pl kd re rd wd hh hha wo rvs pvs nr np_z fv first fin rows parts val gq r1 r2 r3_2z rest rest0 g1 g2 g3 g4 g5 g6 g7 g8 k1 k2 tb tM tM2 te tA tS tl1 tl2 tl3 q1 q2 q3 q4 q5 q6 q7 q8 q9 q10 y1 y2 y3 y4 t9 t10 tp tn began ahead size zo lim i1 i2 i3 i4 now s5 s6 s7 hdr pb xs v1 v2 v3 v4
noncomputable def rput_o_C : Cx := Mine.ep neCx (fun c => ¬ @rput_o_P c)
noncomputable instance rput_o_I : Cx := rput_o_C
open Cx in
set_option maxHeartbeats 4000000 in
theorem rput_o_T : rput_o_P := by
  unfold rput_o_P rput_o_S
  k_fill
  intro B F X N T hk hd hu S1 S2 S3 S4 ap1 ap2 ap3 ap4 m1 m2 m3 m4 m5 m6 m7 hP hr0 hQ hF hH hW lo hK hk0 hxn hxl hV hok hgq hz0 hzs ho hoz hrn hpn hO hxx ret0 ret
  have rwd : ∀ p ∈ rest, p.1 ≠ wd := fun p hp => ap1 p (S2.sub p (S3.sub p (S4.sub p hp)))
  have rda : ∀ p ∈ rest, p.1 ≠ da := fun p hp => ap2 p (S3.sub p (S4.sub p hp))
  have rha : ∀ p ∈ rest, p.1 ≠ ha := fun p hp => ap3 p (S4.sub p hp)
  have apW : AllNe wd rest0 := fun p hp => rwd p (hr0 p hp)
  have eaw : Apt da wd := ap1 _ S2.mem
  have ehw : Apt ha wd := ap1 _ (S2.sub _ S3.mem)
  have epw : Apt pl wd := ap1 _ (S2.sub _ (S3.sub _ S4.mem))
  have eha : Apt ha da := ap2 _ S3.mem
  have epa : Apt pl da := ap2 _ (S3.sub _ S4.mem)
  have eph : Apt pl ha := ap3 _ S4.mem
  refine wpAny_call ?_
  refine' code_part (rw := [(wd, wo), (da, (dictOf [leftact% began g1 (Value.int began tb), leftact% most g2 (Value.int 65535 tM), leftact% holes g3 (Value.ref hg), leftact% parts g4 (Value.ref pl), leftact% «end» g5 (finV fin te), leftact% ahead g6 (Value.int ahead tA), leftact% first g7 fv, leftact% size g8 (Value.int size tS)] 8)), (ha, (dictOf [leftact% most k1 (Value.int 65535 tM2), leftact% rows k2 (Value.ref rl)] 2)), (pl, listOf pvs.toArray np_z)]) (ro := ((re, instObj 535 rd) :: (rd, (dictOf [leftact% time_limit v1 (Value.int lim tl1), leftact% most_octets v2 (Value.int 999 tl2), leftact% most v3 (Value.int 65535 tl3), leftact% waiting v4 (Value.ref wd)] 4)) :: (hh, instObj 74 hha) :: (hha, (dictOf [leftact% source q1 (Value.int i1 y1), leftact% target q2 (Value.int i2 y2), leftact% protocol q3 (Value.int i3 y3), leftact% ident q4 (Value.int i4 y4), leftact% ttl q5 s5, leftact% tos q6 s6, leftact% dont q7 s7, leftact% more q8 (Value.bool hdr.more), leftact% offset q9 (Value.int hdr.off t9), leftact% options q10 (Value.bytes #[] t10)] 10)) :: (d, instObj 452 da) :: (hg, instObj 398 ha) :: (rl, listOf rvs.toArray nr) :: rest)) (rest := rest) ?k1 ?k2 ?k3 ?k4 ?k5 ?kA ?kF ?kK ?k6 ?k7 ?k8 ?k9 ?kB ?r1 ?r2 ?r3_2z ?r4 ?_ ?c2 ?c3 ?c4 ?c5
  k_extra "my:enter"
  (case r1 => exact List.forall_mem_cons.mpr ⟨S1.mem, List.forall_mem_cons.mpr ⟨S1.sub _ S2.mem, List.forall_mem_cons.mpr ⟨S1.sub _ (S2.sub _ S3.mem), List.forall_mem_cons.mpr ⟨S1.sub _ (S2.sub _ (S3.sub _ S4.mem)), List.forall_mem_nil _⟩⟩⟩⟩)
  (case r2 => exact fun q hq => S1.sub _ (S2.sub _ (S3.sub _ (S4.sub _ hq))))
  (case r3_2z => exact List.forall_mem_cons.mpr ⟨m1, List.forall_mem_cons.mpr ⟨m2, List.forall_mem_cons.mpr ⟨m3, List.forall_mem_cons.mpr ⟨m4, List.forall_mem_cons.mpr ⟨m5, List.forall_mem_cons.mpr ⟨m6, List.forall_mem_cons.mpr ⟨m7, fun q hq => hq⟩⟩⟩⟩⟩⟩⟩)
  (case r4 => intro q hq q' hq'; simp only [List.mem_cons, List.not_mem_nil, or_false] at hq; rcases hq with rfl | rfl | rfl | rfl; exact rwd _ hq'; exact rda _ hq'; exact rha _ hq'; exact ap4 _ hq')
  intro g' L' h' FG' F' N' B' X' T' hLt hst
  (try simp only [List.nil_append, List.cons_append] at N' hLt)
  (try dsimp only)
  have mk : MkOM := trivial
  have mk2 : MkIf := trivial
  have hom : hdr.off ≠ 0 ∨ hdr.more = true := hok.om
  have hbd : hdr.more = true → pb ≠ #[] ∧ Int.fmod pb.size 8 = 0 := hok.bad
  have erew : Apt re wd := rwd _ m1
  have erea : Apt re da := rda _ m1
  have ereh : Apt re ha := rha _ m1
  have erep : Apt re pl := ap4 _ m1
  have erdw : Apt rd wd := rwd _ m2
  have erda : Apt rd da := rda _ m2
  have erdh : Apt rd ha := rha _ m2
  have erdp : Apt rd pl := ap4 _ m2
  have ehhw : Apt hh wd := rwd _ m3
  have ehha : Apt hh da := rda _ m3
  have ehhh : Apt hh ha := rha _ m3
  have ehhp : Apt hh pl := ap4 _ m3
  have ehhaw : Apt hha wd := rwd _ m4
  have ehhaa : Apt hha da := rda _ m4
  have ehhah : Apt hha ha := rha _ m4
  have ehhap : Apt hha pl := ap4 _ m4
  have edw : Apt d wd := rwd _ m5
  have eda : Apt d da := rda _ m5
  have edh : Apt d ha := rha _ m5
  have edp : Apt d pl := ap4 _ m5
  have ehgw : Apt hg wd := rwd _ m6
  have ehga : Apt hg da := rda _ m6
  have ehgh : Apt hg ha := rha _ m6
  have ehgp : Apt hg pl := ap4 _ m6
  have erlw : Apt rl wd := rwd _ m7
  have erla : Apt rl da := rda _ m7
  have erlh : Apt rl ha := rha _ m7
  have erlp : Apt rl pl := ap4 _ m7
  k_steps
  all_goals first | (refine' ret0 _ _ _ _ _ _ _ _ _ _ _ _ _ _ ?b0 ?b1 ?b2 ?b3 ?b4 ?b5 ?b6 ?c1 ?c2 ?c3 ?c4 ?c5 ?f ?nn; (case f => k_asm); (case b0 => assumption); (case b1 => assumption); (case b2 => assumption); (case b3 => assumption); (case b4 => assumption); (case b5 => assumption); (case b6 => exact Mine.lt_n9 (by with_reducible assumption)); (case nn => exact newsub (by k_asm) (by kcf_all)); all_goals omega) | (refine' ret _ _ _ _ _ _ _ _ _ _ _ _ _ _ _ _ _ _ _ _ _ _ _ _ _ _ _ _ ?y0 ?y1 ?y2 ?y3 ?y4 ?z1 ?z2 ?z3 ?z4 ?ff ?nnn; (case y0 => assumption); (case ff => k_asm); (case y1 => assumption); (case y2 => exact Mine.pairs_nil (by assumption)); (case y3 => assumption); (case y4 => exact Mine.lt_n9 (by with_reducible assumption)); (case nnn => exact newsub (by k_asm) (by kcf_all)); all_goals omega)
theorem rput_o : rput_o_S pp w loose mean mg mb dp un gd cn cs a ccd cl outer A₀ base h₀ L m news s Q E d da hg ha rl pl kd re rd wd hh hha wo rvs pvs nr np_z fv first fin rows parts val gq r1 r2 r3_2z rest rest0 g1 g2 g3 g4 g5 g6 g7 g8 k1 k2 tb tM tM2 te tA tS tl1 tl2 tl3 q1 q2 q3 q4 q5 q6 q7 q8 q9 q10 y1 y2 y3 y4 t9 t10 tp tn began ahead size zo lim i1 i2 i3 i4 now s5 s6 s7 hdr pb xs v1 v2 v3 v4 := Mine.ep_all (P := fun c => @rput_o_P c) neCx rput_o_T ⟨(up 0 pp zC0, up 0 w zC1, up 0 loose zC2, up 0 mean zC3, up 0 mg (up 1 mb (up 2 m zC4)), up 0 dp (up 1 un (up 2 nr (up 3 np_z zC5))), up 0 gd zC6, up 0 cn zC7, up 0 cs zC8, up 0 a (up 1 L (up 6 d (up 7 da (up 2 hg (up 3 ha (up 4 rl (up 8 pl (up 23 kd (up 14 re (up 15 rd (up 16 wd (up 9 hh (up 10 hha zC9))))))))))))), up 0 ccd (up 3 fv (up 8 s5 (up 9 s6 (up 10 s7 zC10)))), up 0 cl zC11, up 0 outer zC12, up 0 A₀ zC13, up 0 base (up 1 h₀ zC14), up 0 news (up 2 r1 (up 3 r2 (up 5 r3_2z (up 1 rest (up 4 rest0 zC15))))), up 0 s zC16, up 0 Q (up 1 E zC17), up 6 g1 (up 7 g2 (up 8 g3 (up 9 g4 (up 10 g5 (up 11 g6 (up 12 g7 (up 13 g8 (up 0 k1 (up 1 k2 (up 2 tb (up 4 tM (up 18 tM2 (up 3 te (up 14 tA (up 15 tS (up 44 tl1 (up 45 tl2 (up 46 tl3 (up 21 q1 (up 22 q2 (up 23 q3 (up 24 q4 (up 25 q5 (up 26 q6 (up 27 q7 (up 28 q8 (up 29 q9 (up 30 q10 (up 73 y1 (up 74 y2 (up 75 y3 (up 76 y4 (up 31 t9 (up 32 t10 (up 33 tp (up 77 tn (up 39 v1 (up 41 v2 (up 78 v3 (up 79 v4 zC18)))))))))))))))))))))))))))))))))))))))), up 0 rvs (up 2 pvs zC19), up 0 rows zC20, zC21, up 4 began (up 5 ahead (up 6 size (up 25 zo (up 9 lim (up 20 i1 (up 21 i2 (up 22 i3 (up 23 i4 (up 24 now zC22))))))))), zC23, up 0 first zC24, up 0 parts zC25, up 0 hdr zC26, up 4 val (up 0 pb zC27), up 0 fin zC28, zC29, zC30, up 0 wo zC31, up 0 gq zC32, up 0 xs zC33, zCt34)⟩ 
def layer_spec_S (pp : Program) (w : World) (loose : List Str) (mean : ExcName → Option Value) (mg : Str → Option Value) (mb : Str → Option Value) (dp : Nat) (un : Nat) (gd : Option (List Code)) (cn : Str) (cs : Scope) (a : Addr) (ccd : Value) (cl : List (Str × Addr)) (outer : List Env) (A₀ : Around) (base : Heap) (h₀ : Heap) (L : Addr) (m : Str → Option Value) (news : List (Addr × Obj)) (s : Shared) (Q : Value → Shared → Prop) (E : Value → Shared → Prop) : Prop := Below A₀ base outer h₀ → Fr h₀ L s.heap m → (Mine.hd.heap_1 w.params).In h₀ → News h₀ L s.heap news → Top pp loose mean mg mb h₀ → cs.kind = .function → dp < 480 → un < 8800 → 
    
    (∀ lay ld re rd wd wo fcv rtv fwv liv f1 f2 f3 f4 f5 r1 r2 r3 r4 tl1 tl2 tl3 h' tk', WObj Challenge.rw_xw0340_01.row.prog w wo [] → (wd == sysModules) = false → (∀ p ∈ news, p.1 ≠ wd) → lay ≠ wd → ld ≠ wd → re ≠ wd → rd ≠ wd → Fr h₀ L h' m → News h₀ L h' ((wd, wo) :: (lay, instObj 349 ld) :: (ld, (dictOf [leftact% faces f1 fcv, leftact% routes f2 rtv, leftact% reassembly f3 (Value.ref re), leftact% forwards f4 fwv, leftact% last_ident f5 liv] 5)) :: (re, instObj 535 rd) :: (rd, (dictOf [leftact% time_limit r1 (Value.int 50 tl1), leftact% most_octets r2 (Value.int 999 tl2), leftact% most r3 (Value.int 65535 tl3), leftact% waiting r4 (Value.ref wd)] 4)) :: news) →  Q (.ref lay) { s with heap := h', toks := tk' }) →
    wpAny (model Challenge.rw_xw0340_01.row.prog w) (ktrTop dp un gd cn cs L a ccd cl outer) (call (.ref 586) []) Q E s
open Cx in
def layer_spec_P [Cx] : Prop := layer_spec_S pp w loose mean mg mb dp un gd cn cs a ccd cl outer A₀ base h₀ L m news s Q E
noncomputable def layer_spec_C : Cx := Mine.ep neCx (fun c => ¬ @layer_spec_P c)
noncomputable instance layer_spec_I : Cx := layer_spec_C
open Cx in
set_option maxHeartbeats 4000000 in
theorem layer_spec_T : layer_spec_P := by
  unfold layer_spec_P layer_spec_S
  k_fill
  intro B F X N T hk hd hu  ret
  refine wpAny_call ?_
  refine' code_part (rw := []) (ro := []) (rest := news) ?k1 ?k2 ?k3 ?k4 ?k5 ?kA ?kF ?kK ?k6 ?k7 ?k8 ?k9 ?kB ?r1 ?r2 ?r3 ?r4 ?_ ?c2 ?c3 ?c4 ?c5
  k_extra "my:enter"
  (case r1 => intro q hq; cases hq)
  (case r2 => exact fun q hq => hq)
  (case r3 => intro q hq; cases hq)
  (case r4 => intro q hq; cases hq)
  intro g' L' h' FG' F' N' B' X' T' hLt hst
  (try simp only [List.nil_append, List.cons_append] at N' hLt)
  (try dsimp only)
  k_steps
  all_goals (rename (News _ _ _ _ → News _ _ _ _) => hR)
  all_goals (refine' layer_end (R := fun l h' tk' => Q (.ref l) { s with heap := h', toks := tk' }) ret ?F ?N ?ml ?m1 ?e1 ?m2 ?m3 ?e2 ?m4 ?hw ?lo ?hR ?hf ?a1 ?a2 ?a3 ?a4; (case F => k_asm); (case N => k_asm); (case ml => first | with_reducible kba_same | kba_same); (case m1 => first | with_reducible kba_same | kba_same); (case e1 => exact rfl); (case m2 => first | with_reducible kba_same | kba_same); (case m3 => first | with_reducible kba_same | kba_same); (case e2 => exact rfl); (case m4 => first | with_reducible kba_same | kba_same); (case hw => with_reducible assumption); (case lo => with_reducible assumption); (case hR => exact hR News.nil); (case hf => exact fresh_of N hst (by with_reducible assumption) (by kba_same) (by simp)); all_goals (show @Ne Nat _ _; omega))
theorem layer_spec : layer_spec_S pp w loose mean mg mb dp un gd cn cs a ccd cl outer A₀ base h₀ L m news s Q E := Mine.ep_all (P := fun c => @layer_spec_P c) neCx layer_spec_T ⟨(up 0 pp zC0, up 0 w zC1, up 0 loose zC2, up 0 mean zC3, up 0 mg (up 1 mb (up 2 m zC4)), up 0 dp (up 1 un zC5), up 0 gd zC6, up 0 cn zC7, up 0 cs zC8, up 0 a (up 1 L zC9), up 0 ccd zC10, up 0 cl zC11, up 0 outer zC12, up 0 A₀ zC13, up 0 base (up 1 h₀ zC14), up 0 news zC15, up 0 s zC16, up 0 Q (up 1 E zC17), zCt18)⟩ 
theorem rows_PT1 : True := by
  k_with "my:call builtin:len" => row_timed "f" ((k_here; (with_reducible show wpAny _ _ (call (Value.builtin "len") [Value.ref _]) _ _ _); (have mk9 : Mine.MkPt _ := (by with_reducible assumption)); clear mk9; k_dflt (refine' Mine.pt_len ?N ?m ?c ?h ?_; (case N => k_asm); (case m => k_mem); (case c => assumption); (case h => assumption))))
  k_with "my:exec For Tuple Call cons nil" => row_timed "f" ((k_here; (rename Fr _ _ _ _ => lF'); (with_unfolding_all refine' For_turns lF' ?_; k_whole)))
  k_with "my:call type:enumerate" => row_timed "f" ((k_here; (with_reducible show wpAny _ _ (call (Value.type _) [Value.ref _]) (fun xv s₁ => wpAny _ _ (pyIter xv) (fun it s₂ => TurnsAt _ _ _ _ _ _ _ _ _ it s₂) _ s₁) _ _); (rename Fr _ _ _ _ => lF'); (rename News _ _ _ _ => lN'); k_dflt (refine' Mine.pt_call [Str.ofString "at", Str.ofString "end", Str.ofString "is_more", Str.ofString "begin"] ?mk rfl lF' lN' ?ml ?mc ?mf ?hc ?n1 ?v1 ?v2 ?v3 ?v4 ?v5 ?c3 ?c4 ?c5 ?_ ?hm2 ?_; (case mk => with_reducible assumption); (case hc => assumption); (case v1 => exact rfl); (case v2 => exact rfl); (case v3 => exact rfl); (case v4 => exact rfl); (case v5 => exact rfl); (case ml => k_mem); (case mc => k_mem); (case mf => k_mem); (case n1 => (show @Ne Nat _ _; omega)); (case c3 => decide); (case c4 => decide); (case c5 => decide); (case hm2 => assumption)); (all_goals (clear lF' lN')); (focus (intro I' Z' i' tx' D' t' m1' fl' nn' vs' new' tb' h' tk' o1' o2' hi' hR' hS' hm' hva' hvb' hvc' hvd' hve' hxa' hxb' hxc' hxd' hxe' hT' F' N')); rotate_left; (focus (intro m1' fl' nn' vs' new' h' tk' hva' hL' hna' hnb' F' N')); rotate_left))
  k_with "my:UnrEndW" => row_timed "f" ((k_dflt (refine' Mine.pt_end [Str.ofString "at", Str.ofString "end", Str.ofString "is_more", Str.ofString "begin"] ?S ?hi ?h2 ?hn ?hR ?F ?N ?x1 ?x2 ?mf ?mt ?mh ?ma ?ml ?mc ?mn ?eb ?eo ?em ?g1 ?g2 ?g3 ?hm ?v1 ?v2 ?hb; (case S => with_reducible assumption); (case hi => assumption); (case h2 => assumption); (case hn => exact rfl); (case hR => with_reducible assumption); (case F => k_asm); (case N => k_asm); (case x1 => kba_same); (case x2 => kba_same); (case mf => kba_same); (case mt => kba_same); (case mh => kba_same); (case ma => kba_same); (case ml => kba_same); (case mc => kba_same); (case mn => kcf_all); (case eb => exact rfl); (case eo => exact rfl); (case em => exact Eq.symm (Mine.len_dec)); (case g1 => omega); (case g2 => omega); (case g3 => omega); (case hm => (intros z9 hz9; refine Eq.trans ?_ (hm' z9 hz9); (try simp only [List.contains_cons, List.contains_nil, Bool.or_eq_false_iff, Bool.or_false, beq_eq_false_iff_ne, ne_eq] at hz9); simp [hz9])); (case v1 => first | exact rfl | assumption); (case v2 => first | exact rfl | assumption); (case hb => exact rfl))))
  k_with "my:eval Name" => row_timed "f" ((k_here; (with_reducible show wpAny _ _ (eval (Expr.Name (Str.ofString "found") _) (envOf _ _ _ _ _)) _ _ _); (have mk9 : Mine.MkPt _ := (by with_reducible assumption)); clear mk9; k_dflt (refine' nameX_L ?F ?v ?_ ?a ?b; (case a => exact rfl); (case b => exact rfl); (case F => k_asm); (case v => assumption); k_whole)))
  k_with "my:eval Name" => row_timed "f" ((k_here; (with_reducible show wpAny _ _ (eval (Expr.Name (Str.ofString "begin") _) (envOf _ _ _ _ _)) _ _ _); (have mk9 : Mine.MkPt _ := (by with_reducible assumption)); clear mk9; k_dflt (refine' nameX_L ?F ?v ?_ ?a ?b; (case a => exact rfl); (case b => exact rfl); (case F => k_asm); (case v => assumption); k_whole)))
  k_with "my:eval Name" => row_timed "f" ((k_here; (with_reducible show wpAny _ _ (eval (Expr.Name (Str.ofString "cuts") _) (envOf _ _ _ _ _)) _ _ _); (have mk9 : Mine.MkPt _ := (by with_reducible assumption)); clear mk9; k_dflt (refine' nameX_L ?F ?v ?_ ?a ?b; (case a => exact rfl); (case b => exact rfl); (case F => k_asm); (case v => assumption); k_whole)))
  k_with "my:eval Name" => row_timed "f" ((k_here; (with_reducible show wpAny _ _ (eval (Expr.Name (Str.ofString "octets") _) (envOf _ _ _ _ _)) _ _ _); (have mk9 : Mine.MkPt _ := (by with_reducible assumption)); clear mk9; k_dflt (refine' nameX_L ?F ?v ?_ ?a ?b; (case a => exact rfl); (case b => exact rfl); (case F => k_asm); (case v => assumption); k_whole)))
  k_with "my:eval Name" => row_timed "f" ((k_here; (with_reducible show wpAny _ _ (eval (Expr.Name (Str.ofString "number") _) (envOf _ _ _ _ _)) _ _ _); (have mk9 : Mine.MkPt _ := (by with_reducible assumption)); clear mk9; k_dflt (refine' nameX_L ?F ?v ?_ ?a ?b; (case a => exact rfl); (case b => exact rfl); (case F => k_asm); (case v => assumption); k_whole)))
  k_with "my:binaryOp Add ref ref" => row_timed "f" ((k_here; k_dflt (refine' Mine.add_rows ?F ?N ?t ?b ?z ?y ?_; (case F => k_asm); (case N => k_asm); (case t => kba_same); (case b => kba_same); (case z => first | assumption | (simp; done) | (simp only [List.length_append, List.length_take, List.length_drop]; omega)); (case y => first | assumption | omega | (simp only [List.length_append, List.length_take, List.length_drop]; omega))); intro D' h' F' N' l1'; (try k_lt l1'); (try k_sweep)))
  trivial
def parts_spec_S (pp : Program) (w : World) (loose : List Str) (mean : ExcName → Option Value) (mg : Str → Option Value) (mb : Str → Option Value) (dp : Nat) (un : Nat) (gd : Option (List Code)) (cn : Str) (cs : Scope) (a : Addr) (ccd : Value) (cl : List (Str × Addr)) (outer : List Env) (A₀ : Around) (base : Heap) (h₀ : Heap) (L : Addr) (m : Str → Option Value) (news : List (Addr × Obj)) (s : Shared) (Q : Value → Shared → Prop) (E : Value → Shared → Prop) (num : Int) (tn : Tok) (tb : Tok) (ob : Byt) (cu : Addr) (nc : Nat) (many : Nat) (cvs : List Value) : Prop := Below A₀ base outer h₀ → Fr h₀ L s.heap m → (Mine.hd.heap_1 w.params).In h₀ → News h₀ L s.heap news → Top pp loose mean mg mb h₀ → cs.kind = .function → dp < 480 → un < 8800 → 
    SubL ([(cu, listOf cvs.toArray nc)] : List (Addr × Obj)) news → CutsOk cvs many → many ≤ 2 → ob.size ≤ 24 → 
    (∀ l nn vs new h' tk', LeftAt w.params new (datOf num many ob) vs (List.range (many + 1)) → (∀ p ∈ new, ∀ q ∈ news, q.1 ≠ p.1) → (∀ q ∈ news, q.1 ≠ l) → Fr h₀ L h' m → News h₀ L h' ((l, listOf vs.toArray nn) :: (new ++ news)) →  Q (.ref l) { s with heap := h', toks := tk' }) →
    wpAny (model Challenge.rw_xw0340_01.row.prog w) (ktrTop dp un gd cn cs L a ccd cl outer) (call (.ref 567) [.int num tn, .bytes ob tb, .ref cu]) Q E s
open Cx in
def parts_spec_P [Cx] : Prop := parts_spec_S pp w loose mean mg mb dp un gd cn cs a ccd cl outer A₀ base h₀ L m news s Q E num tn tb ob cu nc many cvs
noncomputable def parts_spec_C : Cx := Mine.ep neCx (fun c => ¬ @parts_spec_P c)
noncomputable instance parts_spec_I : Cx := parts_spec_C
open Cx in
set_option maxHeartbeats 4000000 in
theorem parts_spec_T : parts_spec_P := by
  unfold parts_spec_P parts_spec_S
  k_fill
  intro B F X N T hk hd hu hS hc h2 hz ret
  refine wpAny_call ?_
  refine' code_part (rw := []) (ro := [(cu, listOf cvs.toArray nc)]) (rest := news) ?k1 ?k2 ?k3 ?k4 ?k5 ?kA ?kF ?kK ?k6 ?k7 ?k8 ?k9 ?kB ?r1 ?r2 ?r3 ?r4 ?_ ?c2 ?c3 ?c4 ?c5
  k_extra "my:enter"
  (case r1 => intro q hq; cases hq)
  (case r2 => exact fun q hq => hq)
  (case r3 => exact SubL.mem hS)
  (case r4 => intro q hq; cases hq)
  intro g' L' h' FG' F' N' B' X' T' hLt hst
  (try simp only [List.nil_append, List.cons_append] at N' hLt)
  (try dsimp only)
  have mk : MkPt (datOf num many ob) := rfl
  have hcl : cvs.length ≤ 100 := by rw [hc.1]; omega
  k_steps
  all_goals (rename (News _ _ _ _ → News _ _ _ _) => hR)
  all_goals (refine' ret _ _ _ _ _ _ ?L ?f1 ?f2 ?F ?nn; (case L => assumption); (case F => k_asm); (case f1 => exact fun p hp => fresh_of N hst (by with_reducible assumption) (List.mem_cons_of_mem _ (List.mem_append_left _ hp)) (fun e9 => (by with_reducible assumption : ∀ p ∈ _, p.1 ≠ cu) p hp (List.mem_singleton.mp e9))); (case f2 => exact fresh_of N hst (by with_reducible assumption) (List.Mem.head _) (fun e9 => (by with_reducible assumption : _ ≠ cu) (List.mem_singleton.mp e9))); (case nn => exact Mine.newsA (a := (_, _) :: _) (newsub (by k_asm) (by kcf_all)) (hR (newsl (by k_asm) (by k_subL)))))
theorem parts_spec : parts_spec_S pp w loose mean mg mb dp un gd cn cs a ccd cl outer A₀ base h₀ L m news s Q E num tn tb ob cu nc many cvs := Mine.ep_all (P := fun c => @parts_spec_P c) neCx parts_spec_T ⟨(up 0 pp zC0, up 0 w zC1, up 0 loose zC2, up 0 mean zC3, up 0 mg (up 1 mb (up 2 m zC4)), up 0 dp (up 1 un (up 9 nc (up 10 many zC5))), up 0 gd zC6, up 0 cn zC7, up 0 cs zC8, up 0 a (up 1 L (up 29 cu zC9)), up 0 ccd zC10, up 0 cl zC11, up 0 outer zC12, up 0 A₀ zC13, up 0 base (up 1 h₀ zC14), up 0 news zC15, up 0 s zC16, up 0 Q (up 1 E zC17), up 77 tn (up 2 tb zC18), up 3 cvs zC19, zC20, zC21, up 28 num zC22, zC23, zC24, zC25, zC26, up 5 ob zC27, zCt28)⟩ 
theorem parts0_spec {pp : Program} {w : World} {loose : List Str} {mean : ExcName → Option Value} {mg mb : Str → Option Value} {dp un : Nat} {gd : Option (List Code)} {cn : Str} {cs : Scope} {a : Addr} {ccd : Value} {cl : List (Str × Addr)} {outer : List Env} {A₀ : Around} {base h₀ : Heap} {L : Addr} {m : Str → Option Value} {news : List (Addr × Obj)} {s : Shared} {Q E : Value → Shared → Prop} {num : Int} {tn tb : Tok} {ob : Byt} {cu : Addr} {nc : Nat} :
    Below A₀ base outer h₀ → Fr h₀ L s.heap m → (Mine.hd.heap_1 w.params).In h₀ → News h₀ L s.heap news → Top pp loose mean mg mb h₀ → cs.kind = .function → dp < 480 → un < 8800 →
    SubL ([(cu, listOf #[] nc)] : List (Addr × Obj)) news → 0 < ob.size → ob.size ≤ 8 →
    (∀ l nn vs new h' tk', LeftAt w.params new (datOf num 0 ob) vs [0] → (∀ p ∈ new, ∀ q ∈ news, q.1 ≠ p.1) → (∀ q ∈ news, q.1 ≠ l) → Fr h₀ L h' m → News h₀ L h' ((l, listOf vs.toArray nn) :: (new ++ news)) → Q (.ref l) { s with heap := h', toks := tk' }) →
    wpAny (model Challenge.rw_xw0340_01.row.prog w) (ktrTop dp un gd cn cs L a ccd cl outer) (call (.ref 567) [.int num tn, .bytes ob tb, .ref cu]) Q E s := by
  intros B F X N T hk hd hu hS hz1 hz2 ret
  exact parts_spec (cvs := []) B F X N T hk hd hu hS cuts0 (by decide) (Nat.le_trans hz2 (by decide)) ret
theorem parts1_spec {pp : Program} {w : World} {loose : List Str} {mean : ExcName → Option Value} {mg mb : Str → Option Value} {dp un : Nat} {gd : Option (List Code)} {cn : Str} {cs : Scope} {a : Addr} {ccd : Value} {cl : List (Str × Addr)} {outer : List Env} {A₀ : Around} {base h₀ : Heap} {L : Addr} {m : Str → Option Value} {news : List (Addr × Obj)} {s : Shared} {Q E : Value → Shared → Prop} {num : Int} {tn tb t1 : Tok} {ob : Byt} {cu : Addr} {nc : Nat} :
    Below A₀ base outer h₀ → Fr h₀ L s.heap m → (Mine.hd.heap_1 w.params).In h₀ → News h₀ L s.heap news → Top pp loose mean mg mb h₀ → cs.kind = .function → dp < 480 → un < 8800 →
    SubL ([(cu, listOf #[Value.int 8 t1] nc)] : List (Addr × Obj)) news → 8 < ob.size → ob.size ≤ 16 →
    (∀ l nn vs new h' tk', LeftAt w.params new (datOf num 1 ob) vs [0, 1] → (∀ p ∈ new, ∀ q ∈ news, q.1 ≠ p.1) → (∀ q ∈ news, q.1 ≠ l) → Fr h₀ L h' m → News h₀ L h' ((l, listOf vs.toArray nn) :: (new ++ news)) → Q (.ref l) { s with heap := h', toks := tk' }) →
    wpAny (model Challenge.rw_xw0340_01.row.prog w) (ktrTop dp un gd cn cs L a ccd cl outer) (call (.ref 567) [.int num tn, .bytes ob tb, .ref cu]) Q E s := by
  intros B F X N T hk hd hu hS hz1 hz2 ret
  exact parts_spec (cvs := [Value.int 8 t1]) B F X N T hk hd hu hS cuts1 (by decide) (Nat.le_trans hz2 (by decide)) ret
theorem parts2_spec {pp : Program} {w : World} {loose : List Str} {mean : ExcName → Option Value} {mg mb : Str → Option Value} {dp un : Nat} {gd : Option (List Code)} {cn : Str} {cs : Scope} {a : Addr} {ccd : Value} {cl : List (Str × Addr)} {outer : List Env} {A₀ : Around} {base h₀ : Heap} {L : Addr} {m : Str → Option Value} {news : List (Addr × Obj)} {s : Shared} {Q E : Value → Shared → Prop} {num : Int} {tn tb t1 t2 : Tok} {ob : Byt} {cu : Addr} {nc : Nat} :
    Below A₀ base outer h₀ → Fr h₀ L s.heap m → (Mine.hd.heap_1 w.params).In h₀ → News h₀ L s.heap news → Top pp loose mean mg mb h₀ → cs.kind = .function → dp < 480 → un < 8800 →
    SubL ([(cu, listOf #[Value.int 8 t1, Value.int 16 t2] nc)] : List (Addr × Obj)) news → 16 < ob.size → ob.size ≤ 24 →
    (∀ l nn vs new h' tk', LeftAt w.params new (datOf num 2 ob) vs [0, 1, 2] → (∀ p ∈ new, ∀ q ∈ news, q.1 ≠ p.1) → (∀ q ∈ news, q.1 ≠ l) → Fr h₀ L h' m → News h₀ L h' ((l, listOf vs.toArray nn) :: (new ++ news)) → Q (.ref l) { s with heap := h', toks := tk' }) →
    wpAny (model Challenge.rw_xw0340_01.row.prog w) (ktrTop dp un gd cn cs L a ccd cl outer) (call (.ref 567) [.int num tn, .bytes ob tb, .ref cu]) Q E s := by
  intros B F X N T hk hd hu hS hz1 hz2 ret
  exact parts_spec (cvs := [Value.int 8 t1, Value.int 16 t2]) B F X N T hk hd hu hS cuts2 (by decide) (Nat.le_trans hz2 (by decide)) ret
theorem rows_SL1 : True := by
  k_with "my:call builtin:len" => row_timed "f" ((k_here; (with_reducible show wpAny _ _ (call (Value.builtin "len") [Value.bytes _ _]) _ _ _); k_dflt (refine' Mine.len_By ?z ?_; (case z => first | omega | decide))))
  k_with "my:call builtin:len" => row_timed "f" ((k_here; (with_reducible show wpAny _ _ (call (Value.builtin "len") [Value.bytes #[] _]) _ _ _); k_dflt (refine Mine.len_B0 ?_)))
  trivial
theorem put_new  {w : World} {re rd wd hh : Addr} {wo : Obj} {v1 v2 v3 v4 tl1 tl2 tl3 : Tok} {lim n zo now : Int} {hdr : Hd} {pb : Byt} {ys : List (List Int × Addr × Value)} {gq : Dg} {oc : Option (Hd × Byt)} {Post : List (Addr × Obj) → Prop} {pre kn : List (Addr × Obj)} :
    (re, instObj 535 rd) ∈ pre → (rd, (dictOf [leftact% time_limit v1 (Value.int lim tl1), leftact% most_octets v2 (Value.int 999 tl2), leftact% most v3 (Value.int 65535 tl3), leftact% waiting v4 (Value.ref wd)] 4)) ∈ pre → HdAt w.params kn hh hdr → (∀ p ∈ kn, p ∈ pre) → hdr.src = 5 ∧ hdr.tgt = 9 ∧ hdr.prot = 17 ∧ hdr.ident = n → WObj Challenge.rw_xw0340_01.row.prog w wo ys → (wd == sysModules) = false → Oth w.params pre n ys zo → PutOk (Dg.new now) hdr pb → gq = (Dg.new now).put hdr pb → (gq.fin = none ∨ gq.first = none) → 0 ≤ gq.size → gq.size + zo ≤ 999 → 0 ≤ hdr.off → hdr.off + pb.size ≤ 65515 → (oc = none ∧ ∀ p, AliveP Challenge.rw_xw0340_01.row.prog w wd n ys pre kn gq p → Post p) → PutC Mine.hd.heap_1 w re hh pb now [(wd, wo)] pre oc Post := by
  intros hre hrd hH hkn hk hW lo hO hok hgq hnd hz0 hzs ho hoz h0
  obtain ⟨e0, hpost⟩ := h0
  subst e0
  refine ⟨?_⟩
  intros pp loose mean mg mb dp un gd cn cs a ccd cl outer A₀ base h₀ L m s Q E F tp tn B Fr9 X N hap T hkk hd hu ret
  obtain ⟨src, tgt, prot, ident, ttl, tos, dont, more, off⟩ := hdr
  obtain ⟨e1, e2, e3, e4⟩ := hk
  dsimp only at e1 e2 e3 e4
  subst e1; subst e2; subst e3; subst e4
  have hH0 := hH
  obtain ⟨hha, q1, q2, q3, q4, q5, q6, q7, q8, q9, q10, t1, t2, t3, t4, t5, t6, t9, t10, m3, m4⟩ := hH
  have sub : ∀ p ∈ pre, p ∈ pre ++ F := fun p hp => List.mem_append.mpr (.inl hp)
  have skn : ∀ p ∈ kn, p ∈ pre ++ F := fun p hp => sub p (hkn p hp)
  obtain ⟨zs, hV, hnn, hsum⟩ := hO.ex
  have hb : gq.began = now := by rw [hgq]; rfl
  refine rput_n (zs := zs) (rest := pre ++ F) (rest0 := kn) B Fr9 X N T hkk hd hu Sel.head (fun p hp => hap.2 _ (.head _) p hp) (sub _ hre) (sub _ hrd) (skn _ m3) (skn _ m4) skn hH0 hW lo (hV.mono sub) (oth_none hO) hO.len hnn hok hgq hnd hz0 (by rw [hsum, Int.add_comm]; exact hzs) ho hoz ?_
  intros d da hg ha pl ka g1 g2 g3 g4 g5 g6 g7 g8 k1 k2 tM tM2 r rl' rvs' pvs' nr' np' fv' tA' te' tS' sz' wo' tl h' tk' hW' hP' hQ' hF' hs' htl hka l1 l2 l3 l4 l5 l6 l7 l8 F' N'
  subst hs'
  subst hb
  have lka := ktn_ltOf hka
  have k3 := Nat.lt_trans l2 l3
  have k4 := Nat.lt_trans k3 l4
  have k5 := Nat.lt_trans k4 l5
  have k6 := Nat.lt_trans k5 l6
  have k7 := Nat.lt_trans k6 l7
  have kwr := Nat.lt_trans l1 k7
  have gc : ∀ p ∈ (⟨⟨d, da, hg, ha, rl', pl, rvs', pvs', nr', np', fv', g1, g2, g3, g4, g5, g6, g7, g8, k1, k2, tn, tM, tM2, te', tA', tS'⟩, gq, ka⟩ : Own).cells w.params, @LE.le Nat _ ka p.1 := List.forall_mem_cons.mpr ⟨Nat.le_of_lt l2, List.forall_mem_cons.mpr ⟨Nat.le_of_lt k4, List.forall_mem_cons.mpr ⟨Nat.le_of_lt k6, List.forall_mem_nil _⟩⟩⟩
  have gf : ∀ p ∈ (rl', listOf rvs'.toArray nr') :: (d, instObj 452 da) :: (hg, instObj 398 ha) :: (ka, keyObj ident t1 t2 t3 t4) :: tl, @LE.le Nat _ ka p.1 := List.forall_mem_cons.mpr ⟨Nat.le_of_lt (Nat.lt_trans k7 l8), List.forall_mem_cons.mpr ⟨Nat.le_of_lt k3, List.forall_mem_cons.mpr ⟨Nat.le_of_lt k5, List.forall_mem_cons.mpr ⟨Nat.le_refl _, fun p hp => Nat.le_of_lt (Nat.lt_trans k7 (htl p hp))⟩⟩⟩⟩
  refine ret .none (((wd, wo') :: (⟨⟨d, da, hg, ha, rl', pl, rvs', pvs', nr', np', fv', g1, g2, g3, g4, g5, g6, g7, g8, k1, k2, tn, tM, tM2, te', tA', tS'⟩, gq, ka⟩ : Own).cells w.params) ++ (((rl', listOf rvs'.toArray nr') :: (d, instObj 452 da) :: (hg, instObj 398 ha) :: (ka, keyObj ident t1 t2 t3 t4) :: tl) ++ pre)) h' tk' (hpost _ ?po) rfl ?fr F' ?nn
  case nn =>
    dsimp only [Own.cells, List.cons_append, List.nil_append]
    (try dsimp only at N')
    clear sub skn hkn
    exact newsub N' (by kcf_all)
  case fr => exact freshSplit (fun q hq hm => List.forall_mem_cons.mpr ⟨hm (wd, wo) (.head _), fun p hp => neGt (gc p hp) (lka q (List.mem_append_right _ hq))⟩) (frN gf fun q hq => lka q (List.mem_append_right _ hq))
  case po =>
    refine ⟨wo', _, _, _, rfl, hW', .inr rfl, ⟨⟨by kba_same, by kba_same, by kba_same, hP'.mono (by clear sub skn hkn; kcf_all), hQ'.mono (by clear sub skn hkn; kcf_all), hF'.mono (by clear sub skn hkn; kcf_all)⟩, t1, t2, t3, t4, by kba_same⟩, rfl, ?_, frN gf fun q hq => lka q (List.mem_append_left _ hq)⟩
    refine sep4 (Nat.ne_of_lt (Nat.lt_trans l1 l2)) (Nat.ne_of_lt (Nat.lt_trans l1 k4)) (Nat.ne_of_lt (Nat.lt_trans l1 k6)) (Nat.ne_of_lt (Nat.lt_trans l3 l4)) (Nat.ne_of_lt (Nat.lt_trans (Nat.lt_trans l3 l4) (Nat.lt_trans l5 l6))) (Nat.ne_of_lt (Nat.lt_trans l5 l6)) ?_
    refine List.forall_mem_append.mpr ⟨List.forall_mem_cons.mpr ⟨gt4 (Nat.le_of_lt l8) kwr (Nat.lt_trans l3 (Nat.lt_trans l4 (Nat.lt_trans l5 (Nat.lt_trans l6 l7)))) (Nat.lt_trans l5 (Nat.lt_trans l6 l7)) l7, List.forall_mem_cons.mpr ⟨⟨neGt (Nat.le_of_lt k3) l1, Nat.ne_of_gt l3, Nat.ne_of_lt l4, Nat.ne_of_lt (Nat.lt_trans l4 (Nat.lt_trans l5 l6))⟩, List.forall_mem_cons.mpr ⟨⟨neGt (Nat.le_of_lt k5) l1, Nat.ne_of_gt (Nat.lt_trans l3 (Nat.lt_trans l4 l5)), Nat.ne_of_gt l5, Nat.ne_of_lt l6⟩, List.forall_mem_cons.mpr ⟨⟨Nat.ne_of_gt l1, Nat.ne_of_lt l2, Nat.ne_of_lt k4, Nat.ne_of_lt k6⟩, fun p hp => gt4 (geTl htl p hp) kwr (Nat.lt_trans l3 (Nat.lt_trans l4 (Nat.lt_trans l5 (Nat.lt_trans l6 l7)))) (Nat.lt_trans l5 (Nat.lt_trans l6 l7)) l7⟩⟩⟩⟩, fun p hp => ?_⟩
    have h3 : @LT.lt Nat _ p.1 ka := lka p (List.mem_append_left _ hp)
    exact ⟨hap.2 _ (.head _) p (List.mem_append_left _ hp), Nat.ne_of_lt (Nat.lt_trans h3 l2), Nat.ne_of_lt (Nat.lt_trans h3 k4), Nat.ne_of_lt (Nat.lt_trans h3 k6)⟩
theorem put_old  {w : World} {re rd wd hh : Addr} {wo : Obj} {v1 v2 v3 v4 tl1 tl2 tl3 : Tok} {lim n zo now : Int} {hdr : Hd} {pb : Byt} {xs ys : List (List Int × Addr × Value)} {o : Own} {val : Byt} {gq : Dg} {oc : Option (Hd × Byt)} {Post : List (Addr × Obj) → Prop} {pre kn : List (Addr × Obj)} :
    (re, instObj 535 rd) ∈ pre → (rd, (dictOf [leftact% time_limit v1 (Value.int lim tl1), leftact% most_octets v2 (Value.int 999 tl2), leftact% most v3 (Value.int 65535 tl3), leftact% waiting v4 (Value.ref wd)] 4)) ∈ pre → HdAt w.params kn hh hdr → (∀ p ∈ kn, p ∈ pre) → hdr.src = 5 ∧ hdr.tgt = 9 ∧ hdr.prot = 17 ∧ hdr.ident = n → WObj Challenge.rw_xw0340_01.row.prog w wo xs → (wd == sysModules) = false → Oth w.params pre n ys zo → OwnAt w.params kn n o → Ins xs ys (o.entry n) → o.g.rows.length ≤ 50 → o.g.parts.length + o.g.rows.length ≤ 1000 → PutOk o.g hdr pb → gq = o.g.put hdr pb → 0 ≤ gq.size → gq.size + zo ≤ 999 → 0 ≤ hdr.off → hdr.off + pb.size ≤ 65515 → OctsIf gq.rows gq.parts val → (∀ y, gq.fin = some y → y ≤ 65515) → ((gq.fin = none ∨ gq.first = none ∨ gq.rows ≠ []) → oc = none ∧ ∀ p, AliveP Challenge.rw_xw0340_01.row.prog w wd n ys pre kn gq p → Post p) → (∀ x h1, gq.fin = some x → gq.first = some h1 → gq.rows = [] → oc = some (wholeHd h1, val) ∧ ∀ p, DeadP Challenge.rw_xw0340_01.row.prog w wd ys pre p → Post p) → PutC Mine.hd.heap_1 w re hh pb now ((wd, wo) :: o.cells w.params) pre oc Post := by
  intros hre hrd hH hkn hk hW lo hO hOw hI hrn hpn hok hgq hz0 hzs ho hoz hoc hxx h0 h1
  refine ⟨?_⟩
  intros pp loose mean mg mb dp un gd cn cs a ccd cl outer A₀ base h₀ L m s Q E F tp tn B Fr9 X N hap T hkk hd hu ret
  obtain ⟨src, tgt, prot, ident, ttl, tos, dont, more, off⟩ := hdr
  obtain ⟨e1, e2, e3, e4⟩ := hk
  dsimp only at e1 e2 e3 e4
  subst e1; subst e2; subst e3; subst e4
  have hH0 := hH
  obtain ⟨hha, q1, q2, q3, q4, q5, q6, q7, q8, q9, q10, t1, t2, t3, t4, t5, t6, t9, t10, m3, m4⟩ := hH
  have sub : ∀ p ∈ pre, p ∈ pre ++ F := fun p hp => List.mem_append.mpr (.inl hp)
  have skn : ∀ p ∈ kn, p ∈ pre ++ F := fun p hp => sub p (hkn p hp)
  obtain ⟨⟨d, da, hg, ha, rl, pl, rvs, pvs, nr, np, fv, g1, g2, g3, g4, g5, g6, g7, g8, k1, k2, tb, tM, tM2, te, tA, tS⟩, ⟨began, rows, parts, fin, ahead, first, size⟩, kd⟩ := o
  have hat := ins_at hW hI
  have hwk := ins_keys (prog := Challenge.rw_xw0340_01.row.prog) (w := w) hO (hOw.mono hkn) hI
  have hwd := ins_waits hO (hOw.mono hkn) hI
  have hwo := ins_without hO hI
  have hb : gq.began = began := by rw [hgq]; rfl
  obtain ⟨⟨di, hi, ri, hrows, hparts, hfirst⟩, x1, x2, x3, x4, hkey⟩ := hOw
  have hnd := hap.1
  have hap2 := hap.2
  dsimp only [Own.cells] at di hi ri hrows hparts hfirst hrn hpn hat hwd hnd hap2
  simp only [List.map_cons, List.map_nil, List.nodup_cons, List.mem_cons, List.not_mem_nil, or_false, not_or, List.nodup_nil, and_true, not_false_eq_true] at hnd
  obtain ⟨⟨a1, a2', a3⟩, ⟨a4, a5⟩, a6⟩ := hnd
  have apw : ∀ p ∈ pre ++ F, p.1 ≠ wd := hap2 _ (.head _)
  have apda : ∀ p ∈ pre ++ F, p.1 ≠ da := hap2 _ (.tail _ (.head _))
  have apha : ∀ p ∈ pre ++ F, p.1 ≠ ha := hap2 _ (.tail _ (.tail _ (.head _)))
  have appl : ∀ p ∈ pre ++ F, p.1 ≠ pl := hap2 _ (.tail _ (.tail _ (.tail _ (.head _))))
  refine rput_o (rest := pre ++ F) (rest0 := kn) (fv := fv) (val := val) B Fr9 X N T hkk hd hu Sel.head Sel.head Sel.head Sel.head
    (List.forall_mem_cons.mpr ⟨Ne.symm a1, List.forall_mem_cons.mpr ⟨Ne.symm a2', List.forall_mem_cons.mpr ⟨Ne.symm a3, apw⟩⟩⟩)
    (List.forall_mem_cons.mpr ⟨Ne.symm a4, List.forall_mem_cons.mpr ⟨Ne.symm a5, apda⟩⟩) (List.forall_mem_cons.mpr ⟨Ne.symm a6, apha⟩) appl
    (sub _ hre) (sub _ hrd) (skn _ m3) (skn _ m4) (skn _ di) (skn _ hi) (skn _ ri) (hrows.mono skn) skn hparts hfirst hH0 hW lo (hwk.mono sub) hat hI.ne (by rw [hI.len]; exact Nat.succ_le_succ hO.len)
    (fun tl' z g1 g2 g3 g4 g5 g6 g7 g8 tz b1 b2 b3 b4 b5 b6 b7 hs => hwd tl' z g1 g2 g3 g4 g5 g6 g7 g8 tz b1 b2 b3 b4 b5 b6 b7 (fun p hp => hs p (sub p hp))) hok hgq hz0 hzs ho hoz hrn hpn hoc hxx ?r0 ?r1
  case r0 =>
    intros r rl' rvs' pvs' nr' np' fv' tA' te' tS' sz' tl h' tk' hc hP' hQ' hF' hs' htl hr l1 l2 l3 l4 l5 F' N'
    subst hs'
    subst hb
    obtain ⟨e0, hpost⟩ := h0 (hc.imp_right fun h => h.imp_right fun h e => h (pairs_nil2 hP' e))
    subst e0
    replace l1 : @LT.lt Nat _ wd r := l1
    replace l2 : @LT.lt Nat _ da r := l2
    replace l3 : @LT.lt Nat _ ha r := l3
    replace l4 : @LT.lt Nat _ pl r := l4
    have lr : ∀ p ∈ pre ++ F, @LT.lt Nat _ p.1 r := ktn_ltOf hr
    have gf : ∀ p ∈ (rl', listOf rvs'.toArray nr') :: tl, @LE.le Nat _ r p.1 := List.forall_mem_cons.mpr ⟨Nat.le_of_lt l5, geTl htl⟩
    refine ret .none (((wd, wo) :: (⟨⟨d, da, hg, ha, rl', pl, rvs', pvs', nr', np', fv', g1, g2, g3, g4, g5, g6, g7, g8, k1, k2, tb, tM, tM2, te', tA', tS'⟩, gq, kd⟩ : Own).cells w.params) ++ (((rl', listOf rvs'.toArray nr') :: tl) ++ pre)) h' tk' (hpost _ ?po) rfl ?fr F' ?nn
    case nn =>
      dsimp only [Own.cells, List.cons_append, List.nil_append]
      (try dsimp only at N')
      clear sub skn hkn
      exact newsub N' (by kcf_all)
    case fr => exact freshSplit (fun q hq hm => have u1 := hm _ (.tail _ (.head _)); have u2 := hm _ (.tail _ (.tail _ (.head _))); have u3 := hm _ (.tail _ (.tail _ (.tail _ (.head _)))); List.forall_mem_cons.mpr ⟨hm (wd, wo) (.head _), List.forall_mem_cons.mpr ⟨u1, List.forall_mem_cons.mpr ⟨u2, List.forall_mem_cons.mpr ⟨u3, List.forall_mem_nil _⟩⟩⟩⟩) (frN gf fun q hq => lr q (List.mem_append_right _ hq))
    case po =>
      refine ⟨wo, xs, _, _, rfl, hW, hI, ⟨⟨by kba_same, by kba_same, by kba_same, hP'.mono (by clear sub skn hkn; kcf_all), hQ'.mono (by clear sub skn hkn; kcf_all), hF'.mono (by clear sub skn hkn; kcf_all)⟩, x1, x2, x3, x4, by kba_same⟩, rfl, ?_, frN gf fun q hq => lr q (List.mem_append_left _ hq)⟩
      exact sep4 a1 a2' a3 a4 a5 a6 (List.forall_mem_append.mpr ⟨fun p hp => gt4 (gf p hp) l1 l2 l3 l4, fun p h => ⟨apw p (sub p h), apda p (sub p h), apha p (sub p h), appl p (sub p h)⟩⟩)
  case r1 =>
    intros wo' t nh nha tv p1 p2 p3 p4 p5 p6 p7 p8 p9 p10 n1 n2 n3 n4 n5 n6 n9 n10 x h1' r h' tk' hfx hf hrw hW' hr l1 l2 l3 l4 F' N'
    obtain ⟨e0, hpost⟩ := h1 _ _ hfx hf hrw
    subst e0
    have lr : ∀ p ∈ pre ++ F, @LT.lt Nat _ p.1 r := ktn_ltOf hr
    have hW2 : WObj Challenge.rw_xw0340_01.row.prog w wo' ys := hwo ▸ hW'
    have gf : ∀ p ∈ [(t, ({ cls := .type "tuple", data := .seq #[Value.ref nh, Value.bytes val tv] } : Obj)), (nh, instObj 74 nha), (nha, hdObj w.params (wholeHd h1') p1 p2 p3 p4 p5 p6 p7 p8 p9 p10 n1 n2 n3 n4 n5 n6 n9 n10)], @LE.le Nat _ r p.1 := List.forall_mem_cons.mpr ⟨Nat.le_of_lt (Nat.lt_trans (Nat.lt_trans l2 l3) l4), List.forall_mem_cons.mpr ⟨Nat.le_of_lt (Nat.lt_trans l2 l3), List.forall_mem_cons.mpr ⟨Nat.le_of_lt l2, List.forall_mem_nil _⟩⟩⟩
    refine ret (.ref t) ((wd, wo') :: ([(t, ({ cls := .type "tuple", data := .seq #[Value.ref nh, Value.bytes val tv] } : Obj)), (nh, instObj 74 nha), (nha, hdObj w.params (wholeHd h1') p1 p2 p3 p4 p5 p6 p7 p8 p9 p10 n1 n2 n3 n4 n5 n6 n9 n10)] ++ pre)) h' tk' (hpost _ ?po) ⟨t, nh, tv, rfl, .tail _ (.head _), nha, _, _, _, _, _, _, _, _, _, _, _, _, _, _, _, _, _, _, .tail _ (.tail _ (.head _)), .tail _ (.tail _ (.tail _ (.head _)))⟩ ?fr F' ?nn
    case nn =>
      dsimp only [List.cons_append, List.nil_append]
      (try dsimp only at N')
      clear sub skn hkn
      exact newsub N' (by kcf_all)
    case fr => exact freshSplit (mu' := [(wd, wo')]) (fr := [_, _, _]) (fun q hq hm => List.forall_mem_cons.mpr ⟨hm (wd, wo) (.head _), List.forall_mem_nil _⟩) (frN gf fun q hq => lr q (List.mem_append_right _ hq))
    case po =>
      refine ⟨wo', _, rfl, hW2, ⟨List.nodup_cons.mpr ⟨List.not_mem_nil, List.nodup_nil⟩, List.forall_mem_cons.mpr ⟨List.forall_mem_append.mpr ⟨fun p hp => neGt (gf p hp) l1, fun p h => apw p (sub p h)⟩, List.forall_mem_nil _⟩⟩, frN gf fun q hq => lr q (sub q hq)⟩
theorem delC_gen  {w : World} {re rd wd hh : Addr}  {v1 v2 v3 v4 tl1 tl2 tl3 : Tok} {lim now : Int} {hdr : Hd} {pb : Byt}      {pre : List (Addr × Obj)} {fcv rtv fwv liv : Value} {f1 f2 f3 f4 f5 : Tok} {lay ld : Addr} {ta : Bool} {mu : List (Addr × Obj)} {ov : Option (Hd × Byt)} {Post : List (Addr × Obj) → Prop} :
    (lay, instObj 349 ld) ∈ pre → (ld, (dictOf [leftact% faces f1 fcv, leftact% routes f2 rtv, leftact% reassembly f3 (Value.ref re), leftact% forwards f4 fwv, leftact% last_ident f5 liv] 5)) ∈ pre → (re, instObj 535 rd) ∈ pre → (rd, (dictOf [leftact% time_limit v1 (Value.int lim tl1), leftact% most_octets v2 (Value.int 999 tl2), leftact% most v3 (Value.int 65535 tl3), leftact% waiting v4 (Value.ref wd)] 4)) ∈ pre → HdAt w.params pre hh hdr → (hdr.off ≠ 0 ∨ hdr.more = true) → PutC Mine.hd.heap_1 w re hh pb now mu pre ov Post → DelC Mine.hd.heap_1 w lay hh pb ta now mu pre ov (Grows Post) := by
  intros m1 m2 m5 m6 hH hom hput
  refine ⟨?_⟩
  intros pp loose mean mg mb dp un gd cn cs a ccd cl outer A₀ base h₀ L m s Q E F tp tn B Fr9 X N hap T hkk hd hu ret
  obtain ⟨src, tgt, prot, ident, ttl, tos, dont, more, off⟩ := hdr
  have hH0 := hH
  obtain ⟨hha, q1, q2, q3, q4, q5, q6, q7, q8, q9, q10, t1, t2, t3, t4, t5, t6, t9, t10, m3, m4⟩ := hH
  exact del_gen B Fr9 X N T hkk hd hu N hap m1 m2 m3 m4 m5 m6 hom hput fun l post h' tk' g1 g2 g3 F' N' => ret l post h' tk' g1 g2 g3 F' N'
theorem delC_one  {w : World} {re hh : Addr}   {now : Int} {hdr : Hd} {pb : Byt}      {pre : List (Addr × Obj)} {fcv rtv fwv liv : Value} {f1 f2 f3 f4 f5 : Tok} {lay ld : Addr} {ta : Bool} {mu : List (Addr × Obj)} :
    (lay, instObj 349 ld) ∈ pre → (ld, (dictOf [leftact% faces f1 fcv, leftact% routes f2 rtv, leftact% reassembly f3 (Value.ref re), leftact% forwards f4 fwv, leftact% last_ident f5 liv] 5)) ∈ pre → HdAt w.params pre hh hdr → hdr.off = 0 → hdr.more = false → DelC Mine.hd.heap_1 w lay hh pb ta now mu pre (some (hdr, pb)) (Grows (fun p => p = mu ++ pre)) := by
  intros m1 m2 hH ho hm
  refine ⟨?_⟩
  intros pp loose mean mg mb dp un gd cn cs a ccd cl outer A₀ base h₀ L m s Q E F tp tn B Fr9 X N hap T hkk hd hu ret
  obtain ⟨src, tgt, prot, ident, ttl, tos, dont, more, off⟩ := hdr
  dsimp only at ho hm
  subst ho; subst hm
  have hH0 := hH
  obtain ⟨hha, q1, q2, q3, q4, q5, q6, q7, q8, q9, q10, t1, t2, t3, t4, t5, t6, t9, t10, m3, m4⟩ := hH
  exact del_one B Fr9 X N T hkk hd hu N hap m1 m2 m3 m4 hH0 fun l post h' tk' g1 g2 g3 F' N' => ret l post h' tk' g1 g2 g3 F' N'
theorem del_slot  {w : World} {re rd wd hh : Addr} {wo : Obj} {v1 v2 v3 v4 tl1 tl2 tl3 : Tok} {lim zo : Int}   {xs ys : List (List Int × Addr × Value)}     {pre kn : List (Addr × Obj)} {fcv rtv fwv liv : Value} {f1 f2 f3 f4 f5 : Tok} {lay ld : Addr} {ta : Bool} {D : Dat} {r : List Nat} {i : Nat} {own : Option Own} :
    i ≤ D.many → i ∉ r → r.length ≤ D.many → (lay, instObj 349 ld) ∈ pre → (ld, (dictOf [leftact% faces f1 fcv, leftact% routes f2 rtv, leftact% reassembly f3 (Value.ref re), leftact% forwards f4 fwv, leftact% last_ident f5 liv] 5)) ∈ pre → (re, instObj 535 rd) ∈ pre → (rd, (dictOf [leftact% time_limit v1 (Value.int lim tl1), leftact% most_octets v2 (Value.int 999 tl2), leftact% most v3 (Value.int 65535 tl3), leftact% waiting v4 (Value.ref wd)] 4)) ∈ pre → HdAt w.params kn hh (D.hd i) → (∀ p ∈ kn, p ∈ pre) → D.Ok → WObj Challenge.rw_xw0340_01.row.prog w wo xs → (wd == sysModules) = false → Oth w.params pre D.n ys zo → 0 ≤ zo → zo ≤ 100 → Sep ((wd, wo) :: cellsOf w.params own) pre → SlotAt w.params kn D r own → WaitOf xs ys D.n own → DelC Mine.hd.heap_1 w lay hh (D.b i) ta 1 ((wd, wo) :: cellsOf w.params own) pre (outOf D (r ++ [i])) (Grows (PostR Challenge.rw_xw0340_01.row.prog w wd D ys pre kn (r ++ [i]))) := by
  intros hi hni hrl ml mld mre mrd hH hkn hok hW lo hO hz1 hz2 hsep hslot hwait
  cases own with
  | none =>
    have hr : r = [] := by
      rcases hslot with h | h
      · exact h
      · exact absurd hrl (Nat.not_le_of_lt h)
    subst hr
    cases hwait
    by_cases hm : D.many = 0
    · obtain ⟨n, many, b, e⟩ := D
      dsimp only at hm
      subst hm
      obtain rfl := Nat.le_zero.mp hi
      refine DelC.imp (fun p => Grows.imp fun q hq => ?_) (delC_one ml mld (hH.mono hkn) rfl rfl)
      subst hq
      exact postR_dead (show ¬ 1 ≤ 0 by decide) ⟨wo, [], rfl, hW, ⟨by simp, fun q hq p hp => hsep.2 q hq p hp⟩, fun p hp => by cases hp⟩
    · obtain ⟨⟨pk, z0, z1, z2, z3, z4, z5, z6⟩, gr, nd⟩ := gnew hok hm hi
      exact delC_gen ml mld mre mrd (hH.mono hkn) pk.om (put_new mre mrd hH hkn ⟨rfl, rfl, rfl, rfl⟩ hW lo hO pk rfl nd z0 (zo_le z1 hz2) z2 z3 ⟨outOf_no (r := []) (Nat.pos_of_ne_zero hm), fun p h => postR_alive (alive_len (r := []) (Nat.pos_of_ne_zero hm)) gr h⟩)
  | some o =>
    obtain ⟨hOw, hg⟩ := hslot
    obtain ⟨⟨pk, z0, z1, z2, z3, z4, z5, z6⟩, h | h⟩ := gold hok hg hi hni
    · obtain ⟨hl, gr, hne⟩ := h
      exact delC_gen ml mld mre mrd (hH.mono hkn) pk.om (put_old (val := #[]) mre mrd hH hkn ⟨rfl, rfl, rfl, rfl⟩ hW lo hO hOw hwait z5 z6 pk rfl z0 (zo_le z1 hz2) z2 z3 (fun e => absurd e hne) z4 (fun _ => ⟨outOf_no hl, fun p h => postR_alive (alive_len hl) gr h⟩) fun _ _ _ _ e => absurd e hne)
    · obtain ⟨hl, hdn, hf, hoc, hps⟩ := h
      exact delC_gen ml mld mre mrd (hH.mono hkn) pk.om (put_old (val := D.whole) mre mrd hH hkn ⟨rfl, rfl, rfl, rfl⟩ hW lo hO hOw hwait z5 z6 pk rfl z0 (zo_le z1 hz2) z2 z3 (fun _ => ⟨hoc, hps⟩) z4 (fun k => done_abs hdn k) fun x h1 _ e _ => ⟨by rw [outOf_so hl, Option.some.inj (hf.symm.trans e)], fun p h => postR_dead (dead_len hl) h⟩)
theorem rows_RT1 : True := by
  k_with "my:fin" => (first | ((with_reducible rename Mine.FinR _ _ _ _ _ _ _ => hfin9); refine' Mine.FinR.use hfin9 ?F ?N ?hs ?hm; (case F => k_asm); (case N => k_asm); (case hs => kcf_all); (case hm => (intro z9 hz9; (try simp only [List.contains_cons, List.contains_nil, Bool.or_eq_false_iff, Bool.or_false, beq_eq_false_iff_ne, ne_eq] at hz9); simp [Mine.stoM, hz9]))) | ((with_reducible rename Mine.FinN0 _ _ _ _ _ _ _ _ _ _ _ _ _ _ _ _ _ _ _ _ => hfin9); refine' Mine.FinN0.use hfin9 _ _ _ _ _ _ _ _ _ _ _ _ ?g ?f1 ?la1 ?la2 ?la3 ?sm ?t0 ?t1 ?t2 ?t3 ?cv ?ho ?lo ?mt ?mta ?hm ?F ?N ?hs; (case g => with_reducible assumption); (case f1 => with_reducible assumption); (case F => k_asm); (case N => k_asm); (case ho => with_reducible assumption); (case lo => with_reducible assumption); (case cv => with_reducible assumption); (case mt => exact rfl); (case mta => exact rfl); (case la1 => exact Mine.allLt_ne (by k_extra "my:laany")); (case la2 => (show @Ne Nat _ _; omega)); (case la3 => (show @Ne Nat _ _; omega)); (case sm => with_reducible assumption); (case t0 => exact Mine.allLt_ne (by k_extra "my:laany")); (case t1 => (show @Ne Nat _ _; omega)); (case t2 => (show @Ne Nat _ _; omega)); (case t3 => (show @Ne Nat _ _; omega)); (case hm => (intro z9 hz9; (try simp only [List.contains_cons, List.contains_nil, Bool.or_eq_false_iff, Bool.or_false, beq_eq_false_iff_ne, ne_eq] at hz9); simp [Mine.stoM, hz9])); (case hs => kcf_all)) | ((with_reducible rename Mine.FinN1 _ _ _ _ _ _ _ _ _ _ _ _ _ _ _ _ _ _ _ _ => hfin9); refine' Mine.FinN1.use hfin9 _ _ _ _ _ _ _ _ _ _ _ _ _ _ _ _ _ _ _ _ _ _ _ _ ?g ?f1 ?la1 ?la2 ?la3 ?sm ?t0 ?t1 ?t2 ?t3 ?cv ?ho ?lo ?mt ?mta ?hm ?F ?N ?hs; (case g => with_reducible assumption); (case f1 => with_reducible assumption); (case F => k_asm); (case N => k_asm); (case ho => with_reducible assumption); (case lo => with_reducible assumption); (case cv => with_reducible assumption); (case mt => exact rfl); (case mta => exact rfl); (case la1 => exact Mine.allLt_ne (by k_extra "my:laany")); (case la2 => (show @Ne Nat _ _; omega)); (case la3 => (show @Ne Nat _ _; omega)); (case sm => with_reducible assumption); (case t0 => exact Mine.allLt_ne (by k_extra "my:laany")); (case t1 => (show @Ne Nat _ _; omega)); (case t2 => (show @Ne Nat _ _; omega)); (case t3 => (show @Ne Nat _ _; omega)); (case hm => (intro z9 hz9; (try simp only [List.contains_cons, List.contains_nil, Bool.or_eq_false_iff, Bool.or_false, beq_eq_false_iff_ne, ne_eq] at hz9); simp [Mine.stoM, hz9])); (case hs => kcf_all)) | ((with_reducible rename Mine.FinO0 _ _ _ _ _ _ _ _ _ _ _ _ _ _ _ _ _ _ _ _ _ _ => hfin9); refine' Mine.FinO0.use hfin9 _ _ _ _ _ _ _ _ _ _ _ ?g ?f1 ?la1 ?t0 ?t1 ?t2 ?t3 ?cv ?ho ?lo ?mt ?mta ?hm ?F ?N ?hs; (case g => with_reducible assumption); (case f1 => with_reducible assumption); (case F => k_asm); (case N => k_asm); (case ho => exact rfl); (case lo => with_reducible assumption); (case cv => with_reducible assumption); (case mt => exact rfl); (case mta => exact rfl); (case la1 => with_reducible assumption); (case t0 => exact Mine.allLt_ne (by k_extra "my:laany")); (case t1 => (show @Ne Nat _ _; omega)); (case t2 => (show @Ne Nat _ _; omega)); (case t3 => (show @Ne Nat _ _; omega)); (case hm => (intro z9 hz9; (try simp only [List.contains_cons, List.contains_nil, Bool.or_eq_false_iff, Bool.or_false, beq_eq_false_iff_ne, ne_eq] at hz9); simp [Mine.stoM, hz9])); (case hs => kcf_all)) | ((with_reducible rename Mine.FinO1 _ _ _ _ _ _ _ _ _ _ _ _ _ _ _ _ _ _ _ _ _ _ => hfin9); refine' Mine.FinO1.use hfin9 _ _ _ _ _ _ _ _ _ _ _ _ _ _ _ _ _ _ _ _ _ _ _ ?g ?f1 ?la1 ?t0 ?t1 ?t2 ?t3 ?cv ?ho ?lo ?mt ?mta ?hm ?F ?N ?hs; (case g => with_reducible assumption); (case f1 => with_reducible assumption); (case F => k_asm); (case N => k_asm); (case ho => exact rfl); (case lo => with_reducible assumption); (case cv => with_reducible assumption); (case mt => exact rfl); (case mta => exact rfl); (case la1 => with_reducible assumption); (case t0 => exact Mine.allLt_ne (by k_extra "my:laany")); (case t1 => (show @Ne Nat _ _; omega)); (case t2 => (show @Ne Nat _ _; omega)); (case t3 => (show @Ne Nat _ _; omega)); (case hm => (intro z9 hz9; (try simp only [List.contains_cons, List.contains_nil, Bool.or_eq_false_iff, Bool.or_false, beq_eq_false_iff_ne, ne_eq] at hz9); simp [Mine.stoM, hz9])); (case hs => kcf_all)))
  k_with "my:compareOp NotEq ref ref" => row_timed "f" ((k_here; k_dflt (first
  | (refine' Mine.ne_empty ?N ?m1 ?k1 ?hu ?_; (case N => k_asm); (case m1 => k_mem); (case k1 => k_mem); (case hu => k_extra "my:kd"))
  | (refine' Mine.ne_told ?N ?m1 ?m2 ?m3 ?k1 ?k2 ?k3 ?hx ?hb ?ht ?he ?hu ?_; (case N => k_asm); (case m1 => k_mem); (case m2 => k_mem); (case m3 => k_mem); (case k1 => k_mem); (case k2 => k_mem); (case k3 => k_mem); (case hx => exact rfl); (case hb => first | exact rfl | simp); (case ht => exact rfl); (case hu => k_extra "my:kd"); (case he => (repeat (first | exact Mine.EqAll.nil | refine Mine.EqAll.cons (by first | exact Mine.eqAt_int rfl | exact Mine.eqAt_bool rfl | exact Mine.eqAt_bytes rfl) ?_)))))))
  k_with "my:call ref cons nil" => row_timed "f" ((k_here; (with_reducible show wpAny _ _ (call (Value.ref 289) _) _ _ _); k_dflt (refine' Mine.dlt_n0 ?tm ?hlt ?m1 ?m2 ?hc ?k1 ?k2 ?k3 ?k4 ?k5 ?kK ?kd ?ku ?hs ?_; (case hlt => with_reducible assumption); (case tm => with_reducible assumption); (case hc => with_reducible assumption); (case m1 => with_reducible assumption); (case m2 => with_reducible assumption); (case k1 => k_asm); (case k2 => k_asm); (case k3 => k_in); (case k4 => k_asm); (case k5 => k_asm); (case kK => first | exact rfl | assumption); (case kd => k_extra "my:kd"); (case ku => k_extra "my:kd"); (case hs => kcf_all); k_whole); intro l' n' post' h' tk' g' hF' hpd' h2d' hpc' h2c' x0' x1' x2' x3' x4' x5' x6' hfz' F' N'; (try k_sweep)))
  k_with "my:call ref cons nil" => row_timed "f" ((k_here; (with_reducible show wpAny _ _ (call (Value.ref 289) _) _ _ _); k_dflt (refine' Mine.dlt_n1 ?tm ?hlt ?m1 ?m2 ?hc ?k1 ?k2 ?k3 ?k4 ?k5 ?kK ?kd ?ku ?hs ?_; (case hlt => with_reducible assumption); (case tm => with_reducible assumption); (case hc => with_reducible assumption); (case m1 => with_reducible assumption); (case m2 => with_reducible assumption); (case k1 => k_asm); (case k2 => k_asm); (case k3 => k_in); (case k4 => k_asm); (case k5 => k_asm); (case kK => first | exact rfl | assumption); (case kd => k_extra "my:kd"); (case ku => k_extra "my:kd"); (case hs => kcf_all); k_whole); intro l' n' u' nh' nha' ts' tv' p1' p2' p3' p4' p5' p6' p7' p8' p9' p10' n1' n2' n3' n4' n5' n6' n9' n10' post' h' tk' g' hF' hpd' h2d' hpc' h2c' x0' x1' x2' x3' x4' x5' x6' x7' x8' x9' x10' x11' x12' hfz' F' N'; (try k_sweep)))
  k_with "my:call ref cons nil" => row_timed "f" ((k_here; (with_reducible show wpAny _ _ (call (Value.ref 289) _) _ _ _); k_dflt (refine' Mine.dlt_o0 ?tm ?hlt ?m1 ?m2 ?hc ?k1 ?k2 ?k3 ?k4 ?k5 ?kK ?kd ?ku ?hs ?_; (case hlt => with_reducible assumption); (case tm => with_reducible assumption); (case hc => with_reducible assumption); (case m1 => with_reducible assumption); (case m2 => with_reducible assumption); (case k1 => k_asm); (case k2 => k_asm); (case k3 => k_in); (case k4 => k_asm); (case k5 => k_asm); (case kK => first | exact rfl | assumption); (case kd => k_extra "my:kd"); (case ku => k_extra "my:kd"); (case hs => kcf_all); k_whole); intro l' n' post' h' tk' g' hF' hpd' h2d' hpc' h2c' hpl' h2l' hall' x0' x1' x2' x3' x4' x5' x6' x7' x8' x9' x10' x11' x12' x13' hfz' F' N'; (try k_sweep)))
  k_with "my:call ref cons nil" => row_timed "f" ((k_here; (with_reducible show wpAny _ _ (call (Value.ref 289) _) _ _ _); k_dflt (refine' Mine.dlt_o1 ?tm ?hlt ?m1 ?m2 ?hc ?k1 ?k2 ?k3 ?k4 ?k5 ?kK ?kd ?ku ?hs ?_; (case hlt => with_reducible assumption); (case tm => with_reducible assumption); (case hc => with_reducible assumption); (case m1 => with_reducible assumption); (case m2 => with_reducible assumption); (case k1 => k_asm); (case k2 => k_asm); (case k3 => k_in); (case k4 => k_asm); (case k5 => k_asm); (case kK => first | exact rfl | assumption); (case kd => k_extra "my:kd"); (case ku => k_extra "my:kd"); (case hs => kcf_all); k_whole); intro l' n' u' nh' nha' ts' tv' p1' p2' p3' p4' p5' p6' p7' p8' p9' p10' n1' n2' n3' n4' n5' n6' n9' n10' post' h' tk' g' hF' hpd' h2d' hpc' h2c' hpl' h2l' hall' x0' x1' x2' x3' x4' x5' x6' x7' x8' x9' x10' x11' x12' x13' x14' x15' x16' x17' x18' x19' x20' x21' x22' hfz' F' N'; (try k_sweep)))
  k_with "my:CompEnd" => row_timed "f" ((refine' Mine.comp_end2 ?F ?N ?off ?sub ?hp ?hq ?src ?_; (case off => assumption); (case F => k_asm); (case N => k_asm); (case hp => (dsimp only; refine ⟨?_, ?_, ?_⟩ <;> omega)); (case hq => (dsimp only; refine ⟨?_, ?_, ?_⟩ <;> omega)); (case sub => kcf_all); (case src => lcg_src)))
  k_with "my:eval Call Attribute" => row_timed "f" (((with_reducible show wpAny _ _ (eval (Expr.Call (Expr.Attribute _ "deliver" _) _ _ _) _) _ _ _); refine MethodCall_ ?_))
  k_with "my:eval Call Attribute" => row_timed "f" (((with_reducible show wpAny _ _ (eval (Expr.Call (Expr.Attribute _ "setdefault" _) _ _ _) _) _ _ _); refine MethodCall_ ?_))
  k_with "my:eval Call Attribute" => row_timed "f" (((with_reducible show wpAny _ _ (eval (Expr.Call (Expr.Attribute _ "get" _) _ _ _) _) _ _ _); refine MethodCall_ ?_))
  k_with "my:eval Call Attribute" => row_timed "f" (((with_reducible show wpAny _ _ (eval (Expr.Call (Expr.Attribute _ "row" _) _ _ _) _) _ _ _); refine MethodCall_ ?_))
  k_with "my:pyIter ref" => row_timed "f" (((with_reducible show wpAny _ _ (pyIter (Value.ref _)) (fun it s₂ => TurnsAt _ _ _ _ _ _ _ _ _ it s₂) _ _); (rename Fr _ _ _ _ => lF'); (rename News _ _ _ _ => lN'); (k_dflt refine' Mine.right_loop3 [Str.ofString "number", Str.ofString "head", Str.ofString "octets", Str.ofString "to_all", Str.ofString "told", Str.ofString "lot", Str.ofString "at", Str.ofString "first", Str.ofString "due", Str.ofString "whole", Str.ofString "row"] (by with_reducible assumption) rfl lF' lN' ?mw ?mh ?mc ?mb ?ne ?hb ?xw ?xh ?xb ?cv ?ho ?hdel ?_ ?_ ?_ ?_ ?_ ?_ ?_ ?_ ?_ ?_ ?_; (case cv => with_reducible assumption); (case ho => with_reducible assumption); (case mh => k_mem); (case mc => k_mem); (case mw => k_mem); (case mb => kcf_all); (case ne => (show @Ne Nat _ _; omega)); (case xw => (show @Ne Nat _ _; omega)); (case xh => (show @Ne Nat _ _; omega)); (case hb => exact Mine.allLt_ne (by k_extra "my:laany")); (case xb => exact Mine.allLt_ne (tbn_up (Nat.lt_succ_self _) (by k_extra "my:laany"))); (case hdel => with_reducible assumption)); (all_goals (clear lF' lN')); (all_goals rename_i rr1 rrd1 rr3 rr4 rr5 rrlo rrhs rrfs rrhi rrfi rrl1 rr6 rr7); (focus (intros k' c' i' ta' t' hh' hha' q1' q2' q3' q4' q5' q6' q7' q8' q9' q10' t1' t2' t3' t4' t5' t6' t9' t10' tn' tb' u' S' own' h9' tk9' cv' Z' tm' hk' dok' hH' m1' m2' hS' hSl' hcv' hlt' hv' hc' F' N' fin'; clear hst rrhs rrfs rrhi rrfi; revert hk hd hu FG' B' X' T' hLt rrd1 ewl ewk rrlo rrl1 tm' hk' dok' hH' m1' m2' hS' hSl' hcv' hlt' hv' hc' F' N' fin'; revert g' L' h' tk' rr1 rr3 rr4 rr5 rr6 rr7 k' c' i' ta' t' hh' hha' q1' q2' q3' q4' q5' q6' q7' q8' q9' q10' t1' t2' t3' t4' t5' t6' t9' t10' tn' tb' u' S' own' h9' tk9' cv' Z'; refine Mine.epR_n0 ?_; exact q1));  (focus (intros k' c' i' ta' t' hh' hha' q1' q2' q3' q4' q5' q6' q7' q8' q9' q10' t1' t2' t3' t4' t5' t6' t9' t10' tn' tb' u' S' own' h9' tk9' cv' Z' tm' hk' dok' hH' m1' m2' hS' hSl' hcv' hlt' hv' hc' F' N' fin'; clear hst rrhs rrfs rrhi rrfi; revert hk hd hu FG' B' X' T' hLt rrd1 ewl ewk rrlo rrl1 tm' hk' dok' hH' m1' m2' hS' hSl' hcv' hlt' hv' hc' F' N' fin'; revert g' L' h' tk' rr1 rr3 rr4 rr5 rr6 rr7 k' c' i' ta' t' hh' hha' q1' q2' q3' q4' q5' q6' q7' q8' q9' q10' t1' t2' t3' t4' t5' t6' t9' t10' tn' tb' u' S' own' h9' tk9' cv' Z'; refine Mine.epR_n1 ?_; exact q2));  (focus (intros k' c' i' ta' t' hh' hha' q1' q2' q3' q4' q5' q6' q7' q8' q9' q10' t1' t2' t3' t4' t5' t6' t9' t10' tn' tb' u' S' own' h9' tk9' cv' la' lo' kvs' Z' tm' hk' dok' hH' m1' m2' hS' hSl' hcv' hlt' hsm' hv' hlo' hlen' hc' F' N' fin'; clear hst rrhs rrfs rrhi rrfi; revert hk hd hu FG' B' X' T' hLt rrd1 ewl ewk rrlo rrl1 tm' hk' dok' hH' m1' m2' hS' hSl' hcv' hlt' hsm' hv' hlo' hlen' hc' F' N' fin'; revert g' L' h' tk' rr1 rr3 rr4 rr5 rr6 rr7 k' c' i' ta' t' hh' hha' q1' q2' q3' q4' q5' q6' q7' q8' q9' q10' t1' t2' t3' t4' t5' t6' t9' t10' tn' tb' u' S' own' h9' tk9' cv' la' lo' kvs' Z'; refine Mine.epR_o0 ?_; exact q3));  (focus (intros k' c' i' ta' t' hh' hha' q1' q2' q3' q4' q5' q6' q7' q8' q9' q10' t1' t2' t3' t4' t5' t6' t9' t10' tn' tb' u' S' own' h9' tk9' cv' la' lo' kvs' Z' tm' hk' dok' hH' m1' m2' hS' hSl' hcv' hlt' hsm' hv' hlo' hlen' hc' F' N' fin'; clear hst rrhs rrfs rrhi rrfi; revert hk hd hu FG' B' X' T' hLt rrd1 ewl ewk rrlo rrl1 tm' hk' dok' hH' m1' m2' hS' hSl' hcv' hlt' hsm' hv' hlo' hlen' hc' F' N' fin'; revert g' L' h' tk' rr1 rr3 rr4 rr5 rr6 rr7 k' c' i' ta' t' hh' hha' q1' q2' q3' q4' q5' q6' q7' q8' q9' q10' t1' t2' t3' t4' t5' t6' t9' t10' tn' tb' u' S' own' h9' tk9' cv' la' lo' kvs' Z'; refine Mine.epR_o1 ?_; exact q4));  (focus (intros Z' ta' kv' la' tl' lo' oc' nl' mz' need' h9' tk9' mt' mta' hcv' hsm' hlo' hlen' gn' fin' F' N'; clear hst rrhs rrfs rrhi rrfi; revert hk hd hu FG' B' X' T' hLt rrd1 ewl ewk rrlo rrl1 mt' mta' hcv' hsm' hlo' hlen' gn' fin' F' N'; revert g' L' h' tk' rr1 rr3 rr4 rr5 rr6 rr7 Z' ta' kv' la' tl' lo' oc' nl' mz' need' h9' tk9'; refine Mine.epR_k2 ?_; exact q5));  (focus (intros Z' ta' kv' la' tl' lo' oc' nl' H0' b0' t0' h0' c0' a0' e01' e02' e03' e04' e05' e06' e07' e08' e09' e010' f01' f02' f03' f04' f05' f06' f09' f00' mz' need' h9' tk9' mt' mta' hcv' hsm' hlo' hlen' ge0' gz0' gn' fin' F' N'; clear hst rrhs rrfs rrhi rrfi; revert hk hd hu FG' B' X' T' hLt rrd1 ewl ewk rrlo rrl1 mt' mta' hcv' hsm' hlo' hlen' ge0' gz0' gn' fin' F' N'; revert g' L' h' tk' rr1 rr3 rr4 rr5 rr6 rr7 Z' ta' kv' la' tl' lo' oc' nl' H0' b0' t0' h0' c0' a0' e01' e02' e03' e04' e05' e06' e07' e08' e09' e010' f01' f02' f03' f04' f05' f06' f09' f00' mz' need' h9' tk9'; refine Mine.epR_k3 ?_; exact q6));  (focus (intros Z' ta' kv' la' tl' lo' oc' nl' H0' H1' b0' b1' t0' h0' c0' a0' e01' e02' e03' e04' e05' e06' e07' e08' e09' e010' f01' f02' f03' f04' f05' f06' f09' f00' t1' h1' c1' a1' e11' e12' e13' e14' e15' e16' e17' e18' e19' e110' f11' f12' f13' f14' f15' f16' f19' f10' mz' need' h9' tk9' mt' mta' hcv' hsm' hlo' hlen' ge0' gz0' ge1' gz1' gn' fin' F' N'; clear hst rrhs rrfs rrhi rrfi; revert hk hd hu FG' B' X' T' hLt rrd1 ewl ewk rrlo rrl1 mt' mta' hcv' hsm' hlo' hlen' ge0' gz0' ge1' gz1' gn' fin' F' N'; revert g' L' h' tk' rr1 rr3 rr4 rr5 rr6 rr7 Z' ta' kv' la' tl' lo' oc' nl' H0' H1' b0' b1' t0' h0' c0' a0' e01' e02' e03' e04' e05' e06' e07' e08' e09' e010' f01' f02' f03' f04' f05' f06' f09' f00' t1' h1' c1' a1' e11' e12' e13' e14' e15' e16' e17' e18' e19' e110' f11' f12' f13' f14' f15' f16' f19' f10' mz' need' h9' tk9'; refine Mine.epR_k5 ?_; exact q7));  (focus (intros Z' ta' kv' la' tl' lo' oc' nl' H0' b0' t0' h0' c0' a0' e01' e02' e03' e04' e05' e06' e07' e08' e09' e010' f01' f02' f03' f04' f05' f06' f09' f00' tu' tr' w1' w2' v1' v2' v3' v4' v5' v6' v9' v10' mz' need' h9' tk9' mt' mta' hcv' hsm' hlo' hlen' hperm' hz' ge0' fin' F' N'; clear hst rrhs rrfs rrhi rrfi; revert hk hd hu FG' B' X' T' hLt rrd1 ewl ewk rrlo rrl1 mt' mta' hcv' hsm' hlo' hlen' hperm' hz' ge0' fin' F' N'; revert g' L' h' tk' rr1 rr3 rr4 rr5 rr6 rr7 Z' ta' kv' la' tl' lo' oc' nl' H0' b0' t0' h0' c0' a0' e01' e02' e03' e04' e05' e06' e07' e08' e09' e010' f01' f02' f03' f04' f05' f06' f09' f00' tu' tr' w1' w2' v1' v2' v3' v4' v5' v6' v9' v10' mz' need' h9' tk9'; refine Mine.epR_k1 ?_; exact q8));  (focus (intros Z' ta' kv' la' tl' lo' oc' nl' H0' H1' b0' b1' t0' h0' c0' a0' e01' e02' e03' e04' e05' e06' e07' e08' e09' e010' f01' f02' f03' f04' f05' f06' f09' f00' t1' h1' c1' a1' e11' e12' e13' e14' e15' e16' e17' e18' e19' e110' f11' f12' f13' f14' f15' f16' f19' f10' tu' tr' w1' w2' v1' v2' v3' v4' v5' v6' v9' v10' mz' need' h9' tk9' mt' mta' hcv' hsm' hlo' hlen' hperm' hz' ge0' gz0' ge1' fin' F' N'; clear hst rrhs rrfs rrhi rrfi; revert hk hd hu FG' B' X' T' hLt rrd1 ewl ewk rrlo rrl1 mt' mta' hcv' hsm' hlo' hlen' hperm' hz' ge0' gz0' ge1' fin' F' N'; revert g' L' h' tk' rr1 rr3 rr4 rr5 rr6 rr7 Z' ta' kv' la' tl' lo' oc' nl' H0' H1' b0' b1' t0' h0' c0' a0' e01' e02' e03' e04' e05' e06' e07' e08' e09' e010' f01' f02' f03' f04' f05' f06' f09' f00' t1' h1' c1' a1' e11' e12' e13' e14' e15' e16' e17' e18' e19' e110' f11' f12' f13' f14' f15' f16' f19' f10' tu' tr' w1' w2' v1' v2' v3' v4' v5' v6' v9' v10' mz' need' h9' tk9'; refine Mine.epR_k4 ?_; exact q9));  (focus (intros Z' ta' kv' la' tl' lo' oc' nl' H0' H1' H2' b0' b1' b2' t0' h0' c0' a0' e01' e02' e03' e04' e05' e06' e07' e08' e09' e010' f01' f02' f03' f04' f05' f06' f09' f00' t1' h1' c1' a1' e11' e12' e13' e14' e15' e16' e17' e18' e19' e110' f11' f12' f13' f14' f15' f16' f19' f10' t2' h2' c2' a2' e21' e22' e23' e24' e25' e26' e27' e28' e29' e210' f21' f22' f23' f24' f25' f26' f29' f20' tu' tr' w1' w2' v1' v2' v3' v4' v5' v6' v9' v10' mz' need' h9' tk9' mt' mta' hcv' hsm' hlo' hlen' hperm' hz' ge0' gz0' ge1' gz1' ge2' fin' F' N'; clear hst rrhs rrfs rrhi rrfi; revert hk hd hu FG' B' X' T' hLt rrd1 ewl ewk rrlo rrl1 mt' mta' hcv' hsm' hlo' hlen' hperm' hz' ge0' gz0' ge1' gz1' ge2' fin' F' N'; revert g' L' h' tk' rr1 rr3 rr4 rr5 rr6 rr7 Z' ta' kv' la' tl' lo' oc' nl' H0' H1' H2' b0' b1' b2' t0' h0' c0' a0' e01' e02' e03' e04' e05' e06' e07' e08' e09' e010' f01' f02' f03' f04' f05' f06' f09' f00' t1' h1' c1' a1' e11' e12' e13' e14' e15' e16' e17' e18' e19' e110' f11' f12' f13' f14' f15' f16' f19' f10' t2' h2' c2' a2' e21' e22' e23' e24' e25' e26' e27' e28' e29' e210' f21' f22' f23' f24' f25' f26' f29' f20' tu' tr' w1' w2' v1' v2' v3' v4' v5' v6' v9' v10' mz' need' h9' tk9'; refine Mine.epR_k6 ?_; exact q10));  (focus (intro u' S' h' tk' ok' F' N')); rotate_left))
  k_with "my:eval Name" => row_timed "f" ((k_here; (with_reducible show wpAny _ _ (eval (Expr.Name (Str.ofString "told") _) (envOfC _ _ _ _ _)) _ _ _); k_dflt (refine' nameX_L ?F ?v ?_ ?a ?b; (case a => exact rfl); (case b => exact rfl); (case F => k_asm); (case v => first | exact rfl | assumption); k_whole)))
  k_with "my:eval Name" => row_timed "f" ((k_here; (with_reducible show wpAny _ _ (eval (Expr.Name (Str.ofString "to_all") _) (envOfC _ _ _ _ _)) _ _ _); k_dflt (refine' nameX_L ?F ?v ?_ ?a ?b; (case a => exact rfl); (case b => exact rfl); (case F => k_asm); (case v => first | exact rfl | assumption); k_whole)))
  k_with "my:eval Name" => row_timed "f" ((k_here; (with_reducible show wpAny _ _ (eval (Expr.Name (Str.ofString "lot") _) (envOfC _ _ _ _ _)) _ _ _); k_dflt (refine' nameX_C ?N ?c ?m ?d ?_ ?a ?b; (case a => exact rfl); (case b => exact rfl); (case N => k_asm); (case c => exact rfl); (case m => k_mem); (case d => with_reducible assumption); k_whole)))
  k_with "my:subscriptTail Name Constant ref int" => row_timed "f" ((k_here; (with_reducible show wpAny _ _ (subscriptTail _ _ (Value.ref _) (Value.int _ _)) _ _ _); k_dflt (refine' Mine.tup_item ?N ?m ?a ?b ?j ?x ?_ ?hs; (case N => k_asm); (case m => first | with_reducible kba_same | kba_same); (case a => decide); (case b => decide); (case j => exact rfl); (case x => exact rfl); (case hs => with_unfolding_all rfl); k_whole)))
  k_with "my:subscriptTail Subscript" => row_timed "f" ((k_here; (with_reducible show wpAny _ _ (subscriptTail _ _ (Value.ref _) (Value.int _ _)) _ _ _); k_dflt (refine' Mine.tup_item ?N ?m ?a ?b ?j ?x ?_ ?hs; (case N => k_asm); (case m => first | with_reducible kba_same | kba_same); (case a => decide); (case b => decide); (case j => exact rfl); (case x => exact rfl); (case hs => with_unfolding_all rfl); k_whole)))
  k_with "my:call builtin:dict.setdefault" => row_timed "f" ((k_here; k_dflt (first | (refine' Mine.sd_new ?F ?N ?U ?hd ?lo ?hl ?hz ?_; (case hl => with_reducible assumption); (case F => k_asm); (case N => k_asm); (case U => k_updF); (case hd => with_reducible assumption); (case lo => with_reducible assumption); (case hz => omega); intro h' o' F' N' hd'; (try dsimp only at N')) | (refine' Mine.sd_old ?N ?m ?hd ?lo ?hl ?hz ?_; (case hl => with_reducible assumption); (case N => k_asm); (case m => k_mem); (case hd => with_reducible assumption); (case lo => with_reducible assumption); (case hz => omega)))))
  k_with "my:getMethod ref" => row_timed "f" ((k_here; (with_reducible show wpAny _ _ (getMethod (Value.ref _) (Str.ofString "get") _) _ _ _); k_dflt (refine' kdg_method (knd := PySem.intKind _ _) ?N ?m ?d ?_; (case N => k_asm); (case m => k_mem); (case d => with_reducible assumption))))
  k_with "my:call builtin:dict.get" => row_timed "f" ((k_here; k_dflt (refine' kdg_get1 (knd := PySem.intKind _ _) ?N ?m ?d ?lo (intKind_is _ _ _ _) _ ?e ?_; (case e => with_reducible assumption); (case N => k_asm); (case m => k_mem); (case d => with_reducible assumption); (case lo => with_reducible assumption)); (try dsimp only [Option.getD])))
  k_with "my:compareOp In int ref" => row_timed "f" ((k_here; k_dflt (first | (refine' Mine.lot_in (k' := 0) ?hk ?e ?N ?m ?d ?lo ?_; (case hk => first | exact rfl | omega); (case e => with_reducible assumption); (case N => k_asm); (case m => k_mem); (case d => with_reducible assumption); (case lo => with_reducible assumption)) | (refine' Mine.lot_in (k' := 8) ?hk ?e ?N ?m ?d ?lo ?_; (case hk => first | exact rfl | omega); (case e => with_reducible assumption); (case N => k_asm); (case m => k_mem); (case d => with_reducible assumption); (case lo => with_reducible assumption)) | (refine' Mine.lot_in (k' := 16) ?hk ?e ?N ?m ?d ?lo ?_; (case hk => first | exact rfl | omega); (case e => with_reducible assumption); (case N => k_asm); (case m => k_mem); (case d => with_reducible assumption); (case lo => with_reducible assumption))); (try dsimp only [Option.isSome])))
  k_with "my:subscriptTail Name Name ref int" => row_timed "f" ((k_here; k_dflt (first | (refine' Mine.lot_item (k' := 0) ?hk ?e ?N ?m ?d ?_ (by with_unfolding_all rfl) (by intro _; with_unfolding_all rfl); (case hk => first | exact rfl | omega); (case e => with_reducible assumption); (case N => k_asm); (case m => k_mem); (case d => with_reducible assumption)) | (refine' Mine.lot_item (k' := 8) ?hk ?e ?N ?m ?d ?_ (by with_unfolding_all rfl) (by intro _; with_unfolding_all rfl); (case hk => first | exact rfl | omega); (case e => with_reducible assumption); (case N => k_asm); (case m => k_mem); (case d => with_reducible assumption)) | (refine' Mine.lot_item (k' := 16) ?hk ?e ?N ?m ?d ?_ (by with_unfolding_all rfl) (by intro _; with_unfolding_all rfl); (case hk => first | exact rfl | omega); (case e => with_reducible assumption); (case N => k_asm); (case m => k_mem); (case d => with_reducible assumption)))))
  k_with "my:exec While BoolOp" => row_timed "f" ((k_here; k_dflt (refine whl_start 100 ?_)))
  k_with "my:setItem ref int" => row_timed "f" ((k_here; k_dflt (refine' kda_set (knd := PySem.intKind _ _) ?F ?N ?U ?d (intKind_is _ _ _ _) ?z ?_; (case F => k_asm); (case N => k_asm); (case U => k_updF); (case d => with_reducible assumption); (case z => (rw [sizeLine_eq]; first | omega | (simp only [List.length_nil]; omega)))); intro h' o' F' N' hd'; (try dsimp only at N')))
  k_with "my:call builtin:sorted" => row_timed "f" ((k_here; (with_reducible show wpAny _ _ (call (Value.builtin "sorted") [Value.ref _]) _ _ _); k_dflt (refine' Mine.sorted_lot rfl ?F ?N ?m ?d ?lo ?p ?o ?l ?_; (case p => with_reducible assumption); (case F => k_asm); (case N => k_asm); (case m => k_mem); (case d => with_reducible assumption); (case lo => with_reducible assumption); (case o => decide); (case l => decide)); intro D' c' h' tk' t' F' N' l1'; (try dsimp only [lks_vals] at N'); (try k_lt l1'); (try k_sweep)))
  k_with "my:subscriptTail Name Slice ref ref" => row_timed "f" ((k_here; (with_reducible show wpAny _ _ (subscriptTail _ _ (Value.ref _) (Value.ref _)) _ _ _); k_dflt (first
  | (refine' Mine.slice_upto (b := 7) ?F ?N ?t ?b ?z ?_ ?s ?g ?l; (case F => k_asm); (case N => k_asm); (case t => first | with_reducible kba_same | kba_same); (case b => exact Nat.le_of_ble_eq_true rfl); (case z => exact rfl); (case s => with_unfolding_all rfl); (case g => (intro _; with_unfolding_all rfl)); (case l => exact Nat.le_of_ble_eq_true rfl))
  | (refine' Mine.slice_from (a := 9) ?F ?N ?t ?b ?c ?z ?_ ?s ?g ?l; (case F => k_asm); (case N => k_asm); (case t => first | with_reducible kba_same | kba_same); (case b => exact Nat.le_of_ble_eq_true rfl); (case c => decide); (case z => exact rfl); (case s => with_unfolding_all rfl); (case g => (intro _; with_unfolding_all rfl)); (case l => exact Nat.le_of_ble_eq_true rfl))); intro D' h' F' N' l1'; (try k_lt l1'); (try k_sweep)))
  k_with "my:binaryOp Add ref ref" => row_timed "f" ((k_here; k_dflt (refine' Mine.add_tups ?F ?N ?t ?b ?c ?d ?z ?l ?_; (case F => k_asm); (case N => k_asm); (case t => first | with_reducible kba_same | kba_same); (case b => first | with_reducible kba_same | kba_same); (case c => exact List.cons_ne_nil _ _); (case d => exact List.cons_ne_nil _ _); (case z => exact rfl); (case l => exact Nat.le_of_ble_eq_true rfl)); intro D' h' F' N' l1'; (try k_lt l1'); (try k_sweep)))
  trivial
def right_spec_S (pp : Program) (w : World) (loose : List Str) (mean : ExcName → Option Value) (mg : Str → Option Value) (mb : Str → Option Value) (dp : Nat) (un : Nat) (gd : Option (List Code)) (cn : Str) (cs : Scope) (a : Addr) (ccd : Value) (cl : List (Str × Addr)) (outer : List Env) (A₀ : Around) (base : Heap) (h₀ : Heap) (L : Addr) (m : Str → Option Value) (news : List (Addr × Obj)) (s : Shared) (Q : Value → Shared → Prop) (E : Value → Shared → Prop) (lay : Addr) (ld : Addr) (re : Addr) (rd : Addr) (wd : Addr) (rl : Addr) (wo : Obj) (fcv : Value) (rtv : Value) (fwv : Value) (liv : Value) (f1 : Tok) (f2 : Tok) (f3 : Tok) (f4 : Tok) (f5 : Tok) (v1 : Tok) (v2 : Tok) (v3 : Tok) (v4 : Tok) (tl1 : Tok) (tl2 : Tok) (tl3 : Tok) (lim : Int) (bs : List (Addr × Obj)) (D : Bool → Dat) (rows_2z : List Row) (vs : List Value) (nn : Nat) : Prop := Below A₀ base outer h₀ → Fr h₀ L s.heap m → (Mine.hd.heap_1 w.params).In h₀ → News h₀ L s.heap news → Top pp loose mean mg mb h₀ → cs.kind = .function → dp < 460 → un < 8600 → 
    Sel wd wo news bs → RMark w wd lay ld rl wo (dictOf [leftact% faces f1 fcv, leftact% routes f2 rtv, leftact% reassembly f3 (Value.ref re), leftact% forwards f4 fwv, leftact% last_ident f5 liv] 5) bs D rows_2z vs nn → (re, instObj 535 rd) ∈ bs → (rd, (dictOf [leftact% time_limit v1 (Value.int lim tl1), leftact% most_octets v2 (Value.int 999 tl2), leftact% most v3 (Value.int 65535 tl3), leftact% waiting v4 (Value.ref wd)] 4)) ∈ bs → (wd == sysModules) = false → 
    (∀  h' tk',  Fr h₀ L h' m → News h₀ L h' (bs) →  Q (.bool true) { s with heap := h', toks := tk' }) →
    wpAny (model Challenge.rw_xw0340_01.row.prog w) (ktrTop dp un gd cn cs L a ccd cl outer) (call (.ref 572) [.ref lay, .ref rl]) Q E s
open Cx in
def right_spec_P [Cx] : Prop := right_spec_S pp w loose mean mg mb dp un gd cn cs a ccd cl outer A₀ base h₀ L m news s Q E lay ld re rd wd rl wo fcv rtv fwv liv f1 f2 f3 f4 f5 v1 v2 v3 v4 tl1 tl2 tl3 lim bs D rows_2z vs nn
noncomputable def right_spec_C : Cx := Mine.ep neCx (fun c => ¬ @right_spec_P c)
noncomputable instance right_spec_I : Cx := right_spec_C
theorem epR_n0 {P : Heap → Addr → Heap → Nat → Obj → Addr → Heap → Obj → Heap → Nat → Nat → Bool → Nat → Bool → Addr → Addr → Addr → Tok → Tok → Tok → Tok → Tok → Tok → Tok → Tok → Tok → Tok → Tok → Tok → Tok → Tok → Tok → Tok → Tok → Tok → Tok → Tok → (Str → Option Value) → Stt → Led → Heap → Nat → Option Value → (Flow → Shared → Prop) → Prop} (h : ∀ c, P (@Rx.rr_g1_0 c) (@Rx.rr_L1_0 c) (@Rx.rr_h1_0 c) (@Rx.rr_tk1_0 c) (@Rx.rr_oc1_0 c) (@Rx.rr_d1_0 c) (@Rx.rr_h2_0 c) (@Rx.rr_o2_0 c) (@Rx.rr_h3_0 c) (@Rx.rr_tk3_0 c) (@Rx.rr_k_0 c) (@Rx.rr_c_0 c) (@Rx.rr_i_0 c) (@Rx.rr_ta_0 c) (@Rx.rr_t_0 c) (@Rx.rr_hh_0 c) (@Rx.rr_hha_0 c) (@Rx.rr_q1_0 c) (@Rx.rr_q2_0 c) (@Rx.rr_q3_0 c) (@Rx.rr_q4_0 c) (@Rx.rr_q5_0 c) (@Rx.rr_q6_0 c) (@Rx.rr_q7_0 c) (@Rx.rr_q8_0 c) (@Rx.rr_q9_0 c) (@Rx.rr_q10_0 c) (@Rx.rr_t1_0 c) (@Rx.rr_t2_0 c) (@Rx.rr_t3_0 c) (@Rx.rr_t4_0 c) (@Rx.rr_t5_0 c) (@Rx.rr_t6_0 c) (@Rx.rr_t9_0 c) (@Rx.rr_t10_0 c) (@Rx.rr_tn_0 c) (@Rx.rr_tb_0 c) (@Rx.rr_u_0 c) (@Rx.rr_S_0 c) (@Rx.rr_own_0 c) (@Rx.rr_h_0 c) (@Rx.rr_tk_0 c) (@Rx.rr_cv_0 c) (@Rx.rr_Z_0 c)) : ∀ x0 x1 x2 x3 x4 x5 x6 x7 x8 x9 x10 x11 x12 x13 x14 x15 x16 x17 x18 x19 x20 x21 x22 x23 x24 x25 x26 x27 x28 x29 x30 x31 x32 x33 x34 x35 x36 x37 x38 x39 x40 x41 x42 x43, P x0 x1 x2 x3 x4 x5 x6 x7 x8 x9 x10 x11 x12 x13 x14 x15 x16 x17 x18 x19 x20 x21 x22 x23 x24 x25 x26 x27 x28 x29 x30 x31 x32 x33 x34 x35 x36 x37 x38 x39 x40 x41 x42 x43 := fun x0 x1 x2 x3 x4 x5 x6 x7 x8 x9 x10 x11 x12 x13 x14 x15 x16 x17 x18 x19 x20 x21 x22 x23 x24 x25 x26 x27 x28 x29 x30 x31 x32 x33 x34 x35 x36 x37 x38 x39 x40 x41 x42 x43 => h ⟨(up 0 x0 (up 1 x2 (up 2 x6 (up 3 x8 (up 4 x40 zR0)))), up 0 x1 (up 2 x5 (up 4 x14 (up 5 x15 (up 6 x16 zR1)))), up 0 x3 (up 1 x9 (up 2 x10 (up 3 x12 (up 4 x41 zR2)))), up 0 x4 (up 1 x7 zR3), up 0 x11 (up 1 x13 zR4), up 0 x17 (up 1 x18 (up 2 x19 (up 3 x20 (up 4 x21 (up 5 x22 (up 6 x23 (up 7 x24 (up 8 x25 (up 9 x26 (up 10 x27 (up 11 x28 (up 12 x29 (up 13 x30 (up 14 x31 (up 15 x32 (up 16 x33 (up 17 x34 (up 18 x35 (up 19 x36 zR5))))))))))))))))))), up 0 x37 zR6, up 0 x38 zR7, up 0 x39 zR8, up 0 x42 zR9, up 0 x43 zR10, zRt11)⟩
theorem epR_n1 {P : Heap → Addr → Heap → Nat → Obj → Addr → Heap → Obj → Heap → Nat → Nat → Bool → Nat → Bool → Addr → Addr → Addr → Tok → Tok → Tok → Tok → Tok → Tok → Tok → Tok → Tok → Tok → Tok → Tok → Tok → Tok → Tok → Tok → Tok → Tok → Tok → Tok → (Str → Option Value) → Stt → Led → Heap → Nat → Option Value → (Flow → Shared → Prop) → Prop} (h : ∀ c, P (@Rx.rr_g1_0 c) (@Rx.rr_L1_0 c) (@Rx.rr_h1_0 c) (@Rx.rr_tk1_0 c) (@Rx.rr_oc1_0 c) (@Rx.rr_d1_0 c) (@Rx.rr_h2_0 c) (@Rx.rr_o2_0 c) (@Rx.rr_h3_0 c) (@Rx.rr_tk3_0 c) (@Rx.rr_k_0 c) (@Rx.rr_c_0 c) (@Rx.rr_i_0 c) (@Rx.rr_ta_0 c) (@Rx.rr_t_0 c) (@Rx.rr_hh_0 c) (@Rx.rr_hha_0 c) (@Rx.rr_q1_0 c) (@Rx.rr_q2_0 c) (@Rx.rr_q3_0 c) (@Rx.rr_q4_0 c) (@Rx.rr_q5_0 c) (@Rx.rr_q6_0 c) (@Rx.rr_q7_0 c) (@Rx.rr_q8_0 c) (@Rx.rr_q9_0 c) (@Rx.rr_q10_0 c) (@Rx.rr_t1_0 c) (@Rx.rr_t2_0 c) (@Rx.rr_t3_0 c) (@Rx.rr_t4_0 c) (@Rx.rr_t5_0 c) (@Rx.rr_t6_0 c) (@Rx.rr_t9_0 c) (@Rx.rr_t10_0 c) (@Rx.rr_tn_0 c) (@Rx.rr_tb_0 c) (@Rx.rr_u_0 c) (@Rx.rr_S_0 c) (@Rx.rr_own_0 c) (@Rx.rr_h_0 c) (@Rx.rr_tk_0 c) (@Rx.rr_cv_0 c) (@Rx.rr_Z_0 c)) : ∀ x0 x1 x2 x3 x4 x5 x6 x7 x8 x9 x10 x11 x12 x13 x14 x15 x16 x17 x18 x19 x20 x21 x22 x23 x24 x25 x26 x27 x28 x29 x30 x31 x32 x33 x34 x35 x36 x37 x38 x39 x40 x41 x42 x43, P x0 x1 x2 x3 x4 x5 x6 x7 x8 x9 x10 x11 x12 x13 x14 x15 x16 x17 x18 x19 x20 x21 x22 x23 x24 x25 x26 x27 x28 x29 x30 x31 x32 x33 x34 x35 x36 x37 x38 x39 x40 x41 x42 x43 := fun x0 x1 x2 x3 x4 x5 x6 x7 x8 x9 x10 x11 x12 x13 x14 x15 x16 x17 x18 x19 x20 x21 x22 x23 x24 x25 x26 x27 x28 x29 x30 x31 x32 x33 x34 x35 x36 x37 x38 x39 x40 x41 x42 x43 => h ⟨(up 0 x0 (up 1 x2 (up 2 x6 (up 3 x8 (up 4 x40 zR0)))), up 0 x1 (up 2 x5 (up 4 x14 (up 5 x15 (up 6 x16 zR1)))), up 0 x3 (up 1 x9 (up 2 x10 (up 3 x12 (up 4 x41 zR2)))), up 0 x4 (up 1 x7 zR3), up 0 x11 (up 1 x13 zR4), up 0 x17 (up 1 x18 (up 2 x19 (up 3 x20 (up 4 x21 (up 5 x22 (up 6 x23 (up 7 x24 (up 8 x25 (up 9 x26 (up 10 x27 (up 11 x28 (up 12 x29 (up 13 x30 (up 14 x31 (up 15 x32 (up 16 x33 (up 17 x34 (up 18 x35 (up 19 x36 zR5))))))))))))))))))), up 0 x37 zR6, up 0 x38 zR7, up 0 x39 zR8, up 0 x42 zR9, up 0 x43 zR10, zRt11)⟩
theorem epR_o0 {P : Heap → Addr → Heap → Nat → Obj → Addr → Heap → Obj → Heap → Nat → Nat → Bool → Nat → Bool → Addr → Addr → Addr → Tok → Tok → Tok → Tok → Tok → Tok → Tok → Tok → Tok → Tok → Tok → Tok → Tok → Tok → Tok → Tok → Tok → Tok → Tok → Tok → (Str → Option Value) → Stt → Led → Heap → Nat → Option Value → Addr → Obj → List (Int × Value) → (Flow → Shared → Prop) → Prop} (h : ∀ c, P (@Rx.rr_g1_0 c) (@Rx.rr_L1_0 c) (@Rx.rr_h1_0 c) (@Rx.rr_tk1_0 c) (@Rx.rr_oc1_0 c) (@Rx.rr_d1_0 c) (@Rx.rr_h2_0 c) (@Rx.rr_o2_0 c) (@Rx.rr_h3_0 c) (@Rx.rr_tk3_0 c) (@Rx.rr_k_0 c) (@Rx.rr_c_0 c) (@Rx.rr_i_0 c) (@Rx.rr_ta_0 c) (@Rx.rr_t_0 c) (@Rx.rr_hh_0 c) (@Rx.rr_hha_0 c) (@Rx.rr_q1_0 c) (@Rx.rr_q2_0 c) (@Rx.rr_q3_0 c) (@Rx.rr_q4_0 c) (@Rx.rr_q5_0 c) (@Rx.rr_q6_0 c) (@Rx.rr_q7_0 c) (@Rx.rr_q8_0 c) (@Rx.rr_q9_0 c) (@Rx.rr_q10_0 c) (@Rx.rr_t1_0 c) (@Rx.rr_t2_0 c) (@Rx.rr_t3_0 c) (@Rx.rr_t4_0 c) (@Rx.rr_t5_0 c) (@Rx.rr_t6_0 c) (@Rx.rr_t9_0 c) (@Rx.rr_t10_0 c) (@Rx.rr_tn_0 c) (@Rx.rr_tb_0 c) (@Rx.rr_u_0 c) (@Rx.rr_S_0 c) (@Rx.rr_own_0 c) (@Rx.rr_h_0 c) (@Rx.rr_tk_0 c) (@Rx.rr_cv_0 c) (@Rx.rr_la_0 c) (@Rx.rr_lo_0 c) (@Rx.rr_kvs_0 c) (@Rx.rr_Z_0 c)) : ∀ x0 x1 x2 x3 x4 x5 x6 x7 x8 x9 x10 x11 x12 x13 x14 x15 x16 x17 x18 x19 x20 x21 x22 x23 x24 x25 x26 x27 x28 x29 x30 x31 x32 x33 x34 x35 x36 x37 x38 x39 x40 x41 x42 x43 x44 x45 x46, P x0 x1 x2 x3 x4 x5 x6 x7 x8 x9 x10 x11 x12 x13 x14 x15 x16 x17 x18 x19 x20 x21 x22 x23 x24 x25 x26 x27 x28 x29 x30 x31 x32 x33 x34 x35 x36 x37 x38 x39 x40 x41 x42 x43 x44 x45 x46 := fun x0 x1 x2 x3 x4 x5 x6 x7 x8 x9 x10 x11 x12 x13 x14 x15 x16 x17 x18 x19 x20 x21 x22 x23 x24 x25 x26 x27 x28 x29 x30 x31 x32 x33 x34 x35 x36 x37 x38 x39 x40 x41 x42 x43 x44 x45 x46 => h ⟨(up 0 x0 (up 1 x2 (up 2 x6 (up 3 x8 (up 4 x40 zR0)))), up 0 x1 (up 2 x5 (up 4 x14 (up 5 x15 (up 6 x16 (up 9 x43 zR1))))), up 0 x3 (up 1 x9 (up 2 x10 (up 3 x12 (up 4 x41 zR2)))), up 0 x4 (up 1 x7 (up 2 x44 zR3)), up 0 x11 (up 1 x13 zR4), up 0 x17 (up 1 x18 (up 2 x19 (up 3 x20 (up 4 x21 (up 5 x22 (up 6 x23 (up 7 x24 (up 8 x25 (up 9 x26 (up 10 x27 (up 11 x28 (up 12 x29 (up 13 x30 (up 14 x31 (up 15 x32 (up 16 x33 (up 17 x34 (up 18 x35 (up 19 x36 zR5))))))))))))))))))), up 0 x37 zR6, up 0 x38 zR7, up 0 x39 zR8, up 0 x42 zR9, up 0 x46 zR10, up 0 x45 zR11, zRt12)⟩
theorem epR_o1 {P : Heap → Addr → Heap → Nat → Obj → Addr → Heap → Obj → Heap → Nat → Nat → Bool → Nat → Bool → Addr → Addr → Addr → Tok → Tok → Tok → Tok → Tok → Tok → Tok → Tok → Tok → Tok → Tok → Tok → Tok → Tok → Tok → Tok → Tok → Tok → Tok → Tok → (Str → Option Value) → Stt → Led → Heap → Nat → Option Value → Addr → Obj → List (Int × Value) → (Flow → Shared → Prop) → Prop} (h : ∀ c, P (@Rx.rr_g1_0 c) (@Rx.rr_L1_0 c) (@Rx.rr_h1_0 c) (@Rx.rr_tk1_0 c) (@Rx.rr_oc1_0 c) (@Rx.rr_d1_0 c) (@Rx.rr_h2_0 c) (@Rx.rr_o2_0 c) (@Rx.rr_h3_0 c) (@Rx.rr_tk3_0 c) (@Rx.rr_k_0 c) (@Rx.rr_c_0 c) (@Rx.rr_i_0 c) (@Rx.rr_ta_0 c) (@Rx.rr_t_0 c) (@Rx.rr_hh_0 c) (@Rx.rr_hha_0 c) (@Rx.rr_q1_0 c) (@Rx.rr_q2_0 c) (@Rx.rr_q3_0 c) (@Rx.rr_q4_0 c) (@Rx.rr_q5_0 c) (@Rx.rr_q6_0 c) (@Rx.rr_q7_0 c) (@Rx.rr_q8_0 c) (@Rx.rr_q9_0 c) (@Rx.rr_q10_0 c) (@Rx.rr_t1_0 c) (@Rx.rr_t2_0 c) (@Rx.rr_t3_0 c) (@Rx.rr_t4_0 c) (@Rx.rr_t5_0 c) (@Rx.rr_t6_0 c) (@Rx.rr_t9_0 c) (@Rx.rr_t10_0 c) (@Rx.rr_tn_0 c) (@Rx.rr_tb_0 c) (@Rx.rr_u_0 c) (@Rx.rr_S_0 c) (@Rx.rr_own_0 c) (@Rx.rr_h_0 c) (@Rx.rr_tk_0 c) (@Rx.rr_cv_0 c) (@Rx.rr_la_0 c) (@Rx.rr_lo_0 c) (@Rx.rr_kvs_0 c) (@Rx.rr_Z_0 c)) : ∀ x0 x1 x2 x3 x4 x5 x6 x7 x8 x9 x10 x11 x12 x13 x14 x15 x16 x17 x18 x19 x20 x21 x22 x23 x24 x25 x26 x27 x28 x29 x30 x31 x32 x33 x34 x35 x36 x37 x38 x39 x40 x41 x42 x43 x44 x45 x46, P x0 x1 x2 x3 x4 x5 x6 x7 x8 x9 x10 x11 x12 x13 x14 x15 x16 x17 x18 x19 x20 x21 x22 x23 x24 x25 x26 x27 x28 x29 x30 x31 x32 x33 x34 x35 x36 x37 x38 x39 x40 x41 x42 x43 x44 x45 x46 := fun x0 x1 x2 x3 x4 x5 x6 x7 x8 x9 x10 x11 x12 x13 x14 x15 x16 x17 x18 x19 x20 x21 x22 x23 x24 x25 x26 x27 x28 x29 x30 x31 x32 x33 x34 x35 x36 x37 x38 x39 x40 x41 x42 x43 x44 x45 x46 => h ⟨(up 0 x0 (up 1 x2 (up 2 x6 (up 3 x8 (up 4 x40 zR0)))), up 0 x1 (up 2 x5 (up 4 x14 (up 5 x15 (up 6 x16 (up 9 x43 zR1))))), up 0 x3 (up 1 x9 (up 2 x10 (up 3 x12 (up 4 x41 zR2)))), up 0 x4 (up 1 x7 (up 2 x44 zR3)), up 0 x11 (up 1 x13 zR4), up 0 x17 (up 1 x18 (up 2 x19 (up 3 x20 (up 4 x21 (up 5 x22 (up 6 x23 (up 7 x24 (up 8 x25 (up 9 x26 (up 10 x27 (up 11 x28 (up 12 x29 (up 13 x30 (up 14 x31 (up 15 x32 (up 16 x33 (up 17 x34 (up 18 x35 (up 19 x36 zR5))))))))))))))))))), up 0 x37 zR6, up 0 x38 zR7, up 0 x39 zR8, up 0 x42 zR9, up 0 x46 zR10, up 0 x45 zR11, zRt12)⟩
theorem epR_k2 {P : Heap → Addr → Heap → Nat → Obj → Addr → Heap → Obj → Heap → Nat → (Flow → Shared → Prop) → Bool → List (Int × Value) → Addr → Addr → Obj → Obj → Nat → (Str → Option Value) → Led → Heap → Nat → Prop} (h : ∀ c, P (@Rx.rr_g1_0 c) (@Rx.rr_L1_0 c) (@Rx.rr_h1_0 c) (@Rx.rr_tk1_0 c) (@Rx.rr_oc1_0 c) (@Rx.rr_d1_0 c) (@Rx.rr_h2_0 c) (@Rx.rr_o2_0 c) (@Rx.rr_h3_0 c) (@Rx.rr_tk3_0 c) (@Rx.rr_Z_0 c) (@Rx.rr_ta_0 c) (@Rx.rr_kv_0 c) (@Rx.rr_la_0 c) (@Rx.rr_tl_0 c) (@Rx.rr_lo_0 c) (@Rx.rr_oc_0 c) (@Rx.rr_nl_0 c) (@Rx.rr_mz_0 c) (@Rx.rr_need_0 c) (@Rx.rr_h_0 c) (@Rx.rr_tk_0 c)) : ∀ x0 x1 x2 x3 x4 x5 x6 x7 x8 x9 x10 x11 x12 x13 x14 x15 x16 x17 x18 x19 x20 x21, P x0 x1 x2 x3 x4 x5 x6 x7 x8 x9 x10 x11 x12 x13 x14 x15 x16 x17 x18 x19 x20 x21 := fun x0 x1 x2 x3 x4 x5 x6 x7 x8 x9 x10 x11 x12 x13 x14 x15 x16 x17 x18 x19 x20 x21 => h ⟨(up 0 x0 (up 1 x2 (up 2 x6 (up 3 x8 (up 4 x20 zR0)))), up 0 x1 (up 2 x5 (up 9 x13 (up 10 x14 zR1))), up 0 x3 (up 1 x9 (up 5 x17 (up 4 x21 zR2))), up 0 x4 (up 1 x7 (up 2 x15 (up 3 x16 zR3))), up 1 x11 zR4, zR5, up 1 x18 zR6, zR7, up 1 x19 zR8, zR9, up 0 x10 zR10, up 1 x12 zR11, zRt12)⟩
theorem epR_k3 {P : Heap → Addr → Heap → Nat → Obj → Addr → Heap → Obj → Heap → Nat → (Flow → Shared → Prop) → Bool → List (Int × Value) → Addr → Addr → Obj → Obj → Nat → Hd → Byt → Addr → Addr → Tok → Addr → Tok → Tok → Tok → Tok → Tok → Tok → Tok → Tok → Tok → Tok → Tok → Tok → Tok → Tok → Tok → Tok → Tok → Tok → (Str → Option Value) → Led → Heap → Nat → Prop} (h : ∀ c, P (@Rx.rr_g1_0 c) (@Rx.rr_L1_0 c) (@Rx.rr_h1_0 c) (@Rx.rr_tk1_0 c) (@Rx.rr_oc1_0 c) (@Rx.rr_d1_0 c) (@Rx.rr_h2_0 c) (@Rx.rr_o2_0 c) (@Rx.rr_h3_0 c) (@Rx.rr_tk3_0 c) (@Rx.rr_Z_0 c) (@Rx.rr_ta_0 c) (@Rx.rr_kv_0 c) (@Rx.rr_la_0 c) (@Rx.rr_tl_0 c) (@Rx.rr_lo_0 c) (@Rx.rr_oc_0 c) (@Rx.rr_nl_0 c) (@Rx.rr_H0_0 c) (@Rx.rr_b0_0 c) (@Rx.rr_t0_0 c) (@Rx.rr_h0_0 c) (@Rx.rr_c0_0 c) (@Rx.rr_a0_0 c) (@Rx.rr_e01_0 c) (@Rx.rr_e02_0 c) (@Rx.rr_e03_0 c) (@Rx.rr_e04_0 c) (@Rx.rr_e05_0 c) (@Rx.rr_e06_0 c) (@Rx.rr_e07_0 c) (@Rx.rr_e08_0 c) (@Rx.rr_e09_0 c) (@Rx.rr_e010_0 c) (@Rx.rr_f01_0 c) (@Rx.rr_f02_0 c) (@Rx.rr_f03_0 c) (@Rx.rr_f04_0 c) (@Rx.rr_f05_0 c) (@Rx.rr_f06_0 c) (@Rx.rr_f09_0 c) (@Rx.rr_f00_0 c) (@Rx.rr_mz_0 c) (@Rx.rr_need_0 c) (@Rx.rr_h_0 c) (@Rx.rr_tk_0 c)) : ∀ x0 x1 x2 x3 x4 x5 x6 x7 x8 x9 x10 x11 x12 x13 x14 x15 x16 x17 x18 x19 x20 x21 x22 x23 x24 x25 x26 x27 x28 x29 x30 x31 x32 x33 x34 x35 x36 x37 x38 x39 x40 x41 x42 x43 x44 x45, P x0 x1 x2 x3 x4 x5 x6 x7 x8 x9 x10 x11 x12 x13 x14 x15 x16 x17 x18 x19 x20 x21 x22 x23 x24 x25 x26 x27 x28 x29 x30 x31 x32 x33 x34 x35 x36 x37 x38 x39 x40 x41 x42 x43 x44 x45 := fun x0 x1 x2 x3 x4 x5 x6 x7 x8 x9 x10 x11 x12 x13 x14 x15 x16 x17 x18 x19 x20 x21 x22 x23 x24 x25 x26 x27 x28 x29 x30 x31 x32 x33 x34 x35 x36 x37 x38 x39 x40 x41 x42 x43 x44 x45 => h ⟨(up 0 x0 (up 1 x2 (up 2 x6 (up 3 x8 (up 4 x44 zR0)))), up 0 x1 (up 2 x5 (up 9 x13 (up 10 x14 (up 11 x20 (up 12 x21 (up 13 x23 zR1)))))), up 0 x3 (up 1 x9 (up 5 x17 (up 4 x45 zR2))), up 0 x4 (up 1 x7 (up 2 x15 (up 3 x16 zR3))), up 1 x11 zR4, up 20 x22 (up 21 x24 (up 22 x25 (up 23 x26 (up 24 x27 (up 25 x28 (up 26 x29 (up 27 x30 (up 28 x31 (up 29 x32 (up 30 x33 (up 31 x34 (up 32 x35 (up 33 x36 (up 34 x37 (up 35 x38 (up 36 x39 (up 37 x40 (up 38 x41 zR5)))))))))))))))))), up 1 x42 zR6, zR7, up 1 x43 zR8, zR9, up 0 x10 zR10, up 1 x12 zR11, up 0 x18 zR12, up 0 x19 zR13, zRt14)⟩
theorem epR_k5 {P : Heap → Addr → Heap → Nat → Obj → Addr → Heap → Obj → Heap → Nat → (Flow → Shared → Prop) → Bool → List (Int × Value) → Addr → Addr → Obj → Obj → Nat → Hd → Hd → Byt → Byt → Addr → Addr → Tok → Addr → Tok → Tok → Tok → Tok → Tok → Tok → Tok → Tok → Tok → Tok → Tok → Tok → Tok → Tok → Tok → Tok → Tok → Tok → Addr → Addr → Tok → Addr → Tok → Tok → Tok → Tok → Tok → Tok → Tok → Tok → Tok → Tok → Tok → Tok → Tok → Tok → Tok → Tok → Tok → Tok → (Str → Option Value) → Led → Heap → Nat → Prop} (h : ∀ c, P (@Rx.rr_g1_0 c) (@Rx.rr_L1_0 c) (@Rx.rr_h1_0 c) (@Rx.rr_tk1_0 c) (@Rx.rr_oc1_0 c) (@Rx.rr_d1_0 c) (@Rx.rr_h2_0 c) (@Rx.rr_o2_0 c) (@Rx.rr_h3_0 c) (@Rx.rr_tk3_0 c) (@Rx.rr_Z_0 c) (@Rx.rr_ta_0 c) (@Rx.rr_kv_0 c) (@Rx.rr_la_0 c) (@Rx.rr_tl_0 c) (@Rx.rr_lo_0 c) (@Rx.rr_oc_0 c) (@Rx.rr_nl_0 c) (@Rx.rr_H0_0 c) (@Rx.rr_H1_0 c) (@Rx.rr_b0_0 c) (@Rx.rr_b1_0 c) (@Rx.rr_t0_0 c) (@Rx.rr_h0_0 c) (@Rx.rr_c0_0 c) (@Rx.rr_a0_0 c) (@Rx.rr_e01_0 c) (@Rx.rr_e02_0 c) (@Rx.rr_e03_0 c) (@Rx.rr_e04_0 c) (@Rx.rr_e05_0 c) (@Rx.rr_e06_0 c) (@Rx.rr_e07_0 c) (@Rx.rr_e08_0 c) (@Rx.rr_e09_0 c) (@Rx.rr_e010_0 c) (@Rx.rr_f01_0 c) (@Rx.rr_f02_0 c) (@Rx.rr_f03_0 c) (@Rx.rr_f04_0 c) (@Rx.rr_f05_0 c) (@Rx.rr_f06_0 c) (@Rx.rr_f09_0 c) (@Rx.rr_f00_0 c) (@Rx.rr_t1_1 c) (@Rx.rr_h1_1 c) (@Rx.rr_c1_0 c) (@Rx.rr_a1_0 c) (@Rx.rr_e11_0 c) (@Rx.rr_e12_0 c) (@Rx.rr_e13_0 c) (@Rx.rr_e14_0 c) (@Rx.rr_e15_0 c) (@Rx.rr_e16_0 c) (@Rx.rr_e17_0 c) (@Rx.rr_e18_0 c) (@Rx.rr_e19_0 c) (@Rx.rr_e110_0 c) (@Rx.rr_f11_0 c) (@Rx.rr_f12_0 c) (@Rx.rr_f13_0 c) (@Rx.rr_f14_0 c) (@Rx.rr_f15_0 c) (@Rx.rr_f16_0 c) (@Rx.rr_f19_0 c) (@Rx.rr_f10_0 c) (@Rx.rr_mz_0 c) (@Rx.rr_need_0 c) (@Rx.rr_h_0 c) (@Rx.rr_tk_0 c)) : ∀ x0 x1 x2 x3 x4 x5 x6 x7 x8 x9 x10 x11 x12 x13 x14 x15 x16 x17 x18 x19 x20 x21 x22 x23 x24 x25 x26 x27 x28 x29 x30 x31 x32 x33 x34 x35 x36 x37 x38 x39 x40 x41 x42 x43 x44 x45 x46 x47 x48 x49 x50 x51 x52 x53 x54 x55 x56 x57 x58 x59 x60 x61 x62 x63 x64 x65 x66 x67 x68 x69, P x0 x1 x2 x3 x4 x5 x6 x7 x8 x9 x10 x11 x12 x13 x14 x15 x16 x17 x18 x19 x20 x21 x22 x23 x24 x25 x26 x27 x28 x29 x30 x31 x32 x33 x34 x35 x36 x37 x38 x39 x40 x41 x42 x43 x44 x45 x46 x47 x48 x49 x50 x51 x52 x53 x54 x55 x56 x57 x58 x59 x60 x61 x62 x63 x64 x65 x66 x67 x68 x69 := fun x0 x1 x2 x3 x4 x5 x6 x7 x8 x9 x10 x11 x12 x13 x14 x15 x16 x17 x18 x19 x20 x21 x22 x23 x24 x25 x26 x27 x28 x29 x30 x31 x32 x33 x34 x35 x36 x37 x38 x39 x40 x41 x42 x43 x44 x45 x46 x47 x48 x49 x50 x51 x52 x53 x54 x55 x56 x57 x58 x59 x60 x61 x62 x63 x64 x65 x66 x67 x68 x69 => h ⟨(up 0 x0 (up 1 x2 (up 2 x6 (up 3 x8 (up 4 x68 zR0)))), up 0 x1 (up 2 x5 (up 9 x13 (up 10 x14 (up 11 x22 (up 12 x23 (up 13 x25 (up 7 x44 (up 1 x45 (up 14 x47 zR1))))))))), up 0 x3 (up 1 x9 (up 5 x17 (up 4 x69 zR2))), up 0 x4 (up 1 x7 (up 2 x15 (up 3 x16 zR3))), up 1 x11 zR4, up 20 x24 (up 21 x26 (up 22 x27 (up 23 x28 (up 24 x29 (up 25 x30 (up 26 x31 (up 27 x32 (up 28 x33 (up 29 x34 (up 30 x35 (up 31 x36 (up 32 x37 (up 33 x38 (up 34 x39 (up 35 x40 (up 36 x41 (up 37 x42 (up 38 x43 (up 39 x46 (up 40 x48 (up 41 x49 (up 42 x50 (up 43 x51 (up 44 x52 (up 45 x53 (up 46 x54 (up 47 x55 (up 48 x56 (up 49 x57 (up 50 x58 (up 51 x59 (up 52 x60 (up 53 x61 (up 54 x62 (up 55 x63 (up 56 x64 (up 57 x65 zR5))))))))))))))))))))))))))))))))))))), up 1 x66 zR6, zR7, up 1 x67 zR8, zR9, up 0 x10 zR10, up 1 x12 zR11, up 0 x18 (up 1 x19 zR12), up 0 x20 (up 1 x21 zR13), zRt14)⟩
theorem epR_k1 {P : Heap → Addr → Heap → Nat → Obj → Addr → Heap → Obj → Heap → Nat → (Flow → Shared → Prop) → Bool → List (Int × Value) → Addr → Addr → Obj → Obj → Nat → Hd → Byt → Addr → Addr → Tok → Addr → Tok → Tok → Tok → Tok → Tok → Tok → Tok → Tok → Tok → Tok → Tok → Tok → Tok → Tok → Tok → Tok → Tok → Tok → Addr → Addr → Tok → Tok → Tok → Tok → Tok → Tok → Tok → Tok → Tok → Tok → (Str → Option Value) → Led → Heap → Nat → Prop} (h : ∀ c, P (@Rx.rr_g1_0 c) (@Rx.rr_L1_0 c) (@Rx.rr_h1_0 c) (@Rx.rr_tk1_0 c) (@Rx.rr_oc1_0 c) (@Rx.rr_d1_0 c) (@Rx.rr_h2_0 c) (@Rx.rr_o2_0 c) (@Rx.rr_h3_0 c) (@Rx.rr_tk3_0 c) (@Rx.rr_Z_0 c) (@Rx.rr_ta_0 c) (@Rx.rr_kv_0 c) (@Rx.rr_la_0 c) (@Rx.rr_tl_0 c) (@Rx.rr_lo_0 c) (@Rx.rr_oc_0 c) (@Rx.rr_nl_0 c) (@Rx.rr_H0_0 c) (@Rx.rr_b0_0 c) (@Rx.rr_t0_0 c) (@Rx.rr_h0_0 c) (@Rx.rr_c0_0 c) (@Rx.rr_a0_0 c) (@Rx.rr_e01_0 c) (@Rx.rr_e02_0 c) (@Rx.rr_e03_0 c) (@Rx.rr_e04_0 c) (@Rx.rr_e05_0 c) (@Rx.rr_e06_0 c) (@Rx.rr_e07_0 c) (@Rx.rr_e08_0 c) (@Rx.rr_e09_0 c) (@Rx.rr_e010_0 c) (@Rx.rr_f01_0 c) (@Rx.rr_f02_0 c) (@Rx.rr_f03_0 c) (@Rx.rr_f04_0 c) (@Rx.rr_f05_0 c) (@Rx.rr_f06_0 c) (@Rx.rr_f09_0 c) (@Rx.rr_f00_0 c) (@Rx.rr_tu_0 c) (@Rx.rr_tr_0 c) (@Rx.rr_w1_0 c) (@Rx.rr_w2_0 c) (@Rx.rr_v1_0 c) (@Rx.rr_v2_0 c) (@Rx.rr_v3_0 c) (@Rx.rr_v4_0 c) (@Rx.rr_v5_0 c) (@Rx.rr_v6_0 c) (@Rx.rr_v9_0 c) (@Rx.rr_v10_0 c) (@Rx.rr_mz_0 c) (@Rx.rr_need_0 c) (@Rx.rr_h_0 c) (@Rx.rr_tk_0 c)) : ∀ x0 x1 x2 x3 x4 x5 x6 x7 x8 x9 x10 x11 x12 x13 x14 x15 x16 x17 x18 x19 x20 x21 x22 x23 x24 x25 x26 x27 x28 x29 x30 x31 x32 x33 x34 x35 x36 x37 x38 x39 x40 x41 x42 x43 x44 x45 x46 x47 x48 x49 x50 x51 x52 x53 x54 x55 x56 x57, P x0 x1 x2 x3 x4 x5 x6 x7 x8 x9 x10 x11 x12 x13 x14 x15 x16 x17 x18 x19 x20 x21 x22 x23 x24 x25 x26 x27 x28 x29 x30 x31 x32 x33 x34 x35 x36 x37 x38 x39 x40 x41 x42 x43 x44 x45 x46 x47 x48 x49 x50 x51 x52 x53 x54 x55 x56 x57 := fun x0 x1 x2 x3 x4 x5 x6 x7 x8 x9 x10 x11 x12 x13 x14 x15 x16 x17 x18 x19 x20 x21 x22 x23 x24 x25 x26 x27 x28 x29 x30 x31 x32 x33 x34 x35 x36 x37 x38 x39 x40 x41 x42 x43 x44 x45 x46 x47 x48 x49 x50 x51 x52 x53 x54 x55 x56 x57 => h ⟨(up 0 x0 (up 1 x2 (up 2 x6 (up 3 x8 (up 4 x56 zR0)))), up 0 x1 (up 2 x5 (up 9 x13 (up 10 x14 (up 11 x20 (up 12 x21 (up 13 x23 (up 15 x42 (up 16 x43 zR1)))))))), up 0 x3 (up 1 x9 (up 5 x17 (up 4 x57 zR2))), up 0 x4 (up 1 x7 (up 2 x15 (up 3 x16 zR3))), up 1 x11 zR4, up 20 x22 (up 21 x24 (up 22 x25 (up 23 x26 (up 24 x27 (up 25 x28 (up 26 x29 (up 27 x30 (up 28 x31 (up 29 x32 (up 30 x33 (up 31 x34 (up 32 x35 (up 33 x36 (up 34 x37 (up 35 x38 (up 36 x39 (up 37 x40 (up 38 x41 (up 58 x44 (up 59 x45 (up 60 x46 (up 61 x47 (up 62 x48 (up 63 x49 (up 64 x50 (up 65 x51 (up 66 x52 (up 67 x53 zR5)))))))))))))))))))))))))))), up 1 x54 zR6, zR7, up 1 x55 zR8, zR9, up 0 x10 zR10, up 1 x12 zR11, up 0 x18 zR12, up 0 x19 zR13, zRt14)⟩
theorem epR_k4 {P : Heap → Addr → Heap → Nat → Obj → Addr → Heap → Obj → Heap → Nat → (Flow → Shared → Prop) → Bool → List (Int × Value) → Addr → Addr → Obj → Obj → Nat → Hd → Hd → Byt → Byt → Addr → Addr → Tok → Addr → Tok → Tok → Tok → Tok → Tok → Tok → Tok → Tok → Tok → Tok → Tok → Tok → Tok → Tok → Tok → Tok → Tok → Tok → Addr → Addr → Tok → Addr → Tok → Tok → Tok → Tok → Tok → Tok → Tok → Tok → Tok → Tok → Tok → Tok → Tok → Tok → Tok → Tok → Tok → Tok → Addr → Addr → Tok → Tok → Tok → Tok → Tok → Tok → Tok → Tok → Tok → Tok → (Str → Option Value) → Led → Heap → Nat → Prop} (h : ∀ c, P (@Rx.rr_g1_0 c) (@Rx.rr_L1_0 c) (@Rx.rr_h1_0 c) (@Rx.rr_tk1_0 c) (@Rx.rr_oc1_0 c) (@Rx.rr_d1_0 c) (@Rx.rr_h2_0 c) (@Rx.rr_o2_0 c) (@Rx.rr_h3_0 c) (@Rx.rr_tk3_0 c) (@Rx.rr_Z_0 c) (@Rx.rr_ta_0 c) (@Rx.rr_kv_0 c) (@Rx.rr_la_0 c) (@Rx.rr_tl_0 c) (@Rx.rr_lo_0 c) (@Rx.rr_oc_0 c) (@Rx.rr_nl_0 c) (@Rx.rr_H0_0 c) (@Rx.rr_H1_0 c) (@Rx.rr_b0_0 c) (@Rx.rr_b1_0 c) (@Rx.rr_t0_0 c) (@Rx.rr_h0_0 c) (@Rx.rr_c0_0 c) (@Rx.rr_a0_0 c) (@Rx.rr_e01_0 c) (@Rx.rr_e02_0 c) (@Rx.rr_e03_0 c) (@Rx.rr_e04_0 c) (@Rx.rr_e05_0 c) (@Rx.rr_e06_0 c) (@Rx.rr_e07_0 c) (@Rx.rr_e08_0 c) (@Rx.rr_e09_0 c) (@Rx.rr_e010_0 c) (@Rx.rr_f01_0 c) (@Rx.rr_f02_0 c) (@Rx.rr_f03_0 c) (@Rx.rr_f04_0 c) (@Rx.rr_f05_0 c) (@Rx.rr_f06_0 c) (@Rx.rr_f09_0 c) (@Rx.rr_f00_0 c) (@Rx.rr_t1_1 c) (@Rx.rr_h1_1 c) (@Rx.rr_c1_0 c) (@Rx.rr_a1_0 c) (@Rx.rr_e11_0 c) (@Rx.rr_e12_0 c) (@Rx.rr_e13_0 c) (@Rx.rr_e14_0 c) (@Rx.rr_e15_0 c) (@Rx.rr_e16_0 c) (@Rx.rr_e17_0 c) (@Rx.rr_e18_0 c) (@Rx.rr_e19_0 c) (@Rx.rr_e110_0 c) (@Rx.rr_f11_0 c) (@Rx.rr_f12_0 c) (@Rx.rr_f13_0 c) (@Rx.rr_f14_0 c) (@Rx.rr_f15_0 c) (@Rx.rr_f16_0 c) (@Rx.rr_f19_0 c) (@Rx.rr_f10_0 c) (@Rx.rr_tu_0 c) (@Rx.rr_tr_0 c) (@Rx.rr_w1_0 c) (@Rx.rr_w2_0 c) (@Rx.rr_v1_0 c) (@Rx.rr_v2_0 c) (@Rx.rr_v3_0 c) (@Rx.rr_v4_0 c) (@Rx.rr_v5_0 c) (@Rx.rr_v6_0 c) (@Rx.rr_v9_0 c) (@Rx.rr_v10_0 c) (@Rx.rr_mz_0 c) (@Rx.rr_need_0 c) (@Rx.rr_h_0 c) (@Rx.rr_tk_0 c)) : ∀ x0 x1 x2 x3 x4 x5 x6 x7 x8 x9 x10 x11 x12 x13 x14 x15 x16 x17 x18 x19 x20 x21 x22 x23 x24 x25 x26 x27 x28 x29 x30 x31 x32 x33 x34 x35 x36 x37 x38 x39 x40 x41 x42 x43 x44 x45 x46 x47 x48 x49 x50 x51 x52 x53 x54 x55 x56 x57 x58 x59 x60 x61 x62 x63 x64 x65 x66 x67 x68 x69 x70 x71 x72 x73 x74 x75 x76 x77 x78 x79 x80 x81, P x0 x1 x2 x3 x4 x5 x6 x7 x8 x9 x10 x11 x12 x13 x14 x15 x16 x17 x18 x19 x20 x21 x22 x23 x24 x25 x26 x27 x28 x29 x30 x31 x32 x33 x34 x35 x36 x37 x38 x39 x40 x41 x42 x43 x44 x45 x46 x47 x48 x49 x50 x51 x52 x53 x54 x55 x56 x57 x58 x59 x60 x61 x62 x63 x64 x65 x66 x67 x68 x69 x70 x71 x72 x73 x74 x75 x76 x77 x78 x79 x80 x81 := fun x0 x1 x2 x3 x4 x5 x6 x7 x8 x9 x10 x11 x12 x13 x14 x15 x16 x17 x18 x19 x20 x21 x22 x23 x24 x25 x26 x27 x28 x29 x30 x31 x32 x33 x34 x35 x36 x37 x38 x39 x40 x41 x42 x43 x44 x45 x46 x47 x48 x49 x50 x51 x52 x53 x54 x55 x56 x57 x58 x59 x60 x61 x62 x63 x64 x65 x66 x67 x68 x69 x70 x71 x72 x73 x74 x75 x76 x77 x78 x79 x80 x81 => h ⟨(up 0 x0 (up 1 x2 (up 2 x6 (up 3 x8 (up 4 x80 zR0)))), up 0 x1 (up 2 x5 (up 9 x13 (up 10 x14 (up 11 x22 (up 12 x23 (up 13 x25 (up 7 x44 (up 1 x45 (up 14 x47 (up 15 x66 (up 16 x67 zR1))))))))))), up 0 x3 (up 1 x9 (up 5 x17 (up 4 x81 zR2))), up 0 x4 (up 1 x7 (up 2 x15 (up 3 x16 zR3))), up 1 x11 zR4, up 20 x24 (up 21 x26 (up 22 x27 (up 23 x28 (up 24 x29 (up 25 x30 (up 26 x31 (up 27 x32 (up 28 x33 (up 29 x34 (up 30 x35 (up 31 x36 (up 32 x37 (up 33 x38 (up 34 x39 (up 35 x40 (up 36 x41 (up 37 x42 (up 38 x43 (up 39 x46 (up 40 x48 (up 41 x49 (up 42 x50 (up 43 x51 (up 44 x52 (up 45 x53 (up 46 x54 (up 47 x55 (up 48 x56 (up 49 x57 (up 50 x58 (up 51 x59 (up 52 x60 (up 53 x61 (up 54 x62 (up 55 x63 (up 56 x64 (up 57 x65 (up 58 x68 (up 59 x69 (up 60 x70 (up 61 x71 (up 62 x72 (up 63 x73 (up 64 x74 (up 65 x75 (up 66 x76 (up 67 x77 zR5))))))))))))))))))))))))))))))))))))))))))))))), up 1 x78 zR6, zR7, up 1 x79 zR8, zR9, up 0 x10 zR10, up 1 x12 zR11, up 0 x18 (up 1 x19 zR12), up 0 x20 (up 1 x21 zR13), zRt14)⟩
theorem epR_k6 {P : Heap → Addr → Heap → Nat → Obj → Addr → Heap → Obj → Heap → Nat → (Flow → Shared → Prop) → Bool → List (Int × Value) → Addr → Addr → Obj → Obj → Nat → Hd → Hd → Hd → Byt → Byt → Byt → Addr → Addr → Tok → Addr → Tok → Tok → Tok → Tok → Tok → Tok → Tok → Tok → Tok → Tok → Tok → Tok → Tok → Tok → Tok → Tok → Tok → Tok → Addr → Addr → Tok → Addr → Tok → Tok → Tok → Tok → Tok → Tok → Tok → Tok → Tok → Tok → Tok → Tok → Tok → Tok → Tok → Tok → Tok → Tok → Addr → Addr → Tok → Addr → Tok → Tok → Tok → Tok → Tok → Tok → Tok → Tok → Tok → Tok → Tok → Tok → Tok → Tok → Tok → Tok → Tok → Tok → Addr → Addr → Tok → Tok → Tok → Tok → Tok → Tok → Tok → Tok → Tok → Tok → (Str → Option Value) → Led → Heap → Nat → Prop} (h : ∀ c, P (@Rx.rr_g1_0 c) (@Rx.rr_L1_0 c) (@Rx.rr_h1_0 c) (@Rx.rr_tk1_0 c) (@Rx.rr_oc1_0 c) (@Rx.rr_d1_0 c) (@Rx.rr_h2_0 c) (@Rx.rr_o2_0 c) (@Rx.rr_h3_0 c) (@Rx.rr_tk3_0 c) (@Rx.rr_Z_0 c) (@Rx.rr_ta_0 c) (@Rx.rr_kv_0 c) (@Rx.rr_la_0 c) (@Rx.rr_tl_0 c) (@Rx.rr_lo_0 c) (@Rx.rr_oc_0 c) (@Rx.rr_nl_0 c) (@Rx.rr_H0_0 c) (@Rx.rr_H1_0 c) (@Rx.rr_H2_0 c) (@Rx.rr_b0_0 c) (@Rx.rr_b1_0 c) (@Rx.rr_b2_0 c) (@Rx.rr_t0_0 c) (@Rx.rr_h0_0 c) (@Rx.rr_c0_0 c) (@Rx.rr_a0_0 c) (@Rx.rr_e01_0 c) (@Rx.rr_e02_0 c) (@Rx.rr_e03_0 c) (@Rx.rr_e04_0 c) (@Rx.rr_e05_0 c) (@Rx.rr_e06_0 c) (@Rx.rr_e07_0 c) (@Rx.rr_e08_0 c) (@Rx.rr_e09_0 c) (@Rx.rr_e010_0 c) (@Rx.rr_f01_0 c) (@Rx.rr_f02_0 c) (@Rx.rr_f03_0 c) (@Rx.rr_f04_0 c) (@Rx.rr_f05_0 c) (@Rx.rr_f06_0 c) (@Rx.rr_f09_0 c) (@Rx.rr_f00_0 c) (@Rx.rr_t1_1 c) (@Rx.rr_h1_1 c) (@Rx.rr_c1_0 c) (@Rx.rr_a1_0 c) (@Rx.rr_e11_0 c) (@Rx.rr_e12_0 c) (@Rx.rr_e13_0 c) (@Rx.rr_e14_0 c) (@Rx.rr_e15_0 c) (@Rx.rr_e16_0 c) (@Rx.rr_e17_0 c) (@Rx.rr_e18_0 c) (@Rx.rr_e19_0 c) (@Rx.rr_e110_0 c) (@Rx.rr_f11_0 c) (@Rx.rr_f12_0 c) (@Rx.rr_f13_0 c) (@Rx.rr_f14_0 c) (@Rx.rr_f15_0 c) (@Rx.rr_f16_0 c) (@Rx.rr_f19_0 c) (@Rx.rr_f10_0 c) (@Rx.rr_t2_1 c) (@Rx.rr_h2_1 c) (@Rx.rr_c2_0 c) (@Rx.rr_a2_0 c) (@Rx.rr_e21_0 c) (@Rx.rr_e22_0 c) (@Rx.rr_e23_0 c) (@Rx.rr_e24_0 c) (@Rx.rr_e25_0 c) (@Rx.rr_e26_0 c) (@Rx.rr_e27_0 c) (@Rx.rr_e28_0 c) (@Rx.rr_e29_0 c) (@Rx.rr_e210_0 c) (@Rx.rr_f21_0 c) (@Rx.rr_f22_0 c) (@Rx.rr_f23_0 c) (@Rx.rr_f24_0 c) (@Rx.rr_f25_0 c) (@Rx.rr_f26_0 c) (@Rx.rr_f29_0 c) (@Rx.rr_f20_0 c) (@Rx.rr_tu_0 c) (@Rx.rr_tr_0 c) (@Rx.rr_w1_0 c) (@Rx.rr_w2_0 c) (@Rx.rr_v1_0 c) (@Rx.rr_v2_0 c) (@Rx.rr_v3_0 c) (@Rx.rr_v4_0 c) (@Rx.rr_v5_0 c) (@Rx.rr_v6_0 c) (@Rx.rr_v9_0 c) (@Rx.rr_v10_0 c) (@Rx.rr_mz_0 c) (@Rx.rr_need_0 c) (@Rx.rr_h_0 c) (@Rx.rr_tk_0 c)) : ∀ x0 x1 x2 x3 x4 x5 x6 x7 x8 x9 x10 x11 x12 x13 x14 x15 x16 x17 x18 x19 x20 x21 x22 x23 x24 x25 x26 x27 x28 x29 x30 x31 x32 x33 x34 x35 x36 x37 x38 x39 x40 x41 x42 x43 x44 x45 x46 x47 x48 x49 x50 x51 x52 x53 x54 x55 x56 x57 x58 x59 x60 x61 x62 x63 x64 x65 x66 x67 x68 x69 x70 x71 x72 x73 x74 x75 x76 x77 x78 x79 x80 x81 x82 x83 x84 x85 x86 x87 x88 x89 x90 x91 x92 x93 x94 x95 x96 x97 x98 x99 x100 x101 x102 x103 x104 x105, P x0 x1 x2 x3 x4 x5 x6 x7 x8 x9 x10 x11 x12 x13 x14 x15 x16 x17 x18 x19 x20 x21 x22 x23 x24 x25 x26 x27 x28 x29 x30 x31 x32 x33 x34 x35 x36 x37 x38 x39 x40 x41 x42 x43 x44 x45 x46 x47 x48 x49 x50 x51 x52 x53 x54 x55 x56 x57 x58 x59 x60 x61 x62 x63 x64 x65 x66 x67 x68 x69 x70 x71 x72 x73 x74 x75 x76 x77 x78 x79 x80 x81 x82 x83 x84 x85 x86 x87 x88 x89 x90 x91 x92 x93 x94 x95 x96 x97 x98 x99 x100 x101 x102 x103 x104 x105 := fun x0 x1 x2 x3 x4 x5 x6 x7 x8 x9 x10 x11 x12 x13 x14 x15 x16 x17 x18 x19 x20 x21 x22 x23 x24 x25 x26 x27 x28 x29 x30 x31 x32 x33 x34 x35 x36 x37 x38 x39 x40 x41 x42 x43 x44 x45 x46 x47 x48 x49 x50 x51 x52 x53 x54 x55 x56 x57 x58 x59 x60 x61 x62 x63 x64 x65 x66 x67 x68 x69 x70 x71 x72 x73 x74 x75 x76 x77 x78 x79 x80 x81 x82 x83 x84 x85 x86 x87 x88 x89 x90 x91 x92 x93 x94 x95 x96 x97 x98 x99 x100 x101 x102 x103 x104 x105 => h ⟨(up 0 x0 (up 1 x2 (up 2 x6 (up 3 x8 (up 4 x104 zR0)))), up 0 x1 (up 2 x5 (up 9 x13 (up 10 x14 (up 11 x24 (up 12 x25 (up 13 x27 (up 7 x46 (up 1 x47 (up 14 x49 (up 8 x68 (up 3 x69 (up 17 x71 (up 15 x90 (up 16 x91 zR1)))))))))))))), up 0 x3 (up 1 x9 (up 5 x17 (up 4 x105 zR2))), up 0 x4 (up 1 x7 (up 2 x15 (up 3 x16 zR3))), up 1 x11 zR4, up 20 x26 (up 21 x28 (up 22 x29 (up 23 x30 (up 24 x31 (up 25 x32 (up 26 x33 (up 27 x34 (up 28 x35 (up 29 x36 (up 30 x37 (up 31 x38 (up 32 x39 (up 33 x40 (up 34 x41 (up 35 x42 (up 36 x43 (up 37 x44 (up 38 x45 (up 39 x48 (up 40 x50 (up 41 x51 (up 42 x52 (up 43 x53 (up 44 x54 (up 45 x55 (up 46 x56 (up 47 x57 (up 48 x58 (up 49 x59 (up 50 x60 (up 51 x61 (up 52 x62 (up 53 x63 (up 54 x64 (up 55 x65 (up 56 x66 (up 57 x67 (up 68 x70 (up 69 x72 (up 70 x73 (up 71 x74 (up 72 x75 (up 73 x76 (up 74 x77 (up 75 x78 (up 76 x79 (up 77 x80 (up 78 x81 (up 79 x82 (up 80 x83 (up 81 x84 (up 82 x85 (up 83 x86 (up 84 x87 (up 85 x88 (up 86 x89 (up 58 x92 (up 59 x93 (up 60 x94 (up 61 x95 (up 62 x96 (up 63 x97 (up 64 x98 (up 65 x99 (up 66 x100 (up 67 x101 zR5)))))))))))))))))))))))))))))))))))))))))))))))))))))))))))))))))), up 1 x102 zR6, zR7, up 1 x103 zR8, zR9, up 0 x10 zR10, up 1 x12 zR11, up 0 x18 (up 1 x19 (up 2 x20 zR12)), up 0 x21 (up 1 x22 (up 2 x23 zR13)), zRt14)⟩
open Cx in
set_option maxHeartbeats 8000000 in
noncomputable def right_pre : (F1 : Rx → Prop) ×' (F2 : Rx → Prop) ×' (F3 : Rx → Prop) ×' (F4 : Rx → Prop) ×' (F5 : Rx → Prop) ×' (F6 : Rx → Prop) ×' (F7 : Rx → Prop) ×' (F8 : Rx → Prop) ×' (F9 : Rx → Prop) ×' (F10 : Rx → Prop) ×' ((∀ c, F1 c) → (∀ c, F2 c) → (∀ c, F3 c) → (∀ c, F4 c) → (∀ c, F5 c) → (∀ c, F6 c) → (∀ c, F7 c) → (∀ c, F8 c) → (∀ c, F9 c) → (∀ c, F10 c) → right_spec_P) := by
  refine' ⟨_, _, _, _, _, _, _, _, _, _, fun q1 q2 q3 q4 q5 q6 q7 q8 q9 q10 => ?main⟩
  case main =>
  unfold right_spec_P right_spec_S
  k_fill
  intro B F X N T hk hd hu S1 mk mre mrd lo ret
  refine wpAny_call ?_
  refine' code_partC (rw := [(wd, wo)]) (ro := ((lay, instObj 349 ld) :: (ld, (dictOf [leftact% faces f1 fcv, leftact% routes f2 rtv, leftact% reassembly f3 (Value.ref re), leftact% forwards f4 fwv, leftact% last_ident f5 liv] 5)) :: (rl, listOf vs.toArray nn) :: bs)) (rest := bs) ?k1 ?k2 ?k3 ?k4 ?k5 ?kA ?kF ?kK ?k6 ?k7 ?k8 ?k9 ?kB ?kD ?r1 ?r2 ?r3 ?r4 ?_ ?c2 ?c3 ?c4
  k_extra "my:enterC"
  (case r1 => intro q hq; rw [List.mem_singleton.mp hq]; exact S1.mem)
  (case r2 => exact S1.sub)
  (case r3 => exact List.forall_mem_cons.mpr ⟨mk.ml, List.forall_mem_cons.mpr ⟨mk.mld, List.forall_mem_cons.mpr ⟨mk.hl, fun q hq => hq⟩⟩⟩)
  (case r4 => intro q hq q' hq'; rw [List.mem_singleton.mp hq]; exact mk.sep q' hq')
  intro g' L' h' tk' cells' FG' F' N' Y' B' X' T' hLt hst
  (try simp only [List.cons_append, List.nil_append] at hLt)
  (try k_lt hLt)
  k_cells Y'
  (try simp only [List.nil_append, List.cons_append] at N')
  (try dsimp only)
  have ewl : Apt lay wd := mk.sep _ mk.ml
  have ewk : Apt ld wd := mk.sep _ mk.mld
  have hdel : ∀ (c : Bool) (i : Nat) (ta : Bool) (hh : Addr) (r : List Nat) (S : Stt) (zo : Int), HdAt w.params S.fz hh ((D c).hd i) → i ≤ (D c).many → i ∉ r → r.length ≤ (D c).many → (∀ p ∈ bs, p ∈ S.fz) → WObj Challenge.rw_xw0340_01.row.prog w S.wo S.xs → Oth w.params (cellsOf w.params S.ow2 ++ S.fz) (D c).n (entOf (D !c).n S.ow2) zo → 0 ≤ zo → zo ≤ 100 → Sep ((wd, S.wo) :: cellsOf w.params S.ow) (cellsOf w.params S.ow2 ++ S.fz) → SlotAt w.params S.fz (D c) r S.ow → WaitOf S.xs (entOf (D !c).n S.ow2) (D c).n S.ow → DelC Mine.hd.heap_1 w lay hh ((D c).b i) ta 1 ((wd, S.wo) :: cellsOf w.params S.ow) (cellsOf w.params S.ow2 ++ S.fz) (outOf (D c) (r ++ [i])) (Grows (PostR Challenge.rw_xw0340_01.row.prog w wd (D c) (entOf (D !c).n S.ow2) (cellsOf w.params S.ow2 ++ S.fz) S.fz (r ++ [i]))) := fun c i ta hh r S zo hH hi hni hrl hb hw hO hz1 hz2 hs hsl hwt => del_slot (D := D c) (r := r) (i := i) (own := S.ow) hi hni hrl (List.mem_append.mpr (.inr (hb _ mk.ml))) (List.mem_append.mpr (.inr (hb _ mk.mld))) (List.mem_append.mpr (.inr (hb _ mre))) (List.mem_append.mpr (.inr (hb _ mrd))) hH (fun p hp => List.mem_append.mpr (.inr hp)) (mk.dok c) hw lo hO hz1 hz2 hs hsl hwt
  k_steps
  all_goals (try ((rename (News _ _ _ _ → News _ _ _ _) => hR9); (rename Stt.Ok _ _ _ _ _ _ _ _ _ _ _ _ => hok9); exact ret _ _ (by k_asm) (hR9 (newsub (by k_asm) fun p hp => base_led hok9 p (List.forall_mem_cons.mpr ⟨mk.ml, List.forall_mem_cons.mpr ⟨mk.mld, List.forall_mem_cons.mpr ⟨mk.hl, fun q hq => hq⟩⟩⟩ p hp)))))

noncomputable def rk1_C : Rx := Mine.ep neRx (fun c => ¬ right_pre.1 c)
noncomputable instance rk1_I : Rx := rk1_C
open Cx in
set_option maxHeartbeats 8000000 in
theorem rk1_T : right_pre.1 rk1_I := by
  intros hk hd hu FG' B'
  k_fill
  intros X' T' hLt rrd1 ewl ewk rrlo rrl1 tm' hk' dok' hH' m1' m2' hS' hSl' hcv' hlt' hv' hc' F' N' fin'
  (dsimp only [List.take])
  k_steps
  all_goals (try k_extra "my:fin")
noncomputable def rk2_C : Rx := Mine.ep neRx (fun c => ¬ right_pre.2.1 c)
noncomputable instance rk2_I : Rx := rk2_C
open Cx in
set_option maxHeartbeats 8000000 in
theorem rk2_T : right_pre.2.1 rk2_I := by
  intros hk hd hu FG' B'
  k_fill
  intros X' T' hLt rrd1 ewl ewk rrlo rrl1 tm' hk' dok' hH' m1' m2' hS' hSl' hcv' hlt' hv' hc' F' N' fin'
  (dsimp only [List.take])
  k_steps
  all_goals (try k_extra "my:fin")
noncomputable def rk3_C : Rx := Mine.ep neRx (fun c => ¬ right_pre.2.2.1 c)
noncomputable instance rk3_I : Rx := rk3_C
open Cx in
set_option maxHeartbeats 8000000 in
theorem rk3_T : right_pre.2.2.1 rk3_I := by
  intros hk hd hu FG' B'
  k_fill
  intros X' T' hLt rrd1 ewl ewk rrlo rrl1 tm' hk' dok' hH' m1' m2' hS' hSl' hcv' hlt' hsm' hv' hlo' hlen' hc' F' N' fin'
  (dsimp only [List.take])
  k_steps
  all_goals (try k_extra "my:fin")
noncomputable def rk4_C : Rx := Mine.ep neRx (fun c => ¬ right_pre.2.2.2.1 c)
noncomputable instance rk4_I : Rx := rk4_C
open Cx in
set_option maxHeartbeats 8000000 in
theorem rk4_T : right_pre.2.2.2.1 rk4_I := by
  intros hk hd hu FG' B'
  k_fill
  intros X' T' hLt rrd1 ewl ewk rrlo rrl1 tm' hk' dok' hH' m1' m2' hS' hSl' hcv' hlt' hsm' hv' hlo' hlen' hc' F' N' fin'
  (dsimp only [List.take])
  k_steps
  all_goals (try k_extra "my:fin")
noncomputable def rk5_C : Rx := Mine.ep neRx (fun c => ¬ right_pre.2.2.2.2.1 c)
noncomputable instance rk5_I : Rx := rk5_C
open Cx in
set_option maxHeartbeats 8000000 in
theorem rk5_T : right_pre.2.2.2.2.1 rk5_I := by
  intros hk hd hu FG' B'
  k_fill
  intros X' T' hLt rrd1 ewl ewk rrlo rrl1 mt' mta' hcv' hsm' hlo' hlen' gn' fin' F' N'
  (dsimp only [List.drop])
  k_steps
  all_goals (try k_extra "my:fin")
noncomputable def rk6_C : Rx := Mine.ep neRx (fun c => ¬ right_pre.2.2.2.2.2.1 c)
noncomputable instance rk6_I : Rx := rk6_C
open Cx in
set_option maxHeartbeats 8000000 in
theorem rk6_T : right_pre.2.2.2.2.2.1 rk6_I := by
  intros hk hd hu FG' B'
  k_fill
  intros X' T' hLt rrd1 ewl ewk rrlo rrl1 mt' mta' hcv' hsm' hlo' hlen' ge0' gz0' gn' fin' F' N'
  (dsimp only [List.drop])
  k_steps
  all_goals (try k_extra "my:fin")
noncomputable def rk7_C : Rx := Mine.ep neRx (fun c => ¬ right_pre.2.2.2.2.2.2.1 c)
noncomputable instance rk7_I : Rx := rk7_C
open Cx in
set_option maxHeartbeats 8000000 in
theorem rk7_T : right_pre.2.2.2.2.2.2.1 rk7_I := by
  intros hk hd hu FG' B'
  k_fill
  intros X' T' hLt rrd1 ewl ewk rrlo rrl1 mt' mta' hcv' hsm' hlo' hlen' ge0' gz0' ge1' gz1' gn' fin' F' N'
  (dsimp only [List.drop])
  k_steps
  all_goals (try k_extra "my:fin")
noncomputable def rk8_C : Rx := Mine.ep neRx (fun c => ¬ right_pre.2.2.2.2.2.2.2.1 c)
noncomputable instance rk8_I : Rx := rk8_C
open Cx in
set_option maxHeartbeats 8000000 in
theorem rk8_T : right_pre.2.2.2.2.2.2.2.1 rk8_I := by
  intros hk hd hu FG' B'
  k_fill
  intros X' T' hLt rrd1 ewl ewk rrlo rrl1 mt' mta' hcv' hsm' hlo' hlen' hperm' hz' ge0' fin' F' N'
  (dsimp only [List.drop])
  k_steps
  all_goals (try k_extra "my:fin")
noncomputable def rk9_C : Rx := Mine.ep neRx (fun c => ¬ right_pre.2.2.2.2.2.2.2.2.1 c)
noncomputable instance rk9_I : Rx := rk9_C
open Cx in
set_option maxHeartbeats 8000000 in
theorem rk9_T : right_pre.2.2.2.2.2.2.2.2.1 rk9_I := by
  intros hk hd hu FG' B'
  k_fill
  intros X' T' hLt rrd1 ewl ewk rrlo rrl1 mt' mta' hcv' hsm' hlo' hlen' hperm' hz' ge0' gz0' ge1' fin' F' N'
  (dsimp only [List.drop])
  k_steps
  all_goals (try k_extra "my:fin")
noncomputable def rk10_C : Rx := Mine.ep neRx (fun c => ¬ right_pre.2.2.2.2.2.2.2.2.2.1 c)
noncomputable instance rk10_I : Rx := rk10_C
open Cx in
set_option maxHeartbeats 8000000 in
theorem rk10_T : right_pre.2.2.2.2.2.2.2.2.2.1 rk10_I := by
  intros hk hd hu FG' B'
  k_fill
  intros X' T' hLt rrd1 ewl ewk rrlo rrl1 mt' mta' hcv' hsm' hlo' hlen' hperm' hz' ge0' gz0' ge1' gz1' ge2' fin' F' N'
  (dsimp only [List.drop])
  k_steps
  all_goals (try k_extra "my:fin")
theorem right_spec_T : @right_spec_P right_spec_I := right_pre.2.2.2.2.2.2.2.2.2.2 (Mine.ep_all (P := fun c => right_pre.1 c) neRx rk1_T) (Mine.ep_all (P := fun c => right_pre.2.1 c) neRx rk2_T) (Mine.ep_all (P := fun c => right_pre.2.2.1 c) neRx rk3_T) (Mine.ep_all (P := fun c => right_pre.2.2.2.1 c) neRx rk4_T) (Mine.ep_all (P := fun c => right_pre.2.2.2.2.1 c) neRx rk5_T) (Mine.ep_all (P := fun c => right_pre.2.2.2.2.2.1 c) neRx rk6_T) (Mine.ep_all (P := fun c => right_pre.2.2.2.2.2.2.1 c) neRx rk7_T) (Mine.ep_all (P := fun c => right_pre.2.2.2.2.2.2.2.1 c) neRx rk8_T) (Mine.ep_all (P := fun c => right_pre.2.2.2.2.2.2.2.2.1 c) neRx rk9_T) (Mine.ep_all (P := fun c => right_pre.2.2.2.2.2.2.2.2.2.1 c) neRx rk10_T)
theorem right_spec {ld : Addr} : right_spec_S pp w loose mean mg mb dp un gd cn cs a ccd cl outer A₀ base h₀ L m news s Q E lay ld re rd wd rl wo fcv rtv fwv liv f1 f2 f3 f4 f5 v1 v2 v3 v4 tl1 tl2 tl3 lim bs D rows_2z vs nn := Mine.ep_all (P := fun c => @right_spec_P c) neCx right_spec_T ⟨(up 0 pp zC0, up 0 w zC1, up 0 loose zC2, up 0 mean zC3, up 0 mg (up 1 mb (up 2 m zC4)), up 0 dp (up 1 un (up 6 nn zC5)), up 0 gd zC6, up 0 cn zC7, up 0 cs zC8, up 0 a (up 1 L (up 24 lay (up 25 ld (up 14 re (up 15 rd (up 16 wd (up 4 rl zC9))))))), up 0 ccd (up 26 fcv (up 27 rtv (up 28 fwv (up 29 liv zC10)))), up 0 cl zC11, up 0 outer zC12, up 0 A₀ zC13, up 0 base (up 1 h₀ zC14), up 0 news (up 9 bs zC15), up 0 s zC16, up 0 Q (up 1 E zC17), up 80 f1 (up 81 f2 (up 82 f3 (up 83 f4 (up 84 f5 (up 39 v1 (up 41 v2 (up 78 v3 (up 79 v4 (up 44 tl1 (up 45 tl2 (up 46 tl3 zC18))))))))))), up 1 vs zC19, zC20, up 0 rows_2z zC21, up 9 lim zC22, zC23, zC24, zC25, zC26, zC27, zC28, zC29, zC30, up 0 wo zC31, zC32, zC33, zC34, zC35, up 0 D zC36, zC37)⟩ 
theorem rows_LW7 : True := by
  k_with "my:compareOp NotEq ref ref" => row_timed "f" (k_dflt (refine' Mine.ne_nilC ?N ?l ?b ?u ?_; (case N => k_asm); (case l => k_mem); (case b => k_mem); (case u => k_extra "my:kd")))
  k_with "my:compareOp NotEq ref ref" => row_timed "f" (k_dflt (refine' Mine.ne_nil ?N ?l ?b ?u ?_; (case N => k_asm); (case l => k_mem); (case b => k_mem); (case u => k_extra "my:kd")))
  k_with "my:CompEnd" => row_timed "f" ((refine' LCg.CompEnd.intro ?F ?N _ ?sub ?off ?src ?_; (case off => assumption); (case F => k_asm); (case N => k_asm); (case sub => kcf_all); (case src => lcg_src)))
  trivial
theorem mixedv1 {pp : Program} {w : World} {loose : List Str} {mean : ExcName → Option Value} {mg mb : Str → Option Value} {dp un : Nat} {gd : Option (List Code)} {cn : Str} {cs : Scope} {a : Addr} {ccd : Value} {cl : List (Str × Addr)} {outer : List Env} {A₀ : Around} {base h₀ : Heap} {L : Addr} {m : Str → Option Value} {news : List (Addr × Obj)} {s : Shared} {Q E : Value → Shared → Prop} {rest tl : List (Addr × Obj)} {sa pl : Addr} {x y num : Int} {tx ty tn : Tok} {n np : Nat} {D0 : Dat} {i0 : Nat} {a0 : Value} :
    Below A₀ base outer h₀ → Fr h₀ L s.heap m → (Mine.hd.heap_1 w.params).In h₀ → News h₀ L s.heap news → Top pp loose mean mg mb h₀ → cs.kind = .function → dp < 480 → un < 8800 →
    Sel sa (listOf #[Value.int x tx, Value.int y ty] n) news rest → (∀ p ∈ rest, p.1 ≠ sa) → (pl, listOf [a0].toArray np) ∈ rest → (∀ p ∈ tl, p ∈ rest) → LeftAt w.params tl D0 [a0] [i0] → 0 ≤ x → 0 ≤ y → y < 2147483647 → D0.n = num →
    (∀ l nn vs rs new x' tx' y' ty' h' tk', MixAt w.params (new ++ tl) D0 vs rs → [i0].Perm (rs.map (·.1)) → (∀ p ∈ new, p.1 ≠ sa) → l ≠ sa → (∀ p ∈ new, ∀ q ∈ rest, q.1 ≠ p.1) → (∀ q ∈ rest, q.1 ≠ l) → 0 ≤ x' → 0 ≤ y' → y' < 2147483647 → Fr h₀ L h' m → News h₀ L h' ((l, listOf vs.toArray nn) :: (sa, listOf #[Value.int x' tx', Value.int y' ty'] n) :: (new ++ rest)) → Q (.ref l) { s with heap := h', toks := tk' }) →
    wpAny (model Challenge.rw_xw0340_01.row.prog w) (ktrTop dp un gd cn cs L a ccd cl outer) (call (.ref 579) [.ref sa, .ref pl, .int num tn]) Q E s := by
  intros B F X N T hk hd hu S hap mpl htl hLf hx hy hy2 hn ret
  subst hn
  exact mixed1_spec B F X N T hk hd hu S hap mpl htl hLf hx hy hy2 ret
theorem mixedv2 {pp : Program} {w : World} {loose : List Str} {mean : ExcName → Option Value} {mg mb : Str → Option Value} {dp un : Nat} {gd : Option (List Code)} {cn : Str} {cs : Scope} {a : Addr} {ccd : Value} {cl : List (Str × Addr)} {outer : List Env} {A₀ : Around} {base h₀ : Heap} {L : Addr} {m : Str → Option Value} {news : List (Addr × Obj)} {s : Shared} {Q E : Value → Shared → Prop} {rest tl : List (Addr × Obj)} {sa pl : Addr} {x y num : Int} {tx ty tn : Tok} {n np : Nat} {D0 : Dat} {i0 i1 : Nat} {a0 a1 : Value} :
    Below A₀ base outer h₀ → Fr h₀ L s.heap m → (Mine.hd.heap_1 w.params).In h₀ → News h₀ L s.heap news → Top pp loose mean mg mb h₀ → cs.kind = .function → dp < 480 → un < 8800 →
    Sel sa (listOf #[Value.int x tx, Value.int y ty] n) news rest → (∀ p ∈ rest, p.1 ≠ sa) → (pl, listOf [a0, a1].toArray np) ∈ rest → (∀ p ∈ tl, p ∈ rest) → LeftAt w.params tl D0 [a0, a1] [i0, i1] → 0 ≤ x → 0 ≤ y → y < 2147483647 → D0.n = num →
    (∀ l nn vs rs new x' tx' y' ty' h' tk', MixAt w.params (new ++ tl) D0 vs rs → [i0, i1].Perm (rs.map (·.1)) → (∀ p ∈ new, p.1 ≠ sa) → l ≠ sa → (∀ p ∈ new, ∀ q ∈ rest, q.1 ≠ p.1) → (∀ q ∈ rest, q.1 ≠ l) → 0 ≤ x' → 0 ≤ y' → y' < 2147483647 → Fr h₀ L h' m → News h₀ L h' ((l, listOf vs.toArray nn) :: (sa, listOf #[Value.int x' tx', Value.int y' ty'] n) :: (new ++ rest)) → Q (.ref l) { s with heap := h', toks := tk' }) →
    wpAny (model Challenge.rw_xw0340_01.row.prog w) (ktrTop dp un gd cn cs L a ccd cl outer) (call (.ref 579) [.ref sa, .ref pl, .int num tn]) Q E s := by
  intros B F X N T hk hd hu S hap mpl htl hLf hx hy hy2 hn ret
  subst hn
  exact mixed2_spec B F X N T hk hd hu S hap mpl htl hLf hx hy hy2 ret
theorem mixedv3 {pp : Program} {w : World} {loose : List Str} {mean : ExcName → Option Value} {mg mb : Str → Option Value} {dp un : Nat} {gd : Option (List Code)} {cn : Str} {cs : Scope} {a : Addr} {ccd : Value} {cl : List (Str × Addr)} {outer : List Env} {A₀ : Around} {base h₀ : Heap} {L : Addr} {m : Str → Option Value} {news : List (Addr × Obj)} {s : Shared} {Q E : Value → Shared → Prop} {rest tl : List (Addr × Obj)} {sa pl : Addr} {x y num : Int} {tx ty tn : Tok} {n np : Nat} {D0 : Dat} {i0 i1 i2 : Nat} {a0 a1 a2 : Value} :
    Below A₀ base outer h₀ → Fr h₀ L s.heap m → (Mine.hd.heap_1 w.params).In h₀ → News h₀ L s.heap news → Top pp loose mean mg mb h₀ → cs.kind = .function → dp < 480 → un < 8800 →
    Sel sa (listOf #[Value.int x tx, Value.int y ty] n) news rest → (∀ p ∈ rest, p.1 ≠ sa) → (pl, listOf [a0, a1, a2].toArray np) ∈ rest → (∀ p ∈ tl, p ∈ rest) → LeftAt w.params tl D0 [a0, a1, a2] [i0, i1, i2] → 0 ≤ x → 0 ≤ y → y < 2147483647 → D0.n = num →
    (∀ l nn vs rs new x' tx' y' ty' h' tk', MixAt w.params (new ++ tl) D0 vs rs → [i0, i1, i2].Perm (rs.map (·.1)) → (∀ p ∈ new, p.1 ≠ sa) → l ≠ sa → (∀ p ∈ new, ∀ q ∈ rest, q.1 ≠ p.1) → (∀ q ∈ rest, q.1 ≠ l) → 0 ≤ x' → 0 ≤ y' → y' < 2147483647 → Fr h₀ L h' m → News h₀ L h' ((l, listOf vs.toArray nn) :: (sa, listOf #[Value.int x' tx', Value.int y' ty'] n) :: (new ++ rest)) → Q (.ref l) { s with heap := h', toks := tk' }) →
    wpAny (model Challenge.rw_xw0340_01.row.prog w) (ktrTop dp un gd cn cs L a ccd cl outer) (call (.ref 579) [.ref sa, .ref pl, .int num tn]) Q E s := by
  intros B F X N T hk hd hu S hap mpl htl hLf hx hy hy2 hn ret
  subst hn
  exact mixed3_spec B F X N T hk hd hu S hap mpl htl hLf hx hy hy2 ret
theorem right_use {pp : Program} {w : World} {loose : List Str} {mean : ExcName → Option Value} {mg mb : Str → Option Value} {dp un : Nat} {gd : Option (List Code)} {cn : Str} {cs : Scope} {a : Addr} {ccd : Value} {cl : List (Str × Addr)} {outer : List Env} {A₀ : Around} {base h₀ : Heap} {L : Addr} {m : Str → Option Value} {news : List (Addr × Obj)} {s : Shared} {Q E : Value → Shared → Prop} {lay ld re rd wd rl : Addr} {wo : Obj} {fcv rtv fwv liv : Value} {f1 f2 f3 f4 f5 v1 v2 v3 v4 tl1 tl2 tl3 : Tok} {lim : Int} {bs : List (Addr × Obj)} {D : Bool → Dat} {rows : List Row} {vs : List Value} {nn : Nat} :
    Below A₀ base outer h₀ → Fr h₀ L s.heap m → (Mine.hd.heap_1 w.params).In h₀ → News h₀ L s.heap news → Top pp loose mean mg mb h₀ → cs.kind = .function → dp < 460 → un < 8600 →
    WObj Challenge.rw_xw0340_01.row.prog w wo [] → Sel wd wo news bs → (lay, instObj 349 ld) ∈ bs → (ld, (dictOf [leftact% faces f1 fcv, leftact% routes f2 rtv, leftact% reassembly f3 (Value.ref re), leftact% forwards f4 fwv, leftact% last_ident f5 liv] 5)) ∈ bs → (re, instObj 535 rd) ∈ bs → (rd, (dictOf [leftact% time_limit v1 (Value.int lim tl1), leftact% most_octets v2 (Value.int 999 tl2), leftact% most v3 (Value.int 65535 tl3), leftact% waiting v4 (Value.ref wd)] 4)) ∈ bs → (rl, listOf vs.toArray nn) ∈ bs → RowsAt w.params bs D vs rows → RowsOk D rows → (∀ c, (D c).Ok) → (D false).n ≠ (D true).n → rows.length ≤ 100 → (∀ p ∈ bs, p.1 ≠ wd) → (wd == sysModules) = false →
    (∀ h' tk', Fr h₀ L h' m → News h₀ L h' bs → Q (.bool true) { s with heap := h', toks := tk' }) →
    wpAny (model Challenge.rw_xw0340_01.row.prog w) (ktrTop dp un gd cn cs L a ccd cl outer) (call (.ref 572) [.ref lay, .ref rl]) Q E s := by
  intros B F X N T hk hd hu hW S ml mld mre mrd hl hR rok dok hne hlen sep lo ret
  exact right_spec B F X N T hk hd hu S ⟨hW, hl, hR, rok, dok, hne, ml, mld, hlen, sep⟩ mre mrd lo ret
theorem rows_LW5 : True := by
  k_with "my:call ref cons nil" => row_timed "f" ((k_here; (with_reducible show wpAny _ _ (call (Value.ref 546) _) _ _ _); k_dflt (refine' Mine.pool_spec ?k1 ?k2 ?k3 ?k4 ?k5 ?kK ?kd ?ku ?e0 ?e1 ?e2 ?_; (case k1 => k_asm); (case k2 => k_asm); (case k3 => k_asm); (case k4 => k_asm); (case k5 => k_asm); (case kK => first | exact rfl | assumption); (case e0 => assumption); (case e1 => assumption); (case e2 => omega); (case kd => k_extra "my:kd"); (case ku => k_extra "my:kd"); k_whole); intro r' x' tx' y' ty' n' h' tk' hx' hy1' hy2' hfr' F' N'; (try k_sweep)))
  k_with "my:call ref cons nil" => row_timed "f" ((k_here; (with_reducible show wpAny _ _ (call (Value.ref 560) _) _ _ _); k_dflt (refine' Mine.one_spec ?k1 ?k2 ?k3 ?k4 ?k5 ?kK ?kd ?ku ?e0 ?e1 ?e2 ?e3 ?e4 ?e5 ?_; (case k1 => k_asm); (case k2 => k_asm); (case k3 => k_asm); (case k4 => k_asm); (case k5 => k_asm); (case kK => first | exact rfl | assumption); (case e0 => repeat (first | exact Sel.head | apply Sel.tail)); (case e1 => (repeat (first | exact List.forall_mem_nil _ | (with_reducible assumption) | (refine List.forall_mem_cons.mpr ⟨by first | assumption | k_ne, ?_⟩) | k_all))); (case e2 => k_mem); (case e3 => first | assumption | omega); (case e4 => first | assumption | omega); (case e5 => first | assumption | omega); (case kd => k_extra "my:kd"); (case ku => k_extra "my:kd"); k_whole); intro r' tr' x' tx' y' ty' h' tk' hr1' hr2' hx' hy1' hy2' F' N'; (try k_sweep)))
  k_with "my:call ref cons nil" => row_timed "f" ((k_here; (with_reducible show wpAny _ _ (call (Value.ref 579) _) _ _ _); k_dflt (refine' Mine.mixedv1 ?k1 ?k2 ?k3 ?k4 ?k5 ?kK ?kd ?ku ?e0 ?e1 ?e2 ?e3 ?e4 ?e5 ?e6 ?e7 ?e8 ?_; (case k1 => k_asm); (case k2 => k_asm); (case k3 => k_asm); (case k4 => k_asm); (case k5 => k_asm); (case kK => first | exact rfl | assumption); (case e0 => ((repeat (first | exact Sel.head | apply Sel.tail | apply Mine.Sel.app)); done)); (case e2 => kba_same); (case e4 => with_reducible assumption); (case e3 => kcf_all); (case e1 => ((repeat (first | exact List.forall_mem_nil _ | (with_reducible assumption) | (refine List.forall_mem_cons.mpr ⟨by first | assumption | exact Ne.symm (by assumption) | (show @Ne Nat _ _; omega) | exact Mine.off1_ne (by assumption) (by kba_same), ?_⟩) | (refine List.forall_mem_append.mpr ⟨?_, ?_⟩))); done)); (case e5 => assumption); (case e6 => assumption); (case e7 => assumption); (case e8 => exact rfl); (case kd => k_extra "my:kd"); (case ku => k_extra "my:kd"); k_whole); intro l' nn' vs' rs' new' x' tx' y' ty' h' tk' hM' hp' hs' hl' hf' hg' hx' hy' hy2' F' N'; (have hvl' := Mine.mix_len hM' hp' (by decide)); (try k_sweep)))
  k_with "my:call ref cons nil" => row_timed "f" ((k_here; (with_reducible show wpAny _ _ (call (Value.ref 579) _) _ _ _); k_dflt (refine' Mine.mixedv2 ?k1 ?k2 ?k3 ?k4 ?k5 ?kK ?kd ?ku ?e0 ?e1 ?e2 ?e3 ?e4 ?e5 ?e6 ?e7 ?e8 ?_; (case k1 => k_asm); (case k2 => k_asm); (case k3 => k_asm); (case k4 => k_asm); (case k5 => k_asm); (case kK => first | exact rfl | assumption); (case e0 => ((repeat (first | exact Sel.head | apply Sel.tail | apply Mine.Sel.app)); done)); (case e2 => kba_same); (case e4 => with_reducible assumption); (case e3 => kcf_all); (case e1 => ((repeat (first | exact List.forall_mem_nil _ | (with_reducible assumption) | (refine List.forall_mem_cons.mpr ⟨by first | assumption | exact Ne.symm (by assumption) | (show @Ne Nat _ _; omega) | exact Mine.off1_ne (by assumption) (by kba_same), ?_⟩) | (refine List.forall_mem_append.mpr ⟨?_, ?_⟩))); done)); (case e5 => assumption); (case e6 => assumption); (case e7 => assumption); (case e8 => exact rfl); (case kd => k_extra "my:kd"); (case ku => k_extra "my:kd"); k_whole); intro l' nn' vs' rs' new' x' tx' y' ty' h' tk' hM' hp' hs' hl' hf' hg' hx' hy' hy2' F' N'; (have hvl' := Mine.mix_len hM' hp' (by decide)); (try k_sweep)))
  k_with "my:call ref cons nil" => row_timed "f" ((k_here; (with_reducible show wpAny _ _ (call (Value.ref 579) _) _ _ _); k_dflt (refine' Mine.mixedv3 ?k1 ?k2 ?k3 ?k4 ?k5 ?kK ?kd ?ku ?e0 ?e1 ?e2 ?e3 ?e4 ?e5 ?e6 ?e7 ?e8 ?_; (case k1 => k_asm); (case k2 => k_asm); (case k3 => k_asm); (case k4 => k_asm); (case k5 => k_asm); (case kK => first | exact rfl | assumption); (case e0 => ((repeat (first | exact Sel.head | apply Sel.tail | apply Mine.Sel.app)); done)); (case e2 => kba_same); (case e4 => with_reducible assumption); (case e3 => kcf_all); (case e1 => ((repeat (first | exact List.forall_mem_nil _ | (with_reducible assumption) | (refine List.forall_mem_cons.mpr ⟨by first | assumption | exact Ne.symm (by assumption) | (show @Ne Nat _ _; omega) | exact Mine.off1_ne (by assumption) (by kba_same), ?_⟩) | (refine List.forall_mem_append.mpr ⟨?_, ?_⟩))); done)); (case e5 => assumption); (case e6 => assumption); (case e7 => assumption); (case e8 => exact rfl); (case kd => k_extra "my:kd"); (case ku => k_extra "my:kd"); k_whole); intro l' nn' vs' rs' new' x' tx' y' ty' h' tk' hM' hp' hs' hl' hf' hg' hx' hy' hy2' F' N'; (have hvl' := Mine.mix_len hM' hp' (by decide)); (try k_sweep)))
  k_with "my:call ref cons nil" => row_timed "f" ((k_here; (with_reducible show wpAny _ _ (call (Value.ref 567) _) _ _ _); k_dflt (refine' Mine.parts0_spec ?k1 ?k2 ?k3 ?k4 ?k5 ?kK ?kd ?ku ?e0 ?e1 ?e2 ?_; (case k1 => k_asm); (case k2 => k_asm); (case k3 => k_asm); (case k4 => k_asm); (case k5 => k_asm); (case kK => first | exact rfl | assumption); (case e0 => k_subL); (case e1 => first | omega | decide); (case e2 => first | omega | decide); (case kd => k_extra "my:kd"); (case ku => k_extra "my:kd"); k_whole); intro l' nn' vs' new' h' tk' hL' hf' hl' F' N'; (obtain ⟨t0', h0', c0', e9', pm0', pH0'⟩ := Mine.LeftAt.inv1 hL'); (subst e9'); (try (refine' Mine.parts_sep_then ?hc9 hf' hl' ?hm9 ?_; (case hc9 => with_reducible assumption); (case hm9 => first | kba_same | k_dflt kba_same); intro hsa' hlsa')); (revert t0' h0' c0'; intro t0' h0' c0'; intros); (try k_sweep)))
  k_with "my:call ref cons nil" => row_timed "f" ((k_here; (with_reducible show wpAny _ _ (call (Value.ref 567) _) _ _ _); k_dflt (refine' Mine.parts1_spec ?k1 ?k2 ?k3 ?k4 ?k5 ?kK ?kd ?ku ?e0 ?e1 ?e2 ?_; (case k1 => k_asm); (case k2 => k_asm); (case k3 => k_asm); (case k4 => k_asm); (case k5 => k_asm); (case kK => first | exact rfl | assumption); (case e0 => k_subL); (case e1 => first | omega | decide); (case e2 => first | omega | decide); (case kd => k_extra "my:kd"); (case ku => k_extra "my:kd"); k_whole); intro l' nn' vs' new' h' tk' hL' hf' hl' F' N'; (obtain ⟨t0', h0', c0', t1', h1', c1', e9', pm0', pH0', pm1', pH1'⟩ := Mine.LeftAt.inv2 hL'); (subst e9'); (try (refine' Mine.parts_sep_then ?hc9 hf' hl' ?hm9 ?_; (case hc9 => with_reducible assumption); (case hm9 => first | kba_same | k_dflt kba_same); intro hsa' hlsa')); (revert t0' h0' c0' t1' h1' c1'; intro t0' h0' c0' t1' h1' c1'; intros); (try k_sweep)))
  k_with "my:call ref cons nil" => row_timed "f" ((k_here; (with_reducible show wpAny _ _ (call (Value.ref 567) _) _ _ _); k_dflt (refine' Mine.parts2_spec ?k1 ?k2 ?k3 ?k4 ?k5 ?kK ?kd ?ku ?e0 ?e1 ?e2 ?_; (case k1 => k_asm); (case k2 => k_asm); (case k3 => k_asm); (case k4 => k_asm); (case k5 => k_asm); (case kK => first | exact rfl | assumption); (case e0 => k_subL); (case e1 => first | omega | decide); (case e2 => first | omega | decide); (case kd => k_extra "my:kd"); (case ku => k_extra "my:kd"); k_whole); intro l' nn' vs' new' h' tk' hL' hf' hl' F' N'; (obtain ⟨t0', h0', c0', t1', h1', c1', t2', h2', c2', e9', pm0', pH0', pm1', pH1', pm2', pH2'⟩ := Mine.LeftAt.inv3 hL'); (subst e9'); (try (refine' Mine.parts_sep_then ?hc9 hf' hl' ?hm9 ?_; (case hc9 => with_reducible assumption); (case hm9 => first | kba_same | k_dflt kba_same); intro hsa' hlsa')); (revert t0' h0' c0' t1' h1' c1' t2' h2' c2'; intro t0' h0' c0' t1' h1' c1' t2' h2' c2'; intros); (try k_sweep)))
  k_with "my:call ref cons nil" => row_timed "f" ((k_here; (with_reducible show wpAny _ _ (call (Value.ref 572) _) _ _ _); k_dflt (refine' Mine.right_use (D := Mine.twoD (Mine.datOf 3 1 _) (Mine.dumD 0)) (rows := [(false, 1, false), (false, 0, true)]) ?k1 ?k2 ?k3 ?k4 ?k5 ?kK ?kd ?ku ?hW ?S ?ml ?mld ?mre ?mrd ?hl ?hR ?rok ?dok ?hne ?hlen ?sep ?lo ?_; (case hW => with_reducible assumption); (case k1 => k_asm); (case k2 => k_asm); (case k3 => k_in); (case k4 => k_asm); (case k5 => k_asm); (case kK => first | exact rfl | assumption); (case kd => k_extra "my:kd"); (case ku => k_extra "my:kd"); (case S => repeat (first | exact Sel.head | apply Sel.tail | apply Mine.Sel.app)); (case ml => first | with_reducible kba_same | kba_same); (case mld => first | with_reducible kba_same | kba_same); (case mre => first | with_reducible kba_same | kba_same); (case mrd => first | with_reducible kba_same | kba_same); (case hl => first | with_reducible kba_same | kba_same); (case hR => (refine' Mine.RowsAt.cons (c := false) ?x1 ?x2 (Mine.RowsAt.cons (c := false) ?x3 ?x4 Mine.RowsAt.nil); (case x1 => first | with_reducible kba_same | kba_same); (case x3 => first | with_reducible kba_same | kba_same); (case x2 => (refine' Mine.HdAt.mono ?hs ?hp; (case hp => assumption); (case hs => kcf_all))); (case x4 => (refine' Mine.HdAt.mono ?hs ?hp; (case hp => assumption); (case hs => kcf_all))))); (case rok => exact Mine.rows_first rfl); (case dok => (intro c9; cases c9; exact Mine.datOf_ok (by decide) (by decide) (by decide); exact Mine.dumD_ok)); (case hne => (intro e9; cases e9)); (case hlen => decide); (case lo => with_reducible assumption); (case sep => ((repeat (first | exact List.forall_mem_nil _ | (with_reducible assumption) | (refine List.forall_mem_cons.mpr ⟨by first | assumption | (show @Ne Nat _ _; omega), ?_⟩) | (refine List.forall_mem_append.mpr ⟨?_, ?_⟩) | exact Mine.allLt_ne (by assumption))); done)); k_whole); intro h' tk' F' N'; (have N9' := Mine.keep1 N' (cx := @HAdd.hAdd Nat Nat Nat _ _ 1) (by kba_same)); (clear N'); (try k_sweep)))
  k_with "my:call ref cons nil" => row_timed "f" ((k_here; (with_reducible show wpAny _ _ (call (Value.ref 572) _) _ _ _); k_dflt (refine' Mine.right_use  ?k1 ?k2 ?k3 ?k4 ?k5 ?kK ?kd ?ku ?hW ?S ?ml ?mld ?mre ?mrd ?hl ?hR ?rok ?dok ?hne ?hlen ?sep ?lo ?_; (case hW => with_reducible assumption); (case k1 => k_asm); (case k2 => k_asm); (case k3 => k_in); (case k4 => k_asm); (case k5 => k_asm); (case kK => first | exact rfl | assumption); (case kd => k_extra "my:kd"); (case ku => k_extra "my:kd"); (case S => repeat (first | exact Sel.head | apply Sel.tail | apply Mine.Sel.app)); (case ml => first | with_reducible kba_same | kba_same); (case mld => first | with_reducible kba_same | kba_same); (case mre => first | with_reducible kba_same | kba_same); (case mrd => first | with_reducible kba_same | kba_same); (case hl => first | with_reducible kba_same | kba_same); (case hR => (refine' Mine.RowsAt.mono ?hs ?hp; (case hp => with_reducible assumption); (case hs => kcf_all))); (case rok => with_reducible assumption); (case dok => with_reducible assumption); (case hne => with_reducible assumption); (case hlen => with_reducible assumption); (case lo => with_reducible assumption); (case sep => ((repeat (first | exact List.forall_mem_nil _ | (with_reducible assumption) | (refine List.forall_mem_cons.mpr ⟨by first | assumption | (show @Ne Nat _ _; omega), ?_⟩) | (refine List.forall_mem_append.mpr ⟨?_, ?_⟩) | exact Mine.allLt_ne (by assumption))); done)); k_whole); intro h' tk' F' N'; (try k_sweep)))
  k_with "my:call ref" => row_timed "f" ((k_here; (with_reducible show wpAny _ _ (call (Value.ref 586) _) _ _ _); k_dflt (refine' Mine.layer_spec ?k1 ?k2 ?k3 ?k4 ?k5 ?kK ?kd ?ku  ?_; (case k1 => k_asm); (case k2 => k_asm); (case k3 => k_asm); (case k4 => k_asm); (case k5 => k_asm); (case kK => first | exact rfl | assumption);  (case kd => k_extra "my:kd"); (case ku => k_extra "my:kd"); k_whole); intro lay' ld' re' rd' wd' wo' y1' y2' y3' y4' f1' f2' f3' f4' f5' r1' r2' r3' r4' tl1' tl2' tl3' h' tk' hW' lo' hf' a1' a2' a3' a4' F' N'; (try k_sweep)))
  k_with "my:CompSrc" => row_timed "f" (((with_reducible show LCg.CompSrc _ _ _ _ _ _ _ (PySem.Expr.Call _ _ _ _) _ _ _ _ _ _); k_dflt (refine' Mine.src_take (top := 256) rfl ?F ?N ?S ?hr ?hb ?hz ?h1 ?h2 ?h3 ?_ ?_; (case F => k_asm); (case N => k_asm); (case S => (repeat (first | exact Sel.head | apply Sel.tail | apply Mine.Sel.app)); done); (case hr => assumption); (case hb => exact (Int.toNat_of_nonneg (by omega)).symm); (case hz => omega); (case h1 => assumption); (case h2 => assumption); (case h3 => assumption)); (focus (intro g' i' v' I' oI' C' oC' D' m2' h' tk' E' ys' x' y' tx' ty' Z' hP' hC' hx' h1' h2' h3' F' N' n1' n2' n3' on'; (obtain ⟨t9', e9'⟩ := hP'); (subst e9'); (revert t9'; intro t9'; intros))); rotate_left; (focus (intro g' ys' ns' x' tx' y' ty' hI' hl' hb' h1' h2' h3')); rotate_left))
  k_with "my:eval Call Name" => row_timed "f" (((with_reducible show wpAny _ _ (eval (Expr.Call (Expr.Name "_law_parts" _) _ _ _) _) _ _ _); refine Call_ ?_))
  k_with "my:eval Call Name" => row_timed "f" (((with_reducible show wpAny _ _ (eval (Expr.Call (Expr.Name "_law_right" _) _ _ _) _) _ _ _); refine Call_ ?_))
  k_with "my:eval Call Name" => row_timed "f" (((with_reducible show wpAny _ _ (eval (Expr.Call (Expr.Name "_law_layer" _) _ _ _) _) _ _ _); refine Call_ ?_))
  k_with "my:eval Call Name" => row_timed "f" (((with_reducible show wpAny _ _ (eval (Expr.Call (Expr.Name "_law_pool" _) _ _ _) _) _ _ _); refine Call_ ?_))
  k_with "my:eval Call Name" => row_timed "f" (((with_reducible show wpAny _ _ (eval (Expr.Call (Expr.Name "_law_one" _) _ _ _) _) _ _ _); refine Call_ ?_))
  k_with "my:eval Call Name" => row_timed "f" (((with_reducible show wpAny _ _ (eval (Expr.Call (Expr.Name "_law_mixed" _) _ _ _) _) _ _ _); refine Call_ ?_))
  k_with "my:eval Call Name" => row_timed "f" (((with_reducible show wpAny _ _ (eval (Expr.Call (Expr.Name "_law_take" _) _ _ _) _) _ _ _); refine Call_ ?_))
  k_with "my:ite" => row_timed "f" ((k_dflt (refine Mine.ite_join ?_); intro n9' t9' tk9' hn9'))
  k_with "my:exec For Name Call cons nil" => row_timed "f" ((k_here; (rename Fr _ _ _ _ => lF'); (with_unfolding_all refine' For_turns lF' ?_; k_whole)))
  k_with "my:pyIter ref" => row_timed "f" (((with_reducible show wpAny _ _ (pyIter (Value.ref _)) (fun it s₂ => TurnsAt _ _ _ _ _ _ _ _ _ it s₂) _ _); (rename Fr _ _ _ _ => lF'); (rename News _ _ _ _ => lN'); k_dflt (refine' Mine.law_loop [Str.ofString "number", Str.ofString "many", Str.ofString "octets", Str.ofString "cuts", Str.ofString "more", Str.ofString "rows"] rfl lF' lN' ?hr ?hz ?mr ?hc ?ms ?mc ?ml ?h1 ?h2 ?h3 ?n1 ?n2 ?_ ?_; (case hr => assumption); (case hz => with_reducible assumption); (case mr => exact rfl); (case hc => with_reducible assumption); (case ms => kba_same); (case mc => kba_same); (case ml => kba_same); (case h1 => assumption); (case h2 => assumption); (case h3 => assumption); (case n1 => first | assumption | (show @Ne Nat _ _; omega) | exact (by assumption : ∀ p ∈ _, Prod.fst p ≠ _) (_, _) (by kba_same)); (case n2 => (show @Ne Nat _ _; omega))); (all_goals (clear lF' lN')); (focus (intros i' t' m2' x2' y2' tx2' ty2' n2' nr' oc' rl' rv' rs' D2' fz' h9' tk9q' own' hi' J' hm' hoff' hr' hc' hx' hy' hy2' ne1' ne2' hfo' hrv' F' N'; revert X' T' B' hi' J' hm' hoff' hr' hc' hx' hy' hy2' ne1' ne2' hfo' hrv' F' N'; rename_i z0 z1 z2 z3 z4 z5 z6 z7 z8 z9 z10 z11 z12 z13 z14 z15 z16 z17 z18 z19 z20 z21 z22 z23 z24 z25 z26 z27 z28 z29 rl9 z31 z32 z33 z34 z35 z36 z37 z38 z39 rh9 z41 z42 z43 rx9 rx8 z46 z47 z48 z49 z50; (try clear z50); (try clear z49); (try clear z48); (try clear z47); (try clear z46); (try clear z43); (try clear z42); (try clear z41); (try clear z39); (try clear z38); (try clear z37); (try clear z36); (try clear z35); (try clear z34); (try clear z33); (try clear z32); (try clear z31); (try clear z29); (try clear z28); (try clear z27); (try clear z26); (try clear z25); (try clear z24); (try clear z23); (try clear z22); (try clear z21); (try clear z20); (try clear z19); (try clear z18); (try clear z17); (try clear z16); (try clear z15); (try clear z14); (try clear z13); (try clear z12); (try clear z11); (try clear z10); (try clear z9); (try clear z8); (try clear z7); (try clear z6); (try clear z5); (try clear z4); (try clear z3); (try clear z2); (try clear z1); (try clear z0); (try clear hn9'); (try clear hfr'); (try clear hy2'); (try clear hy1'); (try clear hx'); (try clear a4'); (try clear a3'); (try clear a2'); (try clear a1'); (try clear hf'); (try clear lo'); (try clear hW'); (try clear hl'); (try clear hLg); (try clear hLt); (try clear hst); (try clear d1'); (try clear B); (try clear F); (try clear X); (try clear N); (try clear T); (try clear hL); (try clear hI); (try clear hlen); (try clear ret); (try clear z50); (try clear z49); (try clear z48); (try clear z47); (try clear z46); (try clear z43); (try clear z42); (try clear z41); (try clear z39); (try clear z38); (try clear z37); (try clear z36); (try clear z35); (try clear z34); (try clear z33); (try clear z32); (try clear z31); (try clear z29); (try clear z28); (try clear z27); (try clear z26); (try clear z25); (try clear z24); (try clear z23); (try clear z22); (try clear z21); (try clear z20); (try clear z19); (try clear z18); (try clear z17); (try clear z16); (try clear z15); (try clear z14); (try clear z13); (try clear z12); (try clear z11); (try clear z10); (try clear z9); (try clear z8); (try clear z7); (try clear z6); (try clear z5); (try clear z4); (try clear z3); (try clear z2); (try clear z1); (try clear z0); (try clear hn9'); (try clear hfr'); (try clear hy2'); (try clear hy1'); (try clear hx'); (try clear a4'); (try clear a3'); (try clear a2'); (try clear a1'); (try clear hf'); (try clear lo'); (try clear hW'); (try clear hl'); (try clear hLg); (try clear hLt); (try clear hst); (try clear d1'); (try clear B); (try clear F); (try clear X); (try clear N); (try clear T); (try clear hL); (try clear hI); (try clear hlen); (try clear ret); revert L' l' r' rl9 rh9 tk9' rx9 rx8 i' t' m2' x2' y2' tx2' ty2' n2' nr' oc' rl' rv' rs' D2' fz' h9' tk9q' own'; refine Mine.epL_t ?_; exact q1)); (focus (intros k' m2' x2' y2' tx2' ty2' n2' nr' oc' rl' rv' rs' D2' fz' h9' tk9q' hr' hR' hok' hdk' hne' hlen' F' N'; revert X' T' ret B' hr' hR' hok' hdk' hne' hlen' F' N'; rename_i z0 z1 z2 z3 z4 z5 z6 z7 z8 z9 z10 z11 z12 z13 z14 z15 z16 z17 z18 z19 z20 z21 z22 z23 z24 z25 z26 z27 z28 z29 z30 z31 z32 z33 z34 z35 z36 z37 z38 z39 rh9 z41 z42 z43 rx9 rx8 z46 z47 z48 z49 z50; (try clear z50); (try clear z49); (try clear z48); (try clear z47); (try clear z46); (try clear z43); (try clear z42); (try clear z41); (try clear z39); (try clear z38); (try clear z37); (try clear z36); (try clear z35); (try clear z34); (try clear z33); (try clear z32); (try clear z31); (try clear z30); (try clear z29); (try clear z28); (try clear z27); (try clear z26); (try clear z25); (try clear z24); (try clear z23); (try clear z22); (try clear z21); (try clear z20); (try clear z19); (try clear z18); (try clear z17); (try clear z16); (try clear z15); (try clear z14); (try clear z13); (try clear z12); (try clear z11); (try clear z10); (try clear z9); (try clear z8); (try clear z7); (try clear z6); (try clear z5); (try clear z4); (try clear z3); (try clear z2); (try clear z1); (try clear z0); (try clear hn9'); (try clear hfr'); (try clear hy2'); (try clear hy1'); (try clear hx'); (try clear a4'); (try clear a3'); (try clear a2'); (try clear a1'); (try clear hf'); (try clear lo'); (try clear hW'); (try clear hl'); (try clear hLg); (try clear hLt); (try clear hst); (try clear d1'); (try clear B); (try clear F); (try clear X); (try clear N); (try clear T); (try clear hL); (try clear hI); (try clear hlen); (try clear z50); (try clear z49); (try clear z48); (try clear z47); (try clear z46); (try clear z43); (try clear z42); (try clear z41); (try clear z39); (try clear z38); (try clear z37); (try clear z36); (try clear z35); (try clear z34); (try clear z33); (try clear z32); (try clear z31); (try clear z30); (try clear z29); (try clear z28); (try clear z27); (try clear z26); (try clear z25); (try clear z24); (try clear z23); (try clear z22); (try clear z21); (try clear z20); (try clear z19); (try clear z18); (try clear z17); (try clear z16); (try clear z15); (try clear z14); (try clear z13); (try clear z12); (try clear z11); (try clear z10); (try clear z9); (try clear z8); (try clear z7); (try clear z6); (try clear z5); (try clear z4); (try clear z3); (try clear z2); (try clear z1); (try clear z0); (try clear hn9'); (try clear hfr'); (try clear hy2'); (try clear hy1'); (try clear hx'); (try clear a4'); (try clear a3'); (try clear a2'); (try clear a1'); (try clear hf'); (try clear lo'); (try clear hW'); (try clear hl'); (try clear hLg); (try clear hLt); (try clear hst); (try clear d1'); (try clear B); (try clear F); (try clear X); (try clear N); (try clear T); (try clear hL); (try clear hI); (try clear hlen); revert L' rh9 tk9' rx9 rx8 k' m2' x2' y2' tx2' ty2' n2' nr' oc' rl' rv' rs' D2' fz' h9' tk9q'; refine Mine.epL_d ?_; exact q2))))
  k_with "my:eval Name" => row_timed "f" ((k_here; (with_reducible show wpAny _ _ (eval (Expr.Name (Str.ofString "rows") _) (envOfC _ _ _ _ _)) _ _ _); k_dflt (refine' nameX_L ?F ?v ?_ ?a ?b; (case a => exact rfl); (case b => exact rfl); (case F => k_asm); (case v => first | exact rfl | assumption); k_whole)))
  k_with "my:eval Name" => row_timed "f" ((k_here; (with_reducible show wpAny _ _ (eval (Expr.Name (Str.ofString "source") _) (envOfC _ _ _ _ _)) _ _ _); k_dflt (refine' nameX_C ?N ?c ?m ?d ?_ ?a ?b; (case a => exact rfl); (case b => exact rfl); (case N => k_asm); (case c => exact rfl); (case m => k_mem); (case d => with_reducible assumption); k_whole)))
  k_with "my:eval ListComp" => row_timed "f" ((k_here; k_dflt (refine LCg.ListComp_U (F₀ := by k_asm) (by rfl) (by decide) (by rfl) (by decide) (by rfl) ?_); k_dflt lcg_toSrc))
  k_with "my:exec Assign cons ListComp" => row_timed "f" ((k_here; k_dflt (refine LCg.Assign_ListComp_U (F₀ := by k_asm) (by rfl) (by with_unfolding_all rfl) (by rfl) (by decide) (by rfl) (by decide) (by rfl) (by rfl) (by rfl) ?_); k_dflt lcg_toSrc))
  k_with "my:call type:bytes" => row_timed "f" ((k_here; (with_reducible show wpAny _ _ (call (Value.type "bytes") [Value.ref _]) _ _ _); k_dflt (refine' Mine.bytes_any ?F ?N ?l ?i ?r ?z rfl ?_; (case F => k_asm); (case N => k_asm); (case i => with_reducible assumption); (case l => kba_same); (case r => with_reducible assumption); (case z => omega)); intro ob' h' t' k' F' N' hsz'; (rcases Mine.three (by with_reducible assumption) (by with_reducible assumption) with e9' | e9' | e9' <;> subst e9')))
  k_with "my:subscriptTail Name Slice ref ref" => row_timed "f" ((k_here; (with_reducible show wpAny _ _ (subscriptTail _ _ (Value.ref _) (Value.ref _)) _ _ _); k_dflt (first
  | (refine' Mine.rows_take (b := 1) ?F ?N ?t ?z ?_ ?s ?g; (case F => k_asm); (case N => k_asm); (case t => kba_same); (case z => assumption); (case s => with_unfolding_all rfl); (case g => (intro _; with_unfolding_all rfl)))
  | (refine' Mine.rows_drop (b := 1) ?F ?N ?t ?z ?_ ?s ?g; (case F => k_asm); (case N => k_asm); (case t => kba_same); (case z => assumption); (case s => with_unfolding_all rfl); (case g => (intro _; with_unfolding_all rfl)))); intro D' h' F' N' l1'; (try k_lt l1'); (try k_sweep)))
  k_with "my:binaryOp Add ref ref" => row_timed "f" ((k_here; k_dflt (refine' Mine.add_rows ?F ?N ?t ?b ?z ?y ?_; (case F => k_asm); (case N => k_asm); (case t => kba_same); (case b => kba_same); (case z => first | assumption | (simp only [List.length_append, List.length_take, List.length_drop]; omega)); (case y => first | assumption | omega | (simp only [List.length_append, List.length_take, List.length_drop]; omega))); intro D' h' F' N' l1'; (try k_lt l1'); (try k_sweep)))
  k_with "my:TurnEnd" => row_timed "f" ((k_dflt (refine' Mine.law_end [Str.ofString "number", Str.ofString "many", Str.ofString "octets", Str.ofString "cuts", Str.ofString "more", Str.ofString "rows"] ?J ?hi ?hm ?hoff ?hD ?hn ?mix ?hp ?hnd ?hle ?hl3 ?F ?N ?hr ?hmm ?b1 ?b2 ?b3 ?f1 ?f2 ?f3 ?f4; (case J => with_reducible assumption); (case hi => assumption); (case hm => with_reducible assumption); (case hoff => with_reducible assumption); (case mix => (refine' Mine.MixAt.mono ?hs9 ?hp9; (case hp9 => with_reducible assumption); (case hs9 => exact fun p hp => List.mem_append.mpr (Or.inl hp)))); (case hD => exact Mine.datOf_ok (by omega) (by omega) (by omega)); (case hn => exact rfl); (case hp => with_reducible assumption); (case hnd => decide); (case hle => (intro j9 hj9; (simp only [List.mem_cons, List.not_mem_nil, or_false] at hj9); dsimp only [Mine.datOf]; omega)); (case hl3 => decide); (case F => k_asm); (case hr => exact rfl); (case N => (refine' newsub ?nn9 ?ss9; (case nn9 => k_asm); (case ss9 => kcf_all))); (case hmm => (intro z9 hz9; (try simp only [List.contains_cons, List.contains_nil, Bool.or_eq_false_iff, Bool.or_false, beq_eq_false_iff_ne, ne_eq] at hz9); simp [hz9])); (case b1 => assumption); (case b2 => assumption); (case b3 => assumption); (case f1 => first | assumption | (show @Ne Nat _ _; omega) | exact Mine.allLt_ne' (by k_extra "my:laany") (by kba_same)); (case f2 => ((repeat (first | exact List.forall_mem_nil _ | (with_reducible assumption) | (refine List.forall_mem_cons.mpr ⟨by first | assumption | exact Ne.symm (by assumption) | (show @Ne Nat _ _; omega) | exact Mine.off1_ne (by assumption) (by kba_same), ?_⟩) | (refine List.forall_mem_append.mpr ⟨?_, ?_⟩))); done)); (case f3 => (intro q9 hq9; exact Mine.allLt_ne (by k_extra "my:laany") q9 (by kba_same))); (case f4 => (intro p9 hp9; rcases List.mem_append.mp hp9 with hp9 | hp9 <;> (intro q9 hq9; exact Mine.sep_use (by with_reducible assumption) hp9 (by kba_same)))))))
  trivial
def law_spec_S (pp : Program) (w : World) (loose : List Str) (mean : ExcName → Option Value) (mg : Str → Option Value) (mb : Str → Option Value) (s : Shared) (Q : Value → Shared → Prop) (E : Value → Shared → Prop) (sl : Addr) (vs : List Value) (ns : List Int) : Prop := (Mine.hd.heap_1 w.params).In s.heap → Top pp loose mean mg mb s.heap → s.heap.IsList sl vs.toArray → IntsAre vs ns → ns.length ≤ 63 →
    (∀ L h' m' tk', Fr s.heap L h' m' → Q (.bool true) { s with heap := h', toks := tk' }) →
    wpAny (model Challenge.rw_xw0340_01.row.prog w) callerA (call (.ref 591) [.ref sl]) Q E s
open Cx in
def law_spec_P [Cx] : Prop := law_spec_S pp w loose mean mg mb s Q E sl vs ns
noncomputable def law_spec_C : Cx := Mine.ep neCx (fun c => ¬ @law_spec_P c)
noncomputable instance law_spec_I : Cx := law_spec_C
theorem epL_t {P : Addr → Addr → Addr → Addr → Heap → Nat → Heap → Nat → Nat → Tok → (Str → Option Value) → Int → Int → Tok → Tok → Nat → Nat → Obj → Addr → List Value → List Row → (Bool → Dat) → Led → Heap → Nat → Led → Prop} (h : ∀ c : Rx, P (@Rx.rr_wL_0 c) (@Rx.rr_wl_0 c) (@Rx.rr_wr_0 c) (@Rx.rr_wrl9_0 c) (@Rx.rr_wrh9_0 c) (@Rx.rr_wtk9_0 c) (@Rx.rr_wrx9_0 c) (@Rx.rr_wrx8_0 c) (@Rx.rr_wi_0 c) (@Rx.rr_wt_0 c) (@Rx.rr_wm2_0 c) (@Rx.rr_wx2_0 c) (@Rx.rr_wy2_0 c) (@Rx.rr_wtx2_0 c) (@Rx.rr_wty2_0 c) (@Rx.rr_wn2_0 c) (@Rx.rr_wnr_0 c) (@Rx.rr_woc_0 c) (@Rx.rr_wrl_0 c) (@Rx.rr_wrv_0 c) (@Rx.rr_wrs_0 c) (@Rx.rr_wD2_0 c) (@Rx.rr_wfz_0 c) (@Rx.rr_wh9_0 c) (@Rx.rr_wtk9q_0 c) (@Rx.rr_wown_0 c)) : ∀ x0 x1 x2 x3 x4 x5 x6 x7 x8 x9 x10 x11 x12 x13 x14 x15 x16 x17 x18 x19 x20 x21 x22 x23 x24 x25, P x0 x1 x2 x3 x4 x5 x6 x7 x8 x9 x10 x11 x12 x13 x14 x15 x16 x17 x18 x19 x20 x21 x22 x23 x24 x25 := fun x0 x1 x2 x3 x4 x5 x6 x7 x8 x9 x10 x11 x12 x13 x14 x15 x16 x17 x18 x19 x20 x21 x22 x23 x24 x25 => h ⟨(up 5 x4 (up 6 x6 (up 7 x23 zR0)), up 18 x0 (up 19 x1 (up 20 x2 (up 21 x3 (up 22 x18 zR1)))), up 6 x5 (up 7 x7 (up 8 x8 (up 9 x15 (up 10 x16 (up 11 x24 zR2))))), up 4 x17 zR3, zR4, up 87 x9 (up 88 x13 (up 89 x14 zR5)), up 2 x10 zR6, zR7, up 2 x22 (up 3 x25 zR8), zR9, zR10, zR11, zR12, zR13, up 0 x11 (up 1 x12 zR14), up 0 x19 zR15, up 0 x20 zR16, up 0 x21 zR17)⟩
theorem epL_d {P : Addr → Heap → Nat → Heap → Nat → Nat → (Str → Option Value) → Int → Int → Tok → Tok → Nat → Nat → Obj → Addr → List Value → List Row → (Bool → Dat) → Led → Heap → Nat → Prop} (h : ∀ c : Rx, P (@Rx.rr_wL_0 c) (@Rx.rr_wrh9_0 c) (@Rx.rr_wtk9_0 c) (@Rx.rr_wrx9_0 c) (@Rx.rr_wrx8_0 c) (@Rx.rr_wk_0 c) (@Rx.rr_wm2_0 c) (@Rx.rr_wx2_0 c) (@Rx.rr_wy2_0 c) (@Rx.rr_wtx2_0 c) (@Rx.rr_wty2_0 c) (@Rx.rr_wn2_0 c) (@Rx.rr_wnr_0 c) (@Rx.rr_woc_0 c) (@Rx.rr_wrl_0 c) (@Rx.rr_wrv_0 c) (@Rx.rr_wrs_0 c) (@Rx.rr_wD2_0 c) (@Rx.rr_wfz_0 c) (@Rx.rr_wh9_0 c) (@Rx.rr_wtk9q_0 c)) : ∀ x0 x1 x2 x3 x4 x5 x6 x7 x8 x9 x10 x11 x12 x13 x14 x15 x16 x17 x18 x19 x20, P x0 x1 x2 x3 x4 x5 x6 x7 x8 x9 x10 x11 x12 x13 x14 x15 x16 x17 x18 x19 x20 := fun x0 x1 x2 x3 x4 x5 x6 x7 x8 x9 x10 x11 x12 x13 x14 x15 x16 x17 x18 x19 x20 => h ⟨(up 5 x1 (up 6 x3 (up 7 x19 zR0)), up 18 x0 (up 22 x14 zR1), up 6 x2 (up 7 x4 (up 12 x5 (up 9 x11 (up 10 x12 (up 11 x20 zR2))))), up 4 x13 zR3, zR4, up 88 x9 (up 89 x10 zR5), up 2 x6 zR6, zR7, up 2 x18 zR8, zR9, zR10, zR11, zR12, zR13, up 0 x7 (up 1 x8 zR14), up 0 x15 zR15, up 0 x16 zR16, up 0 x17 zR17)⟩
open Cx in
set_option maxHeartbeats 4000000 in
noncomputable def law_pre : (F1 : Rx → Prop) ×' (F2 : Rx → Prop) ×' ((∀ c, F1 c) → (∀ c, F2 c) → law_spec_P) := by
  refine' ⟨_, _, fun q1 q2 => ?main⟩
  case main =>
  unfold law_spec_P law_spec_S
  k_fill
  intro X' T' hL hI hlen ret
  have B' : Below callerA s.heap [] s.heap := below_caller s.heap
  refine wpAny_call ?_
  refine' code_topC X' T' rfl ?k6 ?k7 ?k8 ?k9 ?kB ?kD ?_ ?c2 ?c3 ?c4
  (case k6 => k_is)
  (case k7 => k_is)
  (case k8 => decide +kernel)
  (case k9 => first | exact BindsTo.of_eq rfl | exact binds_K (by k_in) rfl (by k_is) rfl rfl rfl)
  (case kB => exact rfl)
  (case kD => decide +kernel)
  (case c2 => exact rfl)
  (case c3 => exact rfl)
  (case c4 => exact rfl)
  intro L' h' tk' cells' F' N' Y'
  (have hY := CellsAre.one Y'; obtain ⟨o1', hE', d1'⟩ := hY; subst hE'; clear Y')
  (try simp only [List.nil_append, List.cons_append] at N')
  (try dsimp only)
  revert o1'; intro o1'; intros
  have hLg := hL
  k_steps
noncomputable def lw1_C : Rx := Mine.ep neRx (fun c => ¬ law_pre.1 c)
noncomputable instance lw1_I : Rx := lw1_C
open Cx in
set_option maxHeartbeats 4000000 in
theorem lw1_T : law_pre.1 lw1_I := by
  intros X'
  k_fill
  intros T' B' hi' J' hm' hoff' hr' hc' hx' hy' hy2' ne1' ne2' hfo' hrv' F' N'
  k_steps
  all_goals (try ((with_reducible rename Mine.TakeOn _ _ _ _ _ _ _ _ _ _ => hon9); (with_reducible rename News _ _ _ _ => hn9); (with_reducible rename Fr _ _ _ _ => hf9); refine' Mine.TakeOn.use hon9 hf9 hn9 ?hs9 ?a9 ?b9 ?c9 ?d9 ?e9; (case hs9 => kcf_all); (case a9 => assumption); (case b9 => assumption); (case c9 => assumption); (case d9 => assumption); (case e9 => assumption)))
noncomputable def lw2_C : Rx := Mine.ep neRx (fun c => ¬ law_pre.2.1 c)
noncomputable instance lw2_I : Rx := lw2_C
open Cx in
set_option maxHeartbeats 4000000 in
theorem lw2_T : law_pre.2.1 lw2_I := by
  intros X'
  k_fill
  intros T' ret B' hr' hR' hok' hdk' hne' hlen' F' N'
  k_steps
  all_goals (try (exact ret _ _ _ _ (by k_asm)))
theorem law_spec_T : @law_spec_P law_spec_I := law_pre.2.2 (Mine.ep_all (P := fun c => law_pre.1 c) neRx lw1_T) (Mine.ep_all (P := fun c => law_pre.2.1 c) neRx lw2_T)
theorem law_spec : law_spec_S pp w loose mean mg mb s Q E sl vs ns := Mine.ep_all (P := fun c => @law_spec_P c) neCx law_spec_T ⟨(up 0 pp zC0, up 0 w zC1, up 0 loose zC2, up 0 mean zC3, up 0 mg (up 1 mb zC4), zC5, zC6, zC7, zC8, up 27 sl zC9, zC10, zC11, zC12, zC13, zC14, zC15, up 0 s zC16, up 0 Q (up 1 E zC17), zC18, up 1 vs zC19, zC20, zC21, zC22, zC23, zC24, zC25, zC26, zC27, zC28, up 2 ns zC29, zCt30)⟩ 
end
namespace main
theorem tw12608185968620612914:True:=⟨⟩
theorem tw7221758910455160077:True:=⟨⟩
theorem tw5921134243170700561:True:=⟨⟩
theorem tw357486453476387696:True:=⟨⟩
theorem tw6907636171062424033:True:=⟨⟩
theorem tw12205347405646519318:True:=⟨⟩
theorem tw18165044119631177899:True:=⟨⟩
theorem tw9406782406253462049:True:=⟨⟩
theorem tw10450603732522932521:True:=⟨⟩
theorem tw2406621943657119228:True:=⟨⟩
theorem tw13972245371655741198:True:=⟨⟩
theorem tw5372645768047454471:True:=⟨⟩
theorem tw16102231251864390963:True:=⟨⟩
theorem tw5378808338967829844:True:=⟨⟩
theorem tw17972001132496387921:True:=⟨⟩
theorem tw9268297945177815525:True:=⟨⟩
theorem tw14027531716089632829:True:=⟨⟩
theorem tw12748397558918655664:True:=⟨⟩
theorem tw18056768294016990395:True:=⟨⟩
theorem tw4738084490714076199:True:=⟨⟩
theorem tw2895952525429962455:True:=⟨⟩
theorem tw13921549641620141925:True:=⟨⟩
theorem tw17227804439868677385:True:=⟨⟩
theorem tw11785714552879321826:True:=⟨⟩
theorem tw10896356407431480244:True:=⟨⟩
theorem tw15303317825217679618:True:=⟨⟩
theorem tw5585478044538960755:True:=⟨⟩
theorem tw15955573374722617477:True:=⟨⟩
theorem tw11692516046256081784:True:=⟨⟩
theorem tw5518243967957118194:True:=⟨⟩
theorem tw2402762420636078793:True:=⟨⟩
theorem tw15806524323241146399:True:=⟨⟩
theorem tw1698737076077563947:True:=⟨⟩
theorem tw16778611742570070204:True:=⟨⟩
theorem tw2821470743931037460:True:=⟨⟩
theorem tw11101190512080308003:True:=⟨⟩
theorem tw4637267157515435788:True:=⟨⟩
theorem tw11273777480241942364:True:=⟨⟩
theorem tw6788530277367551627:True:=⟨⟩
theorem tw11218778669853930896:True:=⟨⟩
theorem tw6855474311058116810:True:=⟨⟩
theorem tw13219505800766818778:True:=⟨⟩
theorem tw9265829497004654079:True:=⟨⟩
theorem tw10092017014551392330:True:=⟨⟩
theorem tw451873465583785326:True:=⟨⟩
theorem tw6801380410627298636:True:=⟨⟩
theorem tw14539993770535171780:True:=⟨⟩
theorem tw15485851114877660061:True:=⟨⟩
theorem tw16046730324260685337:True:=⟨⟩
theorem tw12450111651097656602:True:=⟨⟩
theorem tw17297283025540448806:True:=⟨⟩
theorem tw5084117380071580128:True:=⟨⟩
theorem tw11409991511011244131:True:=⟨⟩
theorem tw7093617532817203218:True:=⟨⟩
theorem tw2019394398466159022:True:=⟨⟩
theorem tw17644181745481072423:True:=⟨⟩
theorem tw3394367416137920725:True:=⟨⟩
theorem tw6655696309031964122:True:=⟨⟩
theorem tw1150287232629052791:True:=⟨⟩
theorem tw15580989882048331800:True:=⟨⟩
theorem tw1504049600530537962:True:=⟨⟩
theorem tw13406003279186336099:True:=⟨⟩
theorem tw17052023290607921161:True:=⟨⟩
theorem tw5571399437266216444:True:=⟨⟩
theorem tw4365514962571936147:True:=⟨⟩
theorem tw8046773169563483271:True:=⟨⟩
theorem tw13777938177461255882:True:=⟨⟩
theorem tw14457758005677747962:True:=⟨⟩
theorem tw16452447596832230105:True:=⟨⟩
theorem tw15984706205718930553:True:=⟨⟩
theorem tw2852251193174398662:True:=⟨⟩
theorem tw6361450105264607166:True:=⟨⟩
theorem tw15510692781650021527:True:=⟨⟩
theorem tw12653679108036650311:True:=⟨⟩
theorem tw4156125974679941130:True:=⟨⟩
theorem tw9512817274939609580:True:=⟨⟩
theorem tw11239335112260394413:True:=⟨⟩
theorem tw4766233809647381661:True:=⟨⟩
theorem tw15294211896409635767:True:=⟨⟩
theorem tw10924716458440934090:True:=⟨⟩
theorem tw2287757881348798766:True:=⟨⟩
theorem tw9302470337196694018:True:=⟨⟩
theorem tw2724176850512262202:True:=⟨⟩
theorem tw7698036289167662538:True:=⟨⟩
theorem tw7237411587787531456:True:=⟨⟩
theorem tw17128291446047057950:True:=⟨⟩
theorem tw4452170602077327944:True:=⟨⟩
theorem tw5240779543111244032:True:=⟨⟩
theorem tw12885385263037960081:True:=⟨⟩
theorem tw11712081513822626495:True:=⟨⟩
theorem tw6663778134991626487:True:=⟨⟩
theorem tw1678875084529416142:True:=⟨⟩
theorem tw10876375607700338302:True:=⟨⟩
theorem tw11221353774195762014:True:=⟨⟩
theorem tw9376575566392132001:True:=⟨⟩
theorem tw8627561154394265716:True:=⟨⟩
theorem tw18238007617527299592:True:=⟨⟩
theorem tw13876859957761632879:True:=⟨⟩
theorem tw2714283472998740243:True:=⟨⟩
theorem tw15109750227778091905:True:=⟨⟩
theorem tw9925469786538053656:True:=⟨⟩
theorem tw10825838108423173272:True:=⟨⟩
theorem tw16008252555379753968:True:=⟨⟩
theorem tw5363903885879670357:True:=⟨⟩
theorem tw10149618387772673413:True:=⟨⟩
theorem tw4900431672193113347:True:=⟨⟩
theorem tw9121559901702372667:True:=⟨⟩
theorem tw13110577991587790113:True:=⟨⟩
theorem tw10821422270917381399:True:=⟨⟩
theorem tw6161133996638707016:True:=⟨⟩
theorem tw12431561837914552411:True:=⟨⟩
theorem tw7113585516715319716:True:=⟨⟩
theorem tw10707853282979444102:True:=⟨⟩
theorem tw4775608329324902142:True:=⟨⟩
theorem tw3958507339218470045:True:=⟨⟩
theorem tw15136431859952498927:True:=⟨⟩
theorem tw16218864148678617972:True:=⟨⟩
theorem tw17733843439050281438:True:=⟨⟩
theorem tw1429040668314091153:True:=⟨⟩
theorem tw11716418206903941319:True:=⟨⟩
theorem tw12732289081945773324:True:=⟨⟩
theorem tw5638201095994319732:True:=⟨⟩
theorem tw17974016328880235120:True:=⟨⟩
theorem tw13980345723018547825:True:=⟨⟩
theorem tw1270039299266317192:True:=⟨⟩
theorem tw13348322127785295214:True:=⟨⟩
theorem tw4038153913678941442:True:=⟨⟩
theorem tw17118054049896295152:True:=⟨⟩
theorem tw12747388180105724736:True:=⟨⟩
theorem tw7380652910202371479:True:=⟨⟩
theorem tw17272174723667511238:True:=⟨⟩
theorem tw14907226015203709474:True:=⟨⟩
theorem tw4500915450034043215:True:=⟨⟩
theorem tw1118068078248606362:True:=⟨⟩
theorem tw3027586509356016917:True:=⟨⟩
theorem tw14064073609400967072:True:=⟨⟩
theorem tw17737603089517620647:True:=⟨⟩
theorem tw892681787802806017:True:=⟨⟩
theorem tw10204856939554784155:True:=⟨⟩
theorem tw8809968196449919288:True:=⟨⟩
theorem tw6886502059237256666:True:=⟨⟩
theorem tw11857135199678951331:True:=⟨⟩
theorem tw5436791530062809996:True:=⟨⟩
theorem tw1453356044741674121:True:=⟨⟩
theorem tw16923884221124529275:True:=⟨⟩
theorem tw6565609875121592624:True:=⟨⟩
theorem tw6785657489111691699:True:=⟨⟩
theorem tw9417822746687237092:True:=⟨⟩
theorem tw15467891735981029475:True:=⟨⟩
theorem tw10455743928339290457:True:=⟨⟩
theorem tw2496676261509829067:True:=⟨⟩
theorem tw6519269512792494810:True:=⟨⟩
theorem tw5396188567872606041:True:=⟨⟩
theorem tw4324958949535026087:True:=⟨⟩
theorem tw8440099810896429113:True:=⟨⟩
theorem tw10123989817122485451:True:=⟨⟩
theorem tw14771111431291430275:True:=⟨⟩
theorem tw3583811862363856187:True:=⟨⟩
theorem tw4749052000479324790:True:=⟨⟩
theorem tw9369988214560726041:True:=⟨⟩
theorem tw1454224541498743561:True:=⟨⟩
theorem tw12922898485456448571:True:=⟨⟩
theorem tw104360540948158410:True:=⟨⟩
theorem tw7884331609784382070:True:=⟨⟩
theorem tw6237627108579964202:True:=⟨⟩
theorem tw8622488596692419469:True:=⟨⟩
theorem tw17298425922696826006:True:=⟨⟩
theorem tw6162249291895867263:True:=⟨⟩
theorem tw1677766988990989824:True:=⟨⟩
theorem tw7904437144335635152:True:=⟨⟩
theorem tw12800608258095302798:True:=⟨⟩
theorem tw9897820754763898449:True:=⟨⟩
theorem tw12590340796369385619:True:=⟨⟩
theorem tw17958375852430007124:True:=⟨⟩
theorem tw8663697691656813868:True:=⟨⟩
theorem tw15554039934745177238:True:=⟨⟩
theorem tw11735423636902730196:True:=⟨⟩
theorem tw15558288988949320067:True:=⟨⟩
theorem tw10864377008497418100:True:=⟨⟩
theorem tw7298748307773712898:True:=⟨⟩
theorem tw12455012482086183272:True:=⟨⟩
theorem tw11403851563620829512:True:=⟨⟩
theorem tw12361340156312767134:True:=⟨⟩
theorem tw10234815189450012239:True:=⟨⟩
theorem tw18134284020713443437:True:=⟨⟩
theorem tw2906824675625879941:True:=⟨⟩
theorem tw4605139254293405059:True:=⟨⟩
theorem tw13724616953566380437:True:=⟨⟩
theorem tw17091655785135471103:True:=⟨⟩
theorem tw8478376212529829071:True:=⟨⟩
theorem tw17353955331779342651:True:=⟨⟩
theorem tw11086099901593105684:True:=⟨⟩
theorem tw6541472054586571296:True:=⟨⟩
theorem tw5102693214775723256:True:=⟨⟩
theorem tw16451033083921036709:True:=⟨⟩
theorem tw9508770018378322450:True:=⟨⟩
theorem tw16572128252103988241:True:=⟨⟩
theorem tw9840939614602229412:True:=⟨⟩
theorem tw8467763312334707491:True:=⟨⟩
theorem tw5797031442667253490:True:=⟨⟩
theorem tw3829396358689915599:True:=⟨⟩
theorem tw18190005008629794160:True:=⟨⟩
theorem tw3314904115985164895:True:=⟨⟩
theorem tw9155575984036265788:True:=⟨⟩
theorem tw7590696779544312186:True:=⟨⟩
theorem tw5396361742852586263:True:=⟨⟩
theorem tw15270170921892066516:True:=⟨⟩
theorem tw17057053908230417247:True:=⟨⟩
theorem tw15595112118272840620:True:=⟨⟩
theorem tw65644731488775911:True:=⟨⟩
theorem tw5995161000843957690:True:=⟨⟩
theorem tw10642606787283503386:True:=⟨⟩
theorem tw10652863235454686790:True:=⟨⟩
theorem tw9498315638749924794:True:=⟨⟩
theorem tw17268439761433841065:True:=⟨⟩
theorem tw6690441779611380620:True:=⟨⟩
theorem tw7974275031393228247:True:=⟨⟩
theorem tw10453263994017694363:True:=⟨⟩
theorem tw12646911602827044314:True:=⟨⟩
theorem tw18063282731904131703:True:=⟨⟩
theorem tw1277820614484962519:True:=⟨⟩
theorem tw16320729459185622934:True:=⟨⟩
theorem tw13224007501803129859:True:=⟨⟩
theorem tw3706830351922483016:True:=⟨⟩
theorem tw973372806410652732:True:=⟨⟩
theorem tw17871620999419790863:True:=⟨⟩
theorem tw15649996292582860464:True:=⟨⟩
theorem tw11544348965984651327:True:=⟨⟩
theorem tw4026956272090484662:True:=⟨⟩
theorem tw17695171507069755227:True:=⟨⟩
theorem tw14161005256144132680:True:=⟨⟩
theorem tw365850788961202214:True:=⟨⟩
theorem tw16136984950599521427:True:=⟨⟩
theorem tw1587290215689348708:True:=⟨⟩
theorem tw5790326737455844299:True:=⟨⟩
theorem tw13547569757486424058:True:=⟨⟩
theorem tw1469836325065767749:True:=⟨⟩
theorem tw6697339332421208802:True:=⟨⟩
theorem tw14798791472264738832:True:=⟨⟩
theorem tw10663580350406149668:True:=⟨⟩
theorem tw1496695287857109588:True:=⟨⟩
theorem tw12222963475772708484:True:=⟨⟩
theorem tw5418533224930618480:True:=⟨⟩
theorem tw16008457594558532635:True:=⟨⟩
theorem tw73751810991705359:True:=⟨⟩
theorem tw1409966394225722968:True:=⟨⟩
theorem tw6183352029847204284:True:=⟨⟩
theorem tw2729793432009153956:True:=⟨⟩
theorem tw7186131708394509389:True:=⟨⟩
theorem tw13465503431842376007:True:=⟨⟩
theorem tw12941917028564957548:True:=⟨⟩
theorem tw7235775444256392728:True:=⟨⟩
theorem tw12543713266681445118:True:=⟨⟩
theorem tw13693970394777133609:True:=⟨⟩
theorem tw7268301785047649679:True:=⟨⟩
theorem tw6741292078354696603:True:=⟨⟩
theorem tw31828345220925962:True:=⟨⟩
theorem tw6674386428176565332:True:=⟨⟩
theorem tw15356762974548107741:True:=⟨⟩
theorem tw3627144658338631552:True:=⟨⟩
theorem tw1156462466702112376:True:=⟨⟩
theorem tw18120430973489738927:True:=⟨⟩
theorem tw15915093253319898290:True:=⟨⟩
theorem tw11135027115929721415:True:=⟨⟩
theorem tw4458048076830672230:True:=⟨⟩
theorem tw15608450976537380609:True:=⟨⟩
theorem tw4544244032028310869:True:=⟨⟩
theorem tw18218335207050127959:True:=⟨⟩
theorem tw10669944970481658594:True:=⟨⟩
theorem tw4297412468100583042:True:=⟨⟩
theorem tw6981815665589151136:True:=⟨⟩
theorem tw12702744160499308131:True:=⟨⟩
theorem tw8557395850702784662:True:=⟨⟩
theorem tw1306636233014830658:True:=⟨⟩
theorem tw5287059835090251167:True:=⟨⟩
theorem tw3466206800631347469:True:=⟨⟩
theorem tw4946776927847147119:True:=⟨⟩
theorem tw5203219222101121401:True:=⟨⟩
theorem tw2195194259037543316:True:=⟨⟩
theorem tw358491910552652209:True:=⟨⟩
theorem tw3045742163950154196:True:=⟨⟩
theorem tw5677329702179833609:True:=⟨⟩
theorem tw12909650291622432550:True:=⟨⟩
theorem tw10652611922669240339:True:=⟨⟩
theorem tw11554813239044494598:True:=⟨⟩
theorem tw10231336680788121439:True:=⟨⟩
theorem tw221909299271738847:True:=⟨⟩
theorem tw5160751907100791332:True:=⟨⟩
theorem tw16035907590883218939:True:=⟨⟩
theorem tw2279707942289718827:True:=⟨⟩
theorem tw15624239662980076321:True:=⟨⟩
theorem tw453184122279072053:True:=⟨⟩
theorem tw3570300971023340979:True:=⟨⟩
theorem tw11987853993630220354:True:=⟨⟩
theorem tw12027323910402764344:True:=⟨⟩
theorem tw11461230924637031220:True:=⟨⟩
theorem tw2583023086579268501:True:=⟨⟩
theorem tw5450094653865882931:True:=⟨⟩
theorem tw9563168847844234846:True:=⟨⟩
theorem tw10877679251791092727:True:=⟨⟩
theorem tw10114013102757674387:True:=⟨⟩
theorem tw962032349192862916:True:=⟨⟩
theorem tw12992176717851604617:True:=⟨⟩
theorem tw16305672181175384284:True:=⟨⟩
theorem tw16560978015359730151:True:=⟨⟩
theorem tw17450470499104002142:True:=⟨⟩
theorem tw7332330508316399935:True:=⟨⟩
theorem tw18178676814319149831:True:=⟨⟩
theorem tw917386388269078853:True:=⟨⟩
theorem tw3370190323706015969:True:=⟨⟩
theorem tw15131278010643852716:True:=⟨⟩
theorem tw12963715034210261037:True:=⟨⟩
theorem tw17453503289922162039:True:=⟨⟩
theorem tw12872379398031375081:True:=⟨⟩
theorem tw12839114828313443825:True:=⟨⟩
theorem tw9976160756891316704:True:=⟨⟩
theorem tw3613476055612923068:True:=⟨⟩
theorem tw1826329307503635854:True:=⟨⟩
theorem tw18315214858253571532:True:=⟨⟩
theorem tw8127475511531132179:True:=⟨⟩
theorem tw13227692790652741651:True:=⟨⟩
theorem tw7751025194823839400:True:=⟨⟩
theorem tw6044114016751833949:True:=⟨⟩
theorem tw8466321980469482115:True:=⟨⟩
theorem tw2759098988195820126:True:=⟨⟩
theorem tw2225956059507018244:True:=⟨⟩
theorem tw9483120023164983764:True:=⟨⟩
theorem tw10140136200207757160:True:=⟨⟩
theorem tw8436210846270712021:True:=⟨⟩
theorem tw10298723112805639129:True:=⟨⟩
theorem tw11501822485730972192:True:=⟨⟩
theorem tw16369043839104138342:True:=⟨⟩
theorem tw13503263706703578961:True:=⟨⟩
theorem tw6545385358150927430:True:=⟨⟩
theorem tw15342904991969174519:True:=⟨⟩
theorem tw4990475226369331113:True:=⟨⟩
theorem tw4650958065196391918:True:=⟨⟩
theorem tw14510055921401542917:True:=⟨⟩
theorem tw16832360635688203351:True:=⟨⟩
theorem tw10750994468655217958:True:=⟨⟩
theorem tw7647378279178456250:True:=⟨⟩
theorem tw16411370214107742406:True:=⟨⟩
theorem tw13838900630717943254:True:=⟨⟩
theorem tw14635473669698735251:True:=⟨⟩
theorem tw4651154628705390771:True:=⟨⟩
theorem tw13154647994248720538:True:=⟨⟩
theorem tw9368617206455126095:True:=⟨⟩
theorem tw9381277316556691805:True:=⟨⟩
theorem tw10363585996791799541:True:=⟨⟩
theorem tw7411558596216406370:True:=⟨⟩
theorem tw7846812961960373227:True:=⟨⟩
theorem tw9682133043923132273:True:=⟨⟩
theorem tw3298483428156984901:True:=⟨⟩
theorem tw6389877041954997217:True:=⟨⟩
theorem tw11752208632293872130:True:=⟨⟩
theorem tw17679725944135375923:True:=⟨⟩
theorem tw6596593509180878263:True:=⟨⟩
theorem tw18284262389922463811:True:=⟨⟩
theorem tw3532412968194664532:True:=⟨⟩
theorem tw4812270449578504274:True:=⟨⟩
theorem tw11962923498438245051:True:=⟨⟩
theorem tw8467378866343419333:True:=⟨⟩
theorem tw17402982504261768225:True:=⟨⟩
theorem tw2629084897520917108:True:=⟨⟩
theorem tw6053611964639427726:True:=⟨⟩
theorem tw8729708805864041840:True:=⟨⟩
theorem tw12273490649430754879:True:=⟨⟩
theorem tw452746233719593009:True:=⟨⟩
theorem tw5473700226181020891:True:=⟨⟩
theorem tw16356685582667847594:True:=⟨⟩
theorem tw8484041278411425421:True:=⟨⟩
theorem tw6508729118710982530:True:=⟨⟩
theorem tw3779293765908593550:True:=⟨⟩
theorem tw8844999433837080629:True:=⟨⟩
theorem tw716429049611869786:True:=⟨⟩
theorem tw12463224122652932544:True:=⟨⟩
theorem tw14492832472218066102:True:=⟨⟩
theorem tw8118072479153026202:True:=⟨⟩
theorem tw13626721169425172152:True:=⟨⟩
theorem tw17236958762192778904:True:=⟨⟩
theorem tw9957550378297406723:True:=⟨⟩
theorem tw16026485685270457870:True:=⟨⟩
theorem tw16689149305811164139:True:=⟨⟩
theorem tw302440914744352476:True:=⟨⟩
theorem tw2647654807098235363:True:=⟨⟩
theorem tw2456247091588846565:True:=⟨⟩
theorem tw11001617756164336837:True:=⟨⟩
theorem tw11410963132546700228:True:=⟨⟩
theorem tw11003572833241299968:True:=⟨⟩
theorem tw1519927702969063271:True:=⟨⟩
theorem tw13132915859168520264:True:=⟨⟩
theorem tw14061640607465278742:True:=⟨⟩
theorem tw4475767826048309731:True:=⟨⟩
theorem tw10665089971535097683:True:=⟨⟩
theorem tw10345001823751887135:True:=⟨⟩
theorem tw16950194794029067938:True:=⟨⟩
theorem tw750237026923860459:True:=⟨⟩
theorem tw1372806426800153423:True:=⟨⟩
theorem tw11982392923317675503:True:=⟨⟩
theorem tw13962693860625380366:True:=⟨⟩
theorem tw15060185592220127646:True:=⟨⟩
theorem tw15616905846011282308:True:=⟨⟩
theorem tw17223442867436993403:True:=⟨⟩
theorem tw18418235949754561950:True:=⟨⟩
theorem tw387501639795913443:True:=⟨⟩
theorem tw4817600198373253283:True:=⟨⟩
theorem tw7623511443260959870:True:=⟨⟩
theorem tw10047389527955405517:True:=⟨⟩
theorem tw1850612553970854742:True:=⟨⟩
theorem tw13667920496262714385:True:=⟨⟩
theorem tw14216407083858561409:True:=⟨⟩
theorem tw9808303207383738048:True:=⟨⟩
theorem tw11710404883906591787:True:=⟨⟩
theorem tw14639212616227390028:True:=⟨⟩
theorem tw3137596982192898869:True:=⟨⟩
theorem tw11916895729686876088:True:=⟨⟩
theorem tw18325589031809861271:True:=⟨⟩
theorem tw16187894506366716058:True:=⟨⟩
theorem tw6862492499505807319:True:=⟨⟩
theorem tw5400957986263281647:True:=⟨⟩
theorem tw6702130215012162313:True:=⟨⟩
theorem tw12139096438432415106:True:=⟨⟩
theorem tw2921621734765799159:True:=⟨⟩
theorem tw16686013560462362287:True:=⟨⟩
theorem tw7761410557224570781:True:=⟨⟩
theorem tw17864028415675338326:True:=⟨⟩
theorem tw15514936471743626214:True:=⟨⟩
theorem tw18431692314602308842:True:=⟨⟩
theorem tw3994622017586750766:True:=⟨⟩
theorem tw1777545030009416734:True:=⟨⟩
theorem tw10159738436595150677:True:=⟨⟩
theorem tw10094358506670053839:True:=⟨⟩
theorem tw16153842264607907944:True:=⟨⟩
theorem tw4948327476702027199:True:=⟨⟩
theorem tw12623159325031504133:True:=⟨⟩
theorem tw2538046985915079169:True:=⟨⟩
theorem tw765107192605250810:True:=⟨⟩
theorem tw17767330081159143506:True:=⟨⟩
theorem tw9515011664573035354:True:=⟨⟩
theorem tw7165207203227711834:True:=⟨⟩
theorem tw1261021989165538067:True:=⟨⟩
theorem tw471287901995484742:True:=⟨⟩
theorem tw4044139247061151142:True:=⟨⟩
theorem tw1615045767204293396:True:=⟨⟩
theorem tw8834365191522931223:True:=⟨⟩
theorem tw16676564476587882173:True:=⟨⟩
theorem tw18442785490491869365:True:=⟨⟩
theorem tw2007339730380871907:True:=⟨⟩
theorem tw13591255225166038476:True:=⟨⟩
theorem tw834873547066669988:True:=⟨⟩
theorem tw16819838333489098493:True:=⟨⟩
theorem tw52199770228462824:True:=⟨⟩
theorem tw17715262827843222689:True:=⟨⟩
theorem tw16251939892948500945:True:=⟨⟩
theorem tw13590572293223372214:True:=⟨⟩
theorem tw6385024630547198690:True:=⟨⟩
theorem tw8652556701797213591:True:=⟨⟩
theorem tw12751799325998411230:True:=⟨⟩
theorem tw9360745474812902239:True:=⟨⟩
theorem tw9942282790977331292:True:=⟨⟩
theorem tw7742616358663508648:True:=⟨⟩
theorem tw2433702464844828792:True:=⟨⟩
theorem tw1886080085820668685:True:=⟨⟩
theorem tw1099256609624015869:True:=⟨⟩
theorem tw1253437644075932092:True:=⟨⟩
theorem tw3796207824708393856:True:=⟨⟩
theorem tw13803360072150633466:True:=⟨⟩
theorem tw5061512775090418087:True:=⟨⟩
theorem tw17438294365789470252:True:=⟨⟩
theorem tw832900586485598795:True:=⟨⟩
theorem tw6912675738884088206:True:=⟨⟩
theorem tw6584820252761975732:True:=⟨⟩
theorem tw2524017781993486291:True:=⟨⟩
theorem tw15465920861327815835:True:=⟨⟩
theorem tw13642826006792871662:True:=⟨⟩
theorem tw5665406974723832613:True:=⟨⟩
theorem tw7430614337340543001:True:=⟨⟩
theorem tw15491723280356408159:True:=⟨⟩
theorem tw962193829226610041:True:=⟨⟩
theorem tw12483276189755474720:True:=⟨⟩
theorem tw8952462522180670554:True:=⟨⟩
theorem tw13154001654789283132:True:=⟨⟩
theorem tw4585930131862741453:True:=⟨⟩
theorem tw66260789543402106:True:=⟨⟩
theorem tw15643365686152983790:True:=⟨⟩
theorem tw7074144079889050967:True:=⟨⟩
theorem tw18031918436515192882:True:=⟨⟩
theorem tw11815829001073249272:True:=⟨⟩
theorem tw1628013610222277130:True:=⟨⟩
theorem tw13313126695403321540:True:=⟨⟩
theorem tw8207831470162742035:True:=⟨⟩
theorem tw14336152960031413752:True:=⟨⟩
theorem tw14009396871252706886:True:=⟨⟩
theorem tw16721930046160240684:True:=⟨⟩
theorem tw12298629886278197574:True:=⟨⟩
theorem tw656089360051881306:True:=⟨⟩
theorem tw10463206416058312583:True:=⟨⟩
theorem tw5517759331935216279:True:=⟨⟩
theorem tw12900284412222446716:True:=⟨⟩
theorem tw18421580907717582127:True:=⟨⟩
theorem tw2566753976717531306:True:=⟨⟩
theorem tw3343439749351644125:True:=⟨⟩
theorem tw6449824600675878752:True:=⟨⟩
theorem tw48596604365144762:True:=⟨⟩
theorem tw6112859857366181021:True:=⟨⟩
theorem tw10169072693733980587:True:=⟨⟩
theorem tw16193401482309157537:True:=⟨⟩
theorem tw15589955886551607785:True:=⟨⟩
theorem tw12564604832814323664:True:=⟨⟩
theorem tw13402765919934010277:True:=⟨⟩
theorem tw2190695567426971638:True:=⟨⟩
theorem tw16959884160788844718:True:=⟨⟩
theorem tw11261727412033496967:True:=⟨⟩
theorem tw18403998269306519403:True:=⟨⟩
theorem tw2921958311620399285:True:=⟨⟩
theorem tw14909365282108701170:True:=⟨⟩
theorem tw5649967823195072380:True:=⟨⟩
theorem tw15365013842991253249:True:=⟨⟩
theorem tw17665120845849184447:True:=⟨⟩
theorem tw3549514262204291990:True:=⟨⟩
theorem tw1157997071576566072:True:=⟨⟩
theorem tw3234112476842188716:True:=⟨⟩
theorem tw2702614204127132176:True:=⟨⟩
theorem tw12093647306153771053:True:=⟨⟩
theorem tw16480584520131690045:True:=⟨⟩
theorem tw6788695710022549768:True:=⟨⟩
theorem tw12915833801598196605:True:=⟨⟩
theorem tw14439473939278146460:True:=⟨⟩
theorem tw3934531018447913466:True:=⟨⟩
theorem tw9756827057097773860:True:=⟨⟩
theorem tw9681375758050803366:True:=⟨⟩
theorem tw8930851030842425676:True:=⟨⟩
theorem tw15079240505294077160:True:=⟨⟩
theorem tw1027651156746619712:True:=⟨⟩
theorem tw13350764725976880583:True:=⟨⟩
theorem tw7083192437325867461:True:=⟨⟩
theorem tw9274054859765456524:True:=⟨⟩
theorem tw9392487213469676918:True:=⟨⟩
theorem tw9658885295015712986:True:=⟨⟩
theorem tw3626430660855392483:True:=⟨⟩
theorem tw8475525182357872103:True:=⟨⟩
theorem tw15768048840197415361:True:=⟨⟩
theorem tw15410482203810522393:True:=⟨⟩
theorem tw9561784451562097942:True:=⟨⟩
theorem tw11251407683458634364:True:=⟨⟩
theorem tw11349898740250378076:True:=⟨⟩
theorem tw8905464785575363620:True:=⟨⟩
theorem tw17477492558424962760:True:=⟨⟩
theorem tw8947760058931562597:True:=⟨⟩
theorem tw6880717277089553138:True:=⟨⟩
theorem tw12252054271945606052:True:=⟨⟩
theorem tw8117353328203792591:True:=⟨⟩
theorem tw6635558491612396129:True:=⟨⟩
theorem tw10199874654664476236:True:=⟨⟩
theorem tw4189750870438640210:True:=⟨⟩
theorem tw16922381011570985944:True:=⟨⟩
theorem tw13113777628852026922:True:=⟨⟩
theorem tw13260870731297125680:True:=⟨⟩
theorem tw9272984997812220495:True:=⟨⟩
theorem tw17725498274588495791:True:=⟨⟩
theorem tw1900339198761634783:True:=⟨⟩
theorem tw5665735395497279834:True:=⟨⟩
theorem tw1178595665728414349:True:=⟨⟩
theorem tw2110754180369666209:True:=⟨⟩
theorem tw3864431920445960829:True:=⟨⟩
theorem tw4839478117068044826:True:=⟨⟩
theorem tw6164561884633627433:True:=⟨⟩
theorem tw11595355409239048105:True:=⟨⟩
theorem tw17201416709059790184:True:=⟨⟩
theorem tw14106445559736802775:True:=⟨⟩
theorem tw14097447854668400296:True:=⟨⟩
theorem tw3557749057250611081:True:=⟨⟩
theorem tw330327031418712150:True:=⟨⟩
theorem tw13676971244355772609:True:=⟨⟩
theorem tw12927740378394474205:True:=⟨⟩
theorem tw9557352009045844224:True:=⟨⟩
theorem tw5181119749688162637:True:=⟨⟩
theorem tw3454311308915712629:True:=⟨⟩
theorem tw9069182735580402390:True:=⟨⟩
theorem tw1130211791997205004:True:=⟨⟩
theorem tw1980160206288974728:True:=⟨⟩
theorem tw11374851513655246148:True:=⟨⟩
theorem tw16656740534632174751:True:=⟨⟩
theorem tw14722489848711283861:True:=⟨⟩
theorem tw10876229203375891673:True:=⟨⟩
theorem tw6910295442248876197:True:=⟨⟩
theorem tw13841662599370971200:True:=⟨⟩
theorem tw15928290008803537013:True:=⟨⟩
theorem tw7173623326730630234:True:=⟨⟩
theorem tw15616401959046598769:True:=⟨⟩
theorem tw14646587721710459877:True:=⟨⟩
theorem tw799486724532869496:True:=⟨⟩
theorem tw7691172733374981047:True:=⟨⟩
theorem tw6222487380544312443:True:=⟨⟩
theorem tw14788915703135433725:True:=⟨⟩
theorem tw14168887731352723522:True:=⟨⟩
theorem tw5240536507193477226:True:=⟨⟩
theorem tw14672674291997333471:True:=⟨⟩
theorem tw15734200111481486640:True:=⟨⟩
theorem tw5309058905264134205:True:=⟨⟩
theorem tw9470667924834194258:True:=⟨⟩
theorem tw545269030811804461:True:=⟨⟩
theorem tw5532463470591059822:True:=⟨⟩
theorem tw8991296924501042589:True:=⟨⟩
theorem tw13180746182150919023:True:=⟨⟩
theorem tw9670510015898674028:True:=⟨⟩
theorem tw6418098437765475518:True:=⟨⟩
theorem tw9189880136782149556:True:=⟨⟩
theorem tw7875838824674609581:True:=⟨⟩
theorem tw6657087868060814:True:=⟨⟩
theorem tw16952715711813285254:True:=⟨⟩
theorem tw6660377722381337597:True:=⟨⟩
theorem tw5234446048077146213:True:=⟨⟩
theorem tw5401703158475992631:True:=⟨⟩
theorem tw11774690029378154688:True:=⟨⟩
theorem tw16320215318167395912:True:=⟨⟩
theorem tw1645717771770832407:True:=⟨⟩
theorem tw1390771862084280389:True:=⟨⟩
theorem tw13157206579259725088:True:=⟨⟩
end main
set_option Elab.async true in
set_option maxHeartbeats 8000000 in
theorem main : PySem.Challenge.rw_xw0340_01.Holds := by
  w_on; o_law; o_head (kHook Mine.hd.heap_1 [2, 3, 15, 17, 18, 20, 21, 29, 30, 32, 33, 35, 36, 37, 39, 40, 42, 43, 44, 46, 47, 49, 50, 51, 53, 54, 56, 57, 58, 60, 61, 63, 64, 65, 67, 68, 70, 71, 72, 73, 74, 75, 76, 86, 88, 89, 91, 92, 93, 95, 96, 98, 99, 100, 102, 103, 105, 106, 107, 109, 110, 112, 113, 114, 116, 117, 119, 120, 121, 122, 123, 124, 125, 135, 137, 138, 140, 141, 142, 144, 145, 147, 148, 149, 151, 152, 154, 155, 156, 158, 159, 161, 162, 163, 165, 166, 168, 169, 170, 172, 173, 175, 176, 177, 179, 180, 182, 183, 184, 186, 187, 189, 190, 191, 193, 194, 196, 197, 198, 199, 200, 201, 202, 212, 214, 215, 217, 218, 219, 220, 221, 222, 223, 233, 234, 236, 237, 239, 240, 241, 243, 244, 246, 247, 248, 250, 251, 253, 254, 255, 257, 258, 260, 261, 262, 264, 265, 267, 268, 269, 271, 272, 274, 275, 276, 278, 279, 281, 282, 283, 285, 286, 288, 289, 290, 292, 293, 295, 296, 297, 299, 300, 302, 303, 304, 306, 307, 309, 310, 311, 313, 314, 316, 317, 318, 320, 321, 323, 324, 325, 326, 328, 329, 331, 332, 333, 335, 336, 338, 339, 340, 342, 343, 345, 346, 347, 348, 349, 350, 351, 361, 363, 364, 366, 367, 368, 370, 371, 373, 374, 375, 377, 378, 380, 381, 382, 384, 385, 387, 388, 389, 391, 392, 394, 395, 396, 397, 398, 399, 400, 410, 412, 413, 415, 416, 417, 419, 420, 422, 423, 424, 426, 427, 429, 430, 431, 433, 434, 436, 437, 438, 441, 442, 443, 445, 446, 448, 449, 450, 451, 452, 453, 454, 457, 459, 460, 462, 463, 464, 466, 467, 469, 470, 471, 473, 474, 476, 477, 485, 486, 488, 489, 491, 492, 493, 495, 496, 498, 499, 500, 503, 504, 505, 507, 508, 510, 511, 512, 514, 515, 517, 518, 519, 521, 522, 524, 525, 526, 528, 529, 531, 532, 533, 534, 535, 536, 537, 540, 542, 543, 545, 546, 547, 549, 550, 552, 553, 554, 556, 557, 559, 560, 561, 563, 564, 566, 567, 568, 571, 572, 573, 575, 576, 578, 579, 580, 582, 583, 585, 586, 587, 590, 591] (fun _ => by kernel_rfl)); (case hw => w_witness2)
  w_strict (
    k_fill
    intro w s₀ s₁ mg mb G Y fa o pm cd doc dV kV ho hd hcd hD hmg hg args vals as hpre hlay hrd hwl hlo
    have KX := kIn_of Y
    have X := (Ground.X G).1
    have V := (Ground.X G).2
    try w_nolog (first | (have GL := glob_more (Ground.glob G (by first | k_qdec | decide +kernel) (by first | k_qdec | decide +kernel)) V) | (have GL := glob_more (Ground.glob G (by decide +kernel)) V))
    refine Ground.open G ?_
    intro T B D TE TW
    try (refine guard_noD D (by decide +kernel) ?_; clear D)
    obtain ⟨_, _, M⟩ := bmod_of_top T
    have TA := at_of_top T
    try (obtain ⟨_, _, he, B0⟩ := based_of_top T rfl hmg ho hd; have he' : cd = _ := he; subst he'; clear he)
    have hmg0 := hmg
    wrow_args hpre hlay hrd hwl hlo
    have e1 : mg (Str.ofString "law") = some (Value.ref 591) := mg_of KX T.g (by k_is)
    have e2 : fa = 591 := by
      have e3 : some (Value.ref fa) = some (Value.ref 591) := (show mg (Str.ofString "law") = some (Value.ref fa) from hmg0).symm.trans e1
      injection e3 with e4
      injection e4
    subst e2
    clear hmg0 e1
    refine law_spec KX T (by assumption) (by assumption) (by omega) fun L h' m' tk' F => ?_
    wrow_closeG)
end Mine
theorem PySem.Challenge.cw_xw0340_01_holds : PySem.Challenge.rw_xw0340_01.Holds := by
  exact Mine.main
