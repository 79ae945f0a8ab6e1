import PyProof.Rows.All
import Wide.All
import Open.Line
import OpenK.KCall
import OpenK.KMake
import OpenK.KMore
import OpenK.KMeth
import OpenK.KDict
import OpenK.KList
import OpenK.KOps
import OpenK.KTop
import OpenK.KWalk
import OpenK.TopRead
import Wide.FinOn
import KE.KSortTup
import KE.KBoundM
import PySem.Challenge.RW_qz0012_02
open PySem PySem.W PySem.Calls PyProof.Rows PySem.SeqAt
set_option Elab.async false
set_option linter.unusedVariables false
set_option linter.unusedSimpArgs false
set_option linter.deprecated false
set_option maxRecDepth 100000
set_option maxHeartbeats 8000000
set_option genSizeOfSpec false
namespace Mine
@[elab_as_elim] theorem rwE {α : Sort u} {b : α} {P : α → Prop} {a : α} (x : P b) (h : a = b) : P a := h ▸ x
@[elab_as_elim] theorem rwI {b : Prop} {P : Prop → Prop} {a : Prop} (x : P b) (h : a ↔ b) : P a := rwE x (propext h)
@[elab_as_elim] theorem inj1 {x y : α} {P : α → Prop} (t : P x) (h : some x = some y) : P y := rwE t (Option.some.inj h).symm
@[elab_as_elim] theorem inj2 {x y : α} {z w : β} {P : α → β → Prop} (t : P x z) (h : some (x, z) = some (y, w)) : P y w := by cases h; exact t
@[elab_as_elim] theorem inj3 {x y : α} {z w : β} {u v : γ} {P : α → β → γ → Prop} (t : P x z u) (h : some (x, z, u) = some (y, w, v)) : P y w v := by cases h; exact t
@[elab_as_elim] theorem rwB {α : Sort u} {a : α} {P : α → Prop} {b : α} (x : P a) (h : a = b) : P b := h ▸ x
section
variable {P : Prop}
theorem o02 {A B : Prop} (h : A ∧ B) (f : A → B → P) : P := f h.1 h.2
theorem o03 {A B C : Prop} (h : A ∧ B ∧ C) (f : A → B → C → P) : P := f h.1 h.2.1 h.2.2
theorem o04 {A B C D : Prop} (h : A ∧ B ∧ C ∧ D) (f : A → B → C → D → P) : P := f h.1 h.2.1 h.2.2.1 h.2.2.2
theorem o05 {A B C D E : Prop} (h : A ∧ B ∧ C ∧ D ∧ E) (f : A → B → C → D → E → P) : P := f h.1 h.2.1 h.2.2.1 h.2.2.2.1 h.2.2.2.2
theorem o06 {A B C D E F : Prop} (h : A ∧ B ∧ C ∧ D ∧ E ∧ F) (f : A → B → C → D → E → F → P) : P := f h.1 h.2.1 h.2.2.1 h.2.2.2.1 h.2.2.2.2.1 h.2.2.2.2.2
theorem o07 {A B C D E F G : Prop} (h : A ∧ B ∧ C ∧ D ∧ E ∧ F ∧ G) (f : A → B → C → D → E → F → G → P) : P := f h.1 h.2.1 h.2.2.1 h.2.2.2.1 h.2.2.2.2.1 h.2.2.2.2.2.1 h.2.2.2.2.2.2
theorem o08 {A B C D E F G H : Prop} (h : A ∧ B ∧ C ∧ D ∧ E ∧ F ∧ G ∧ H) (f : A → B → C → D → E → F → G → H → P) : P := f h.1 h.2.1 h.2.2.1 h.2.2.2.1 h.2.2.2.2.1 h.2.2.2.2.2.1 h.2.2.2.2.2.2.1 h.2.2.2.2.2.2.2
theorem o09 {A B C D E F G H I : Prop} (h : A ∧ B ∧ C ∧ D ∧ E ∧ F ∧ G ∧ H ∧ I) (f : A → B → C → D → E → F → G → H → I → P) : P := f h.1 h.2.1 h.2.2.1 h.2.2.2.1 h.2.2.2.2.1 h.2.2.2.2.2.1 h.2.2.2.2.2.2.1 h.2.2.2.2.2.2.2.1 h.2.2.2.2.2.2.2.2
theorem o11 {A : a → Prop} (h : ∃ x, A x) (f : ∀ x, A x → P) : P := h.elim f
theorem o12 {A B : a → Prop} (h : ∃ x, A x ∧ B x) (f : ∀ x, A x → B x → P) : P := h.elim fun x h => o02 h (f x)
theorem o13 {A B C : a → Prop} (h : ∃ x, A x ∧ B x ∧ C x) (f : ∀ x, A x → B x → C x → P) : P := h.elim fun x h => o03 h (f x)
theorem o14 {A B C D : a → Prop} (h : ∃ x, A x ∧ B x ∧ C x ∧ D x) (f : ∀ x, A x → B x → C x → D x → P) : P := h.elim fun x h => o04 h (f x)
theorem o15 {A B C D E : a → Prop} (h : ∃ x, A x ∧ B x ∧ C x ∧ D x ∧ E x) (f : ∀ x, A x → B x → C x → D x → E x → P) : P := h.elim fun x h => o05 h (f x)
theorem o16 {A B C D E F : a → Prop} (h : ∃ x, A x ∧ B x ∧ C x ∧ D x ∧ E x ∧ F x) (f : ∀ x, A x → B x → C x → D x → E x → F x → P) : P := h.elim fun x h => o06 h (f x)
theorem o17 {A B C D E F G : a → Prop} (h : ∃ x, A x ∧ B x ∧ C x ∧ D x ∧ E x ∧ F x ∧ G x) (f : ∀ x, A x → B x → C x → D x → E x → F x → G x → P) : P := h.elim fun x h => o07 h (f x)
theorem o18 {A B C D E F G H : a → Prop} (h : ∃ x, A x ∧ B x ∧ C x ∧ D x ∧ E x ∧ F x ∧ G x ∧ H x) (f : ∀ x, A x → B x → C x → D x → E x → F x → G x → H x → P) : P := h.elim fun x h => o08 h (f x)
theorem o19 {A B C D E F G H I : a → Prop} (h : ∃ x, A x ∧ B x ∧ C x ∧ D x ∧ E x ∧ F x ∧ G x ∧ H x ∧ I x) (f : ∀ x, A x → B x → C x → D x → E x → F x → G x → H x → I x → P) : P := h.elim fun x h => o09 h (f x)
theorem o21 {A : a → b → Prop} (h : ∃ x y, A x y) (f : ∀ x y, A x y → P) : P := h.elim fun x h => o11 h (f x)
theorem o22 {A B : a → b → Prop} (h : ∃ x y, A x y ∧ B x y) (f : ∀ x y, A x y → B x y → P) : P := h.elim fun x h => o12 h (f x)
theorem o23 {A B C : a → b → Prop} (h : ∃ x y, A x y ∧ B x y ∧ C x y) (f : ∀ x y, A x y → B x y → C x y → P) : P := h.elim fun x h => o13 h (f x)
theorem o24 {A B C D : a → b → Prop} (h : ∃ x y, A x y ∧ B x y ∧ C x y ∧ D x y) (f : ∀ x y, A x y → B x y → C x y → D x y → P) : P := h.elim fun x h => o14 h (f x)
theorem o25 {A B C D E : a → b → Prop} (h : ∃ x y, A x y ∧ B x y ∧ C x y ∧ D x y ∧ E x y) (f : ∀ x y, A x y → B x y → C x y → D x y → E x y → P) : P := h.elim fun x h => o15 h (f x)
theorem o26 {A B C D E F : a → b → Prop} (h : ∃ x y, A x y ∧ B x y ∧ C x y ∧ D x y ∧ E x y ∧ F x y) (f : ∀ x y, A x y → B x y → C x y → D x y → E x y → F x y → P) : P := h.elim fun x h => o16 h (f x)
theorem o27 {A B C D E F G : a → b → Prop} (h : ∃ x y, A x y ∧ B x y ∧ C x y ∧ D x y ∧ E x y ∧ F x y ∧ G x y) (f : ∀ x y, A x y → B x y → C x y → D x y → E x y → F x y → G x y → P) : P := h.elim fun x h => o17 h (f x)
theorem o28 {A B C D E F G H : a → b → Prop} (h : ∃ x y, A x y ∧ B x y ∧ C x y ∧ D x y ∧ E x y ∧ F x y ∧ G x y ∧ H x y) (f : ∀ x y, A x y → B x y → C x y → D x y → E x y → F x y → G x y → H x y → P) : P := h.elim fun x h => o18 h (f x)
theorem o29 {A B C D E F G H I : a → b → Prop} (h : ∃ x y, A x y ∧ B x y ∧ C x y ∧ D x y ∧ E x y ∧ F x y ∧ G x y ∧ H x y ∧ I x y) (f : ∀ x y, A x y → B x y → C x y → D x y → E x y → F x y → G x y → H x y → I x y → P) : P := h.elim fun x h => o19 h (f x)
theorem o31 {A : a → b → c → Prop} (h : ∃ x y z, A x y z) (f : ∀ x y z, A x y z → P) : P := h.elim fun x h => o21 h (f x)
theorem o32 {A B : a → b → c → Prop} (h : ∃ x y z, A x y z ∧ B x y z) (f : ∀ x y z, A x y z → B x y z → P) : P := h.elim fun x h => o22 h (f x)
theorem o33 {A B C : a → b → c → Prop} (h : ∃ x y z, A x y z ∧ B x y z ∧ C x y z) (f : ∀ x y z, A x y z → B x y z → C x y z → P) : P := h.elim fun x h => o23 h (f x)
theorem o34 {A B C D : a → b → c → Prop} (h : ∃ x y z, A x y z ∧ B x y z ∧ C x y z ∧ D x y z) (f : ∀ x y z, A x y z → B x y z → C x y z → D x y z → P) : P := h.elim fun x h => o24 h (f x)
theorem o35 {A B C D E : a → b → c → Prop} (h : ∃ x y z, A x y z ∧ B x y z ∧ C x y z ∧ D x y z ∧ E x y z) (f : ∀ x y z, A x y z → B x y z → C x y z → D x y z → E x y z → P) : P := h.elim fun x h => o25 h (f x)
theorem o36 {A B C D E F : a → b → c → Prop} (h : ∃ x y z, A x y z ∧ B x y z ∧ C x y z ∧ D x y z ∧ E x y z ∧ F x y z) (f : ∀ x y z, A x y z → B x y z → C x y z → D x y z → E x y z → F x y z → P) : P := h.elim fun x h => o26 h (f x)
theorem o37 {A B C D E F G : a → b → c → Prop} (h : ∃ x y z, A x y z ∧ B x y z ∧ C x y z ∧ D x y z ∧ E x y z ∧ F x y z ∧ G x y z) (f : ∀ x y z, A x y z → B x y z → C x y z → D x y z → E x y z → F x y z → G x y z → P) : P := h.elim fun x h => o27 h (f x)
theorem o38 {A B C D E F G H : a → b → c → Prop} (h : ∃ x y z, A x y z ∧ B x y z ∧ C x y z ∧ D x y z ∧ E x y z ∧ F x y z ∧ G x y z ∧ H x y z) (f : ∀ x y z, A x y z → B x y z → C x y z → D x y z → E x y z → F x y z → G x y z → H x y z → P) : P := h.elim fun x h => o28 h (f x)
theorem o39 {A B C D E F G H I : a → b → c → Prop} (h : ∃ x y z, A x y z ∧ B x y z ∧ C x y z ∧ D x y z ∧ E x y z ∧ F x y z ∧ G x y z ∧ H x y z ∧ I x y z) (f : ∀ x y z, A x y z → B x y z → C x y z → D x y z → E x y z → F x y z → G x y z → H x y z → I x y z → P) : P := h.elim fun x h => o29 h (f x)
theorem o41 {A : a → b → c → d → Prop} (h : ∃ x y z w, A x y z w) (f : ∀ x y z w, A x y z w → P) : P := h.elim fun x h => o31 h (f x)
theorem o42 {A B : a → b → c → d → Prop} (h : ∃ x y z w, A x y z w ∧ B x y z w) (f : ∀ x y z w, A x y z w → B x y z w → P) : P := h.elim fun x h => o32 h (f x)
theorem o43 {A B C : a → b → c → d → Prop} (h : ∃ x y z w, A x y z w ∧ B x y z w ∧ C x y z w) (f : ∀ x y z w, A x y z w → B x y z w → C x y z w → P) : P := h.elim fun x h => o33 h (f x)
theorem o44 {A B C D : a → b → c → d → Prop} (h : ∃ x y z w, A x y z w ∧ B x y z w ∧ C x y z w ∧ D x y z w) (f : ∀ x y z w, A x y z w → B x y z w → C x y z w → D x y z w → P) : P := h.elim fun x h => o34 h (f x)
theorem o45 {A B C D E : a → b → c → d → Prop} (h : ∃ x y z w, A x y z w ∧ B x y z w ∧ C x y z w ∧ D x y z w ∧ E x y z w) (f : ∀ x y z w, A x y z w → B x y z w → C x y z w → D x y z w → E x y z w → P) : P := h.elim fun x h => o35 h (f x)
theorem o46 {A B C D E F : a → b → c → d → Prop} (h : ∃ x y z w, A x y z w ∧ B x y z w ∧ C x y z w ∧ D x y z w ∧ E x y z w ∧ F x y z w) (f : ∀ x y z w, A x y z w → B x y z w → C x y z w → D x y z w → E x y z w → F x y z w → P) : P := h.elim fun x h => o36 h (f x)
theorem o47 {A B C D E F G : a → b → c → d → Prop} (h : ∃ x y z w, A x y z w ∧ B x y z w ∧ C x y z w ∧ D x y z w ∧ E x y z w ∧ F x y z w ∧ G x y z w) (f : ∀ x y z w, A x y z w → B x y z w → C x y z w → D x y z w → E x y z w → F x y z w → G x y z w → P) : P := h.elim fun x h => o37 h (f x)
theorem o48 {A B C D E F G H : a → b → c → d → Prop} (h : ∃ x y z w, A x y z w ∧ B x y z w ∧ C x y z w ∧ D x y z w ∧ E x y z w ∧ F x y z w ∧ G x y z w ∧ H x y z w) (f : ∀ x y z w, A x y z w → B x y z w → C x y z w → D x y z w → E x y z w → F x y z w → G x y z w → H x y z w → P) : P := h.elim fun x h => o38 h (f x)
theorem o49 {A B C D E F G H I : a → b → c → d → Prop} (h : ∃ x y z w, A x y z w ∧ B x y z w ∧ C x y z w ∧ D x y z w ∧ E x y z w ∧ F x y z w ∧ G x y z w ∧ H x y z w ∧ I x y z w) (f : ∀ x y z w, A x y z w → B x y z w → C x y z w → D x y z w → E x y z w → F x y z w → G x y z w → H x y z w → I x y z w → P) : P := h.elim fun x h => o39 h (f x)
theorem o51 {A : a → b → c → d → e → Prop} (h : ∃ x y z w u, A x y z w u) (f : ∀ x y z w u, A x y z w u → P) : P := h.elim fun x h => o41 h (f x)
theorem o53 {A B C : a → b → c → d → e → Prop} (h : ∃ x y z w u, A x y z w u ∧ B x y z w u ∧ C x y z w u) (f : ∀ x y z w u, A x y z w u → B x y z w u → C x y z w u → P) : P := h.elim fun x h => o43 h (f x)
theorem o55 {A B C D E : a → b → c → d → e → Prop} (h : ∃ x y z w u, A x y z w u ∧ B x y z w u ∧ C x y z w u ∧ D x y z w u ∧ E x y z w u) (f : ∀ x y z w u, A x y z w u → B x y z w u → C x y z w u → D x y z w u → E x y z w u → P) : P := h.elim fun x h => o45 h (f x)
theorem o56 {A B C D E F : a → b → c → d → e → Prop} (h : ∃ x y z w u, A x y z w u ∧ B x y z w u ∧ C x y z w u ∧ D x y z w u ∧ E x y z w u ∧ F x y z w u) (f : ∀ x y z w u, A x y z w u → B x y z w u → C x y z w u → D x y z w u → E x y z w u → F x y z w u → P) : P := h.elim fun x h => o46 h (f x)
theorem o61 {A : a → b → c → d → e → g → Prop} (h : ∃ x y z w u v, A x y z w u v) (f : ∀ x y z w u v, A x y z w u v → P) : P := h.elim fun x h => o51 h (f x)
theorem o63 {A B C : a → b → c → d → e → g → Prop} (h : ∃ x y z w u v, A x y z w u v ∧ B x y z w u v ∧ C x y z w u v) (f : ∀ x y z w u v, A x y z w u v → B x y z w u v → C x y z w u v → P) : P := h.elim fun x h => o53 h (f x)
theorem o71 {A : a → b → c → d → e → g → i → Prop} (h : ∃ x y z w u v r, A x y z w u v r) (f : ∀ x y z w u v r, A x y z w u v r → P) : P := h.elim fun x h => o61 h (f x)
theorem i12 {A B : a → Prop} (x) (hA : A x) (hB : B x) : ∃ x, A x ∧ B x := ⟨x, hA, hB⟩
theorem i13 {A B C : a → Prop} (x) (hA : A x) (hB : B x) (hC : C x) : ∃ x, A x ∧ B x ∧ C x := ⟨x, hA, hB, hC⟩
theorem i14 {A B C D : a → Prop} (x) (hA : A x) (hB : B x) (hC : C x) (hD : D x) : ∃ x, A x ∧ B x ∧ C x ∧ D x := ⟨x, hA, hB, hC, hD⟩
theorem i15 {A B C D E : a → Prop} (x) (hA : A x) (hB : B x) (hC : C x) (hD : D x) (hE : E x) : ∃ x, A x ∧ B x ∧ C x ∧ D x ∧ E x := ⟨x, hA, hB, hC, hD, hE⟩
theorem i16 {A B C D E F : a → Prop} (x) (hA : A x) (hB : B x) (hC : C x) (hD : D x) (hE : E x) (hF : F x) : ∃ x, A x ∧ B x ∧ C x ∧ D x ∧ E x ∧ F x := ⟨x, hA, hB, hC, hD, hE, hF⟩
theorem i17 {A B C D E F G : a → Prop} (x) (hA : A x) (hB : B x) (hC : C x) (hD : D x) (hE : E x) (hF : F x) (hG : G x) : ∃ x, A x ∧ B x ∧ C x ∧ D x ∧ E x ∧ F x ∧ G x := ⟨x, hA, hB, hC, hD, hE, hF, hG⟩
theorem i18 {A B C D E F G H : a → Prop} (x) (hA : A x) (hB : B x) (hC : C x) (hD : D x) (hE : E x) (hF : F x) (hG : G x) (hH : H x) : ∃ x, A x ∧ B x ∧ C x ∧ D x ∧ E x ∧ F x ∧ G x ∧ H x := ⟨x, hA, hB, hC, hD, hE, hF, hG, hH⟩
theorem i19 {A B C D E F G H I : a → Prop} (x) (hA : A x) (hB : B x) (hC : C x) (hD : D x) (hE : E x) (hF : F x) (hG : G x) (hH : H x) (hI : I x) : ∃ x, A x ∧ B x ∧ C x ∧ D x ∧ E x ∧ F x ∧ G x ∧ H x ∧ I x := ⟨x, hA, hB, hC, hD, hE, hF, hG, hH, hI⟩
theorem i21 {A : a → b → Prop} (x y) (hA : A x y) : ∃ x y, A x y := ⟨x, y, hA⟩
theorem i22 {A B : a → b → Prop} (x y) (hA : A x y) (hB : B x y) : ∃ x y, A x y ∧ B x y := ⟨x, i12 y hA hB⟩
theorem i23 {A B C : a → b → Prop} (x y) (hA : A x y) (hB : B x y) (hC : C x y) : ∃ x y, A x y ∧ B x y ∧ C x y := ⟨x, i13 y hA hB hC⟩
theorem i24 {A B C D : a → b → Prop} (x y) (hA : A x y) (hB : B x y) (hC : C x y) (hD : D x y) : ∃ x y, A x y ∧ B x y ∧ C x y ∧ D x y := ⟨x, i14 y hA hB hC hD⟩
theorem i25 {A B C D E : a → b → Prop} (x y) (hA : A x y) (hB : B x y) (hC : C x y) (hD : D x y) (hE : E x y) : ∃ x y, A x y ∧ B x y ∧ C x y ∧ D x y ∧ E x y := ⟨x, i15 y hA hB hC hD hE⟩
theorem i26 {A B C D E F : a → b → Prop} (x y) (hA : A x y) (hB : B x y) (hC : C x y) (hD : D x y) (hE : E x y) (hF : F x y) : ∃ x y, A x y ∧ B x y ∧ C x y ∧ D x y ∧ E x y ∧ F x y := ⟨x, i16 y hA hB hC hD hE hF⟩
theorem i27 {A B C D E F G : a → b → Prop} (x y) (hA : A x y) (hB : B x y) (hC : C x y) (hD : D x y) (hE : E x y) (hF : F x y) (hG : G x y) : ∃ x y, A x y ∧ B x y ∧ C x y ∧ D x y ∧ E x y ∧ F x y ∧ G x y := ⟨x, i17 y hA hB hC hD hE hF hG⟩
theorem i28 {A B C D E F G H : a → b → Prop} (x y) (hA : A x y) (hB : B x y) (hC : C x y) (hD : D x y) (hE : E x y) (hF : F x y) (hG : G x y) (hH : H x y) : ∃ x y, A x y ∧ B x y ∧ C x y ∧ D x y ∧ E x y ∧ F x y ∧ G x y ∧ H x y := ⟨x, i18 y hA hB hC hD hE hF hG hH⟩
theorem i29 {A B C D E F G H I : a → b → Prop} (x y) (hA : A x y) (hB : B x y) (hC : C x y) (hD : D x y) (hE : E x y) (hF : F x y) (hG : G x y) (hH : H x y) (hI : I x y) : ∃ x y, A x y ∧ B x y ∧ C x y ∧ D x y ∧ E x y ∧ F x y ∧ G x y ∧ H x y ∧ I x y := ⟨x, i19 y hA hB hC hD hE hF hG hH hI⟩
theorem i31 {A : a → b → c → Prop} (x y z) (hA : A x y z) : ∃ x y z, A x y z := ⟨x, i21 y z hA⟩
theorem i32 {A B : a → b → c → Prop} (x y z) (hA : A x y z) (hB : B x y z) : ∃ x y z, A x y z ∧ B x y z := ⟨x, i22 y z hA hB⟩
theorem i33 {A B C : a → b → c → Prop} (x y z) (hA : A x y z) (hB : B x y z) (hC : C x y z) : ∃ x y z, A x y z ∧ B x y z ∧ C x y z := ⟨x, i23 y z hA hB hC⟩
theorem i34 {A B C D : a → b → c → Prop} (x y z) (hA : A x y z) (hB : B x y z) (hC : C x y z) (hD : D x y z) : ∃ x y z, A x y z ∧ B x y z ∧ C x y z ∧ D x y z := ⟨x, i24 y z hA hB hC hD⟩
theorem i35 {A B C D E : a → b → c → Prop} (x y z) (hA : A x y z) (hB : B x y z) (hC : C x y z) (hD : D x y z) (hE : E x y z) : ∃ x y z, A x y z ∧ B x y z ∧ C x y z ∧ D x y z ∧ E x y z := ⟨x, i25 y z hA hB hC hD hE⟩
theorem i36 {A B C D E F : a → b → c → Prop} (x y z) (hA : A x y z) (hB : B x y z) (hC : C x y z) (hD : D x y z) (hE : E x y z) (hF : F x y z) : ∃ x y z, A x y z ∧ B x y z ∧ C x y z ∧ D x y z ∧ E x y z ∧ F x y z := ⟨x, i26 y z hA hB hC hD hE hF⟩
theorem i37 {A B C D E F G : a → b → c → Prop} (x y z) (hA : A x y z) (hB : B x y z) (hC : C x y z) (hD : D x y z) (hE : E x y z) (hF : F x y z) (hG : G x y z) : ∃ x y z, A x y z ∧ B x y z ∧ C x y z ∧ D x y z ∧ E x y z ∧ F x y z ∧ G x y z := ⟨x, i27 y z hA hB hC hD hE hF hG⟩
theorem i38 {A B C D E F G H : a → b → c → Prop} (x y z) (hA : A x y z) (hB : B x y z) (hC : C x y z) (hD : D x y z) (hE : E x y z) (hF : F x y z) (hG : G x y z) (hH : H x y z) : ∃ x y z, A x y z ∧ B x y z ∧ C x y z ∧ D x y z ∧ E x y z ∧ F x y z ∧ G x y z ∧ H x y z := ⟨x, i28 y z hA hB hC hD hE hF hG hH⟩
theorem i39 {A B C D E F G H I : a → b → c → Prop} (x y z) (hA : A x y z) (hB : B x y z) (hC : C x y z) (hD : D x y z) (hE : E x y z) (hF : F x y z) (hG : G x y z) (hH : H x y z) (hI : I x y z) : ∃ x y z, A x y z ∧ B x y z ∧ C x y z ∧ D x y z ∧ E x y z ∧ F x y z ∧ G x y z ∧ H x y z ∧ I x y z := ⟨x, i29 y z hA hB hC hD hE hF hG hH hI⟩
theorem i41 {A : a → b → c → d → Prop} (x y z w) (hA : A x y z w) : ∃ x y z w, A x y z w := ⟨x, i31 y z w hA⟩
theorem i42 {A B : a → b → c → d → Prop} (x y z w) (hA : A x y z w) (hB : B x y z w) : ∃ x y z w, A x y z w ∧ B x y z w := ⟨x, i32 y z w hA hB⟩
theorem i43 {A B C : a → b → c → d → Prop} (x y z w) (hA : A x y z w) (hB : B x y z w) (hC : C x y z w) : ∃ x y z w, A x y z w ∧ B x y z w ∧ C x y z w := ⟨x, i33 y z w hA hB hC⟩
theorem i44 {A B C D : a → b → c → d → Prop} (x y z w) (hA : A x y z w) (hB : B x y z w) (hC : C x y z w) (hD : D x y z w) : ∃ x y z w, A x y z w ∧ B x y z w ∧ C x y z w ∧ D x y z w := ⟨x, i34 y z w hA hB hC hD⟩
theorem i45 {A B C D E : a → b → c → d → Prop} (x y z w) (hA : A x y z w) (hB : B x y z w) (hC : C x y z w) (hD : D x y z w) (hE : E x y z w) : ∃ x y z w, A x y z w ∧ B x y z w ∧ C x y z w ∧ D x y z w ∧ E x y z w := ⟨x, i35 y z w hA hB hC hD hE⟩
theorem i46 {A B C D E F : a → b → c → d → Prop} (x y z w) (hA : A x y z w) (hB : B x y z w) (hC : C x y z w) (hD : D x y z w) (hE : E x y z w) (hF : F x y z w) : ∃ x y z w, A x y z w ∧ B x y z w ∧ C x y z w ∧ D x y z w ∧ E x y z w ∧ F x y z w := ⟨x, i36 y z w hA hB hC hD hE hF⟩
theorem i47 {A B C D E F G : a → b → c → d → Prop} (x y z w) (hA : A x y z w) (hB : B x y z w) (hC : C x y z w) (hD : D x y z w) (hE : E x y z w) (hF : F x y z w) (hG : G x y z w) : ∃ x y z w, A x y z w ∧ B x y z w ∧ C x y z w ∧ D x y z w ∧ E x y z w ∧ F x y z w ∧ G x y z w := ⟨x, i37 y z w hA hB hC hD hE hF hG⟩
theorem i48 {A B C D E F G H : a → b → c → d → Prop} (x y z w) (hA : A x y z w) (hB : B x y z w) (hC : C x y z w) (hD : D x y z w) (hE : E x y z w) (hF : F x y z w) (hG : G x y z w) (hH : H x y z w) : ∃ x y z w, A x y z w ∧ B x y z w ∧ C x y z w ∧ D x y z w ∧ E x y z w ∧ F x y z w ∧ G x y z w ∧ H x y z w := ⟨x, i38 y z w hA hB hC hD hE hF hG hH⟩
theorem i49 {A B C D E F G H I : a → b → c → d → Prop} (x y z w) (hA : A x y z w) (hB : B x y z w) (hC : C x y z w) (hD : D x y z w) (hE : E x y z w) (hF : F x y z w) (hG : G x y z w) (hH : H x y z w) (hI : I x y z w) : ∃ x y z w, A x y z w ∧ B x y z w ∧ C x y z w ∧ D x y z w ∧ E x y z w ∧ F x y z w ∧ G x y z w ∧ H x y z w ∧ I x y z w := ⟨x, i39 y z w hA hB hC hD hE hF hG hH hI⟩
theorem i53 {A B C : a → b → c → d → e → Prop} (x y z w u) (hA : A x y z w u) (hB : B x y z w u) (hC : C x y z w u) : ∃ x y z w u, A x y z w u ∧ B x y z w u ∧ C x y z w u := ⟨x, i43 y z w u hA hB hC⟩
theorem i55 {A B C D E : a → b → c → d → e → Prop} (x y z w u) (hA : A x y z w u) (hB : B x y z w u) (hC : C x y z w u) (hD : D x y z w u) (hE : E x y z w u) : ∃ x y z w u, A x y z w u ∧ B x y z w u ∧ C x y z w u ∧ D x y z w u ∧ E x y z w u := ⟨x, i45 y z w u hA hB hC hD hE⟩
theorem i56 {A B C D E F : a → b → c → d → e → Prop} (x y z w u) (hA : A x y z w u) (hB : B x y z w u) (hC : C x y z w u) (hD : D x y z w u) (hE : E x y z w u) (hF : F x y z w u) : ∃ x y z w u, A x y z w u ∧ B x y z w u ∧ C x y z w u ∧ D x y z w u ∧ E x y z w u ∧ F x y z w u := ⟨x, i46 y z w u hA hB hC hD hE hF⟩
theorem i63 {A B C : a → b → c → d → e → g → Prop} (x y z w u v) (hA : A x y z w u v) (hB : B x y z w u v) (hC : C x y z w u v) : ∃ x y z w u v, A x y z w u v ∧ B x y z w u v ∧ C x y z w u v := ⟨x, i53 y z w u v hA hB hC⟩
end
end Mine
set_option compiler.extract_closed false
local macro_rules
  | `(tactic| rw [$es,*]) => do
    let ts ← es.getElems.mapM fun e =>
      let o := Lean.mkIdent (if e.raw[0].getNumArgs = 0 then `Mine.rwE else `Mine.rwB)
      `(tactic| first | refine $o ?_ ($(⟨e.raw[1]⟩) ..) | rewrite [$e])
    `(tactic| ($[$ts]*; try (with_reducible rfl)))
local macro_rules
  | `(tactic| obtain $p:rcasesPatMed := $e:term) => do
    let ps := p.raw[0][0][1].getSepArgs
    if p.raw[0].getNumArgs != 1 || ps.size < 2 then Lean.Macro.throwUnsupported
    let mut xs := #[]
    let mut is := #[]
    let mut ts := #[]
    for q in ps do
      let c := q[0][0][0]
      if c.isOfKind `Lean.Parser.Tactic.rcasesPat.one && c[0].getId != `rfl then xs := xs.push ⟨c[0]⟩
      else
        let fr : Lean.Ident := Lean.mkIdent (← Lean.Macro.addMacroScope (.mkSimple s!"e{xs.size}{ts.size}"))
        xs := xs.push fr
        let o ← `(tactic| obtain $(⟨q[0]⟩):rcasesPatMed := $fr:ident)
        if c[0].getId == `rfl then
          is := is ++ #[← `(tactic| intro $xs*), o]
          xs := #[]
        else if !c.isOfKind `Lean.Parser.Tactic.rcasesPat.ignore then ts := ts.push o
    let mut t ← `(tactic| fail)
    for k in [0:ps.size] do
      let o := Lean.mkIdent (.mkStr `Mine s!"o{k}{ps.size - k}")
      t ← `(tactic| first | refine $o $e ?_ | $t:tactic)
    if xs.size > 0 then is := is.push (← `(tactic| intro $xs*))
    ts := is ++ ts
    `(tactic| ($t:tactic; (try clear $(⟨e.raw⟩)); $[$ts]*))
local macro_rules
  | `(tactic| refine ⟨$xs,*⟩) => do
    let n := xs.getElems.size
    if n < 3 then Lean.Macro.throwUnsupported
    let mut t ← `(tactic| fail)
    for k in [1:n] do
      let o := Lean.mkIdent (.mkStr `Mine s!"i{k}{n - k}")
      t ← `(tactic| first | refine $o $xs* | $t:tactic)
    return t
  | `(tactic| exact ⟨$xs,*⟩) => `(tactic| refine ⟨$xs,*⟩)
set_option bootstrap.genMatcherCode false
open Value renaming int → zse, ref → zsf, none → zsg, type → zsh, bool → zsi, builtin → zsj
open _root_.List renaming length_map → zsk, getElem?_eq_some_iff → zsl, mem_of_getElem? → zsm, getElem?_set_ne → zsn, mem_map → zso, replicate → zsp, mem_singleton → zsq, range → zsr, mem_cons → zss, getElem?_append_left → zst, getElem?_map → zsu, getElem?_eq_getElem → zsv, prefix_rfl → zsw, length_set → zsx, getElem?_set_self → zsy, getD_eq_getElem?_getD → zsz, mem_append → zs0, length_append → zs1, getElem?_append_right → zs2, map_append → zs3, nodup_cons → zs4, mem_map_of_mem → zs5, mem_iff_getElem → zs6, append_assoc → zs7, getElem?_set → zs8, map_cons → zs9, mem_append_left → zta, size_toArray → ztb, map_map → ztc, length_cons → ztd, nodup_append → zte, getElem?_eq_none → ztf, getElem?_modify → ztg, mem_append_right → zth, length_take → zti, prefix_append → ztj, getElem?_eq_none_iff → ztk, ext_getElem? → ztl, Perm → ztm, mem_range → ztn, take_length → zto, toArray → ztp, Nodup → ztq, pairwise_map → ztr, length_range → zts, length_singleton → ztt, foldl_append → ztu, getElem?_cons_zero → ztv, getElem?_cons_succ → ztw, getElem?_zipWith → ztx, nodup_nil → zty, getElem?_take → ztz, take_append_of_le_length → zt0, mem_of_mem_take → zt1, getElem?_replicate → zt2, pairwise_iff_getElem → zt3, foldl_cons → zt4, map_congr_left → zt5, zip_cons_cons → zt6, map_set → zt7, set_append_right → zt8, map_take → zt9, mem_filter → zua, length_reverse → zub, set_set → zuc, take_add_one → zud, take_append_drop → zue, drop_length → zuf, replicate_one → zug, take_take → zuh, prefix_iff_eq_take → zui, filter_eq_self → zuj, any_cons → zuk, reverse_cons → zul, mem_replicate → zum, all_eq_true → zun, exists_cons_of_length_eq_add_one → zuo, map_snd_zip → zup, append_nil → zuq, mem_or_eq_of_mem_set → zur, length_filter_le → zus, take_sublist → zut, mem_of_mem_drop → zuu, map_id' → zuv, take_prefix_take_left → zuw, length_replicate → zux, length_modify → zuy, take_nil → zuz, replicate_succ → zu0, set_cons_succ → zu1, getElem?_reverse → zu2, filterMap_cons → zu3, lookup_cons → zu4, forIn_cons → zu5, contains_eq_mem → zu6, zip_eq_zipWith → zu7, length_nil → zu8, mem_nil_iff → zu9, length_erase_of_mem → zva, take_of_length_le → zvb, map_drop → zvc, drop_eq_getElem_cons → zvd, filter_map → zve, Pairwise → zvf, length_pos_iff → zvg, mem_iff_getElem? → zvh, take_left → zvi, Sublist → zvj, sublist_cons_self → zvk, pairwise_singleton → zvl, getElem_take → zvm, drop_sublist → zvn, getElem?_range → zvo, perm_ext_iff_of_nodup → zvp, nodup_range → zvq, reverse_perm → zvr, map_id'' → zvs
open Classical renaming byContradiction → zvt
open Option renaming some → zvu, map_eq_some_iff → zvv, map → zvw, bind_eq_some_iff → zvx, or_eq_some_iff → zvy, none → zvz, map_some → zv0, isSome_iff_exists → zv1, or → zv2
open Data renaming fields → zv3, dict → zv4
open BindsTo renaming of_eq → zv5
open Int renaming natAbs → zv6, le_refl → zv7, toNat_of_nonneg → zv8, zero_add → zv9, natAbs_neg → zwa, le_of_lt → zwb, neg_neg → zwc, le_trans → zwd, fmod_nonneg_of_pos → zwe, mul_one → zwf, toNat → zwg, fmod_lt_of_pos → zwh, natAbs_eq → zwi, fmod_eq_emod_of_nonneg → zwj
open PySem.Heap renaming get?_push_of_some → zwk, get?_push_size → zwl, lt_size → zwm, SameBut → zwn, size_push → zwo, get?_push_ne → zwp, size_update → zwq, get?_update_ne → zwr
open Obj renaming mapSeq → zws
open Nat renaming le_refl → zwt, ne_of_lt → zwu, zero_le → zwv, sub_self → zww, lt_irrefl → zwx, le_succ → zwy, beq → zwz, lt_succ_self → zw0, le_trans → zw1, lt_of_lt_of_le → zw2, le_of_lt → zw3, lt_succ_of_lt → zw4, le_of_not_lt → zw5, eq_of_beq_eq_true → zw6, not_lt → zw7, succ → zw8, min_eq_left → zw9, sub_zero → zxa, add_assoc → zxb, lt_of_succ_lt → zxc, not_lt_zero → zxd
open PySem.F renaming slot_list_append → zxe, type_list_append → zxf, plainAttrs_list → zxg, slot_list_extend → zxh
open _root_.Array renaming length_toList → zxi, toArray_toList → zxj, getElem?_toList → zxk, toList_inj → zxl, mem_toList_iff → zxm, find?_toList → zxn, toList_push → zxo, forIn_toList → zxp
open Builtin.Range renaming rangeSize → zxq, small → zxr, rangeFitsLong → zxs
open Bool renaming and_eq_true → zxt, false_eq_true → zxu, and_eq_true_iff → zxv, not_eq_true' → zxw, or_eq_true → zxx
open Prod renaming fst → zxy

namespace Mine
inductive MV where
 | none
 | bool (b : Bool)
 | int (i : Int)
 | ref (i : Nat)
 | tup (l : List MV)
 | frz (l : List Int)
 | rng (a b c : Int)
inductive MO where
 | list (l : List MV)
 | obj (c : Nat) (l : List MV)
 | junk
noncomputable abbrev St := List MO
noncomputable abbrev Lo := List (Option MV)
inductive Fl where
 | next | brk | cont
 | ret (v : MV)
noncomputable abbrev DE := Lo → St → Option (MV × St)
noncomputable abbrev DF := List MV → St → Option (MV × St)
noncomputable abbrev DS := Lo → St → Option (Fl × Lo × St)
noncomputable abbrev wz := List (Addr × Addr)
set_option genInjectivity false in
structure Wd where
 prog : Program
 w : World
 base : Heap
 K : Frag
 mg : Str → Option Value
 mb : Str → Option Value
 p : Program
 loose : List Str
 KX : K.In base
 T : TopRead p loose mg mb base
 names : Nat → List Str
 cls : Nat → Option Addr
noncomputable abbrev lst (vs : Array Value) (n : Nat) : Obj := { cls := .type "list", data := .seq vs n }
mutual
inductive RV (base : Heap) (φ : wz) (h : Heap) : MV → Value → Prop
 | none : RV base φ h .none .none
 | bool (b : Bool) : RV base φ h (.bool b) (.bool b)
 | int (i : Int) (t : Tok) : RV base φ h (.int i) (.int i t)
 | ref (i : Nat) (a d : Addr) : φ[i]? = some (a, d) → RV base φ h (.ref i) (.ref a)
 | tup (l : List MV) (a : Addr) (vs : List Value) : IsTup h a vs.toArray → RVs base φ h l vs → RV base φ h (.tup l) (.ref a)
 | frz (l : List Int) (a : Addr) (vs : List Value) : base.IsList a vs.toArray → IntsAre vs l → RV base φ h (.frz l) (.ref a)
 | rng (a b c : Int) (r : Addr) (t u v : Tok) : IsRange h r a b c t u v → RV base φ h (.rng a b c) (.ref r)
inductive RVs (base : Heap) (φ : wz) (h : Heap) : List MV → List Value → Prop
 | nil : RVs base φ h [] []
 | cons {v : MV} {x : Value} {l : List MV} {xs : List Value} : RV base φ h v x → RVs base φ h l xs → RVs base φ h (v :: l) (x :: xs)
end
noncomputable def FM (base : Heap) (φ : wz) (h : Heap) (ns : List Str) (l : List MV) (m : Str → Option Value) : Prop :=
 l.length ≤ ns.length ∧ (∀ (k : Nat) x, ns[k]? = some x → match l[k]? with
  | some v => ∃ y, m x = some y ∧ RV base φ h v y
  | zvz => m x = zvz) ∧ ∀ x, x ∉ ns → m x = zvz
noncomputable def qo (o : Obj) : Bool := match o.data with
 | .plain => true
 | .seq _ _ => o.cls == .type "tuple"
 | .fields _ => o.cls == .type "range"
 | _ => false
noncomputable def OR (W : Wd) (φ : wz) (h : Heap) : MO → Addr → Addr → Prop
 | .list l, a, d => a = d ∧ ∃ vs n, h.get? a = some (lst vs n) ∧ RVs W.base φ h l vs.toList
 | .obj c l, a, d => match W.cls c with
  | some C => h.get? a = some (instObj C d) ∧ d ≠ a ∧ a ≠ C ∧ ∃ m, h.Ns1 d m ∧ FM W.base φ h (W.names c) l m
  | zvz => a = d ∧ ∃ kvs : List (Str × Value), h.DictOf (PySem.strKind W.prog W.w) d kvs ∧ kvs.map (·.1) = W.names c ∧ RVs W.base φ h l (kvs.map (·.2))
 | .junk, _, d => ∃ x, h.get? d = some x ∧ qo x = true
structure Sim (W : Wd) (φ : wz) (H : St) (h : Heap) : Prop where
 base : ∀ b o, W.base.get? b = some o → h.get? b = some o
 len : φ.length = H.length
 nodup : (φ.map (·.2)).Nodup
 out : ∀ p ∈ φ, W.base.get? p.2 = none
 obj : ∀ (i : Nat) o, H[i]? = some o → ∃ a d, φ[i]? = some (a, d) ∧ OR W φ h o a d
structure ju (φ φ' : wz) (S : List Addr) (h h' : Heap) : Prop where
 ext : φ <+: φ'
 fresh : ∀ p ∈ φ', p ∈ φ ∨ h.get? p.2 = none
 keep : ∀ a o, h.get? a = some o → a ∉ S → a ∉ φ.map (·.2) → h'.get? a = some o
 imm : ∀ a o, h.get? a = some o → qo o = true → h'.get? a = some o
 alive : ∀ a o, h.get? a = some o → ∃ o', h'.get? a = some o'
theorem ju.refl (φ : wz) (S : List Addr) (h : Heap) : ju φ φ S h h :=
 ⟨zsw, fun _ hp => .inl hp, fun _ _ e _ _ => e, fun _ _ e _ => e, fun _ o e => ⟨o, e⟩⟩
theorem ju.trans {φ φ' φ'' : wz} {S : List Addr} {h h' h'' : Heap} (x : ju φ φ' S h h') (y : ju φ' φ'' S h' h'') : ju φ φ'' S h h'' := by
 refine ⟨x.ext.trans y.ext, fun p hp => ?_, fun a o e h1 h2 => ?_, fun a o e hf => y.imm a o (x.imm a o e hf) hf, fun a o e => ?_⟩
 ·rcases y.fresh p hp with q | q
  ·exact x.fresh p q
  ·right
   cases e : h.get? p.2 with
   | none => rfl
   | some o => obtain ⟨o', e'⟩ := x.alive _ _ e; rw [e'] at q; cases q
 ·refine y.keep a o (x.keep a o e h1 h2) h1 fun hm => ?_
  obtain ⟨p, hp, rfl⟩ := zso.mp hm
  rcases x.fresh p hp with q | q
  ·exact h2 (zs5 q)
  ·rw [e] at q; cases q
 ·obtain ⟨o', e'⟩ := x.alive a o e
  exact y.alive a o' e'
theorem ju.weaken {φ φ' : wz} {S S' : List Addr} {h h' : Heap} (x : ju φ φ' S h h') (hs : ∀ a ∈ S, a ∈ S') : ju φ φ' S' h h' :=
 ⟨x.ext, x.fresh, fun a o e h1 h2 => x.keep a o e (fun q => h1 (hs a q)) h2, x.imm, x.alive⟩
theorem xg {φ φ' : wz} (e : φ <+: φ') {i : Nat} {p : Addr × Addr} (h : φ[i]? = some p) : φ'[i]? = some p := by
 refine zvt fun hq0 => ?_
 obtain ⟨t, rfl⟩ := e
 obtain ⟨hi, hp⟩ := zsl.mp h
 refine hq0 ?_
 rw [zst hi, h]
theorem zof {o : Obj} {vs : Array Value} {n : Nat} (hc : o.cls = .type "tuple") (hd : o.data = .seq vs n) : qo o = true := by
 unfold qo; rw [hd, hc]; rfl
theorem zfk {h h' : Heap} {a : Addr} {vs : Array Value} (k : ∀ a o, h.get? a = some o → qo o = true → h'.get? a = some o) (x : IsTup h a vs) : IsTup h' a vs := by
 refine zvt fun hq0 => ?_
 obtain ⟨o, ho, hc, n, hd⟩ := x
 refine hq0 ?_
 exact ⟨o, k _ _ ho (zof hc hd), hc, n, hd⟩
theorem RV.mono {base : Heap} {φ φ' : wz} {h h' : Heap} (e : φ <+: φ') (k : ∀ a o, h.get? a = some o → qo o = true → h'.get? a = some o) {v : MV} {x : Value} (r : RV base φ h v x) : RV base φ' h' v x :=
 RV.rec (motive_1 := fun v x _ => RV base φ' h' v x) (motive_2 := fun l xs _ => RVs base φ' h' l xs) .none .bool .int (fun i a d q => .ref i a d (xg e q)) (fun l a vs q _ r => .tup l a vs (zfk k q) r)
  .frz (fun a b c r t u v q => .rng a b c r t u v (k _ _ q rfl)) .nil (fun _ _ q r => .cons q r) r
theorem RVs.mono {base : Heap} {φ φ' : wz} {h h' : Heap} (e : φ <+: φ') (k : ∀ a o, h.get? a = some o → qo o = true → h'.get? a = some o) {v : List MV} {x : List Value} (r : RVs base φ h v x) : RVs base φ' h' v x :=
 RVs.rec (motive_1 := fun v x _ => RV base φ' h' v x) (motive_2 := fun l xs _ => RVs base φ' h' l xs) .none .bool .int (fun i a d q => .ref i a d (xg e q)) (fun l a vs q _ r => .tup l a vs (zfk k q) r)
  .frz (fun a b c r t u v q => .rng a b c r t u v (k _ _ q rfl)) .nil (fun _ _ q r => .cons q r) r
section
variable {base : Heap} {φ : wz} {h : Heap} {x : Value} {xs : List Value}
theorem RV.none_inv (r : RV base φ h .none x) : x = .none := by cases r; rfl
theorem RV.int_inv {i : Int} (r : RV base φ h (.int i) x) : ∃ t, x = .int i t := by cases r; exact ⟨_, rfl⟩
theorem RV.ref_inv {i : Nat} (r : RV base φ h (.ref i) x) : ∃ a d, x = .ref a ∧ φ[i]? = some (a, d) := by cases r; exact ⟨_, _, rfl, ‹_›⟩
theorem RV.tup_inv {l : List MV} (r : RV base φ h (.tup l) x) : ∃ a vs, x = .ref a ∧ IsTup h a vs.toArray ∧ RVs base φ h l vs := by cases r; exact ⟨_, _, rfl, ‹_›, ‹_›⟩
theorem RV.frz_inv {l : List Int} (r : RV base φ h (.frz l) x) : ∃ a vs, x = .ref a ∧ base.IsList a vs.toArray ∧ IntsAre vs l := by cases r; exact ⟨_, _, rfl, ‹_›, ‹_›⟩
theorem RV.rng_inv {a b c : Int} (r : RV base φ h (.rng a b c) x) : ∃ d t u v, x = .ref d ∧ IsRange h d a b c t u v := by cases r; exact ⟨_, _, _, _, rfl, ‹_›⟩
theorem RVs.nil_inv (r : RVs base φ h [] xs) : xs = [] := by cases r; rfl
theorem RVs.cons_inv {v : MV} {l : List MV} (r : RVs base φ h (v :: l) xs) : ∃ y ys, xs = y :: ys ∧ RV base φ h v y ∧ RVs base φ h l ys := by cases r; exact ⟨_, _, rfl, ‹_›, ‹_›⟩
theorem RVs.one_inv {v : MV} (r : RVs base φ h [v] xs) : ∃ y, xs = [y] ∧ RV base φ h v y := by
 refine zvt fun hq0 => ?_
 obtain ⟨y, ys, rfl, q, r⟩ := r.cons_inv
 refine hq0 ?_
 rw [r.nil_inv]; exact ⟨y, rfl, q⟩
theorem RVs.two_inv {v w : MV} (r : RVs base φ h [v, w] xs) : ∃ y z, xs = [y, z] ∧ RV base φ h v y ∧ RV base φ h w z := by
 refine zvt fun hq0 => ?_
 obtain ⟨y, ys, rfl, q, r⟩ := r.cons_inv
 obtain ⟨z, rfl, q'⟩ := r.one_inv
 refine hq0 ?_
 exact ⟨y, z, rfl, q, q'⟩
end
theorem RV.post {base : Heap} {φ φ' : wz} {S : List Addr} {h h' : Heap} (p : ju φ φ' S h h') {v : MV} {x : Value} (q : RV base φ h v x) : RV base φ' h' v x := q.mono p.ext p.imm
theorem RVs.post {base : Heap} {φ φ' : wz} {S : List Addr} {h h' : Heap} (p : ju φ φ' S h h') {v : List MV} {x : List Value} (q : RVs base φ h v x) : RVs base φ' h' v x := q.mono p.ext p.imm
section
variable {base : Heap} {φ : wz} {h : Heap}
theorem RVs.length {v : List MV} : ∀ {x : List Value}, RVs base φ h v x → v.length = x.length := by
 induction v with
 | nil => intro x r; rw [r.nil_inv]; rfl
 | cons m v ih => intro x r; obtain ⟨y, ys, rfl, -, r⟩ := r.cons_inv; rw [ztd, ztd, ih r]
theorem RVs.get {v : List MV} : ∀ {x : List Value}, RVs base φ h v x → ∀ {i : Nat} {m : MV}, v[i]? = some m → ∃ y, x[i]? = some y ∧ RV base φ h m y := by
 induction v with
 | nil => intro x r i m e; rw [List.getElem?_nil] at e; cases e
 | cons m v ih =>
  intro x r i m' e
  obtain ⟨y, ys, rfl, q, r⟩ := r.cons_inv
  cases i with
  | zero => rw [ztv] at e; rw [← zvu.inj e]; exact ⟨y, ztv, q⟩
  | succ i => rw [ztw] at e ⊢; exact ih r e
theorem RVs.append {v v' : List MV} {x x' : List Value} (r : RVs base φ h v x) (s : RVs base φ h v' x') : RVs base φ h (v ++ v') (x ++ x') := by
 induction v generalizing x with
 | nil => rw [r.nil_inv]; exact s
 | cons m v ih => obtain ⟨y, ys, rfl, q, r⟩ := r.cons_inv; exact .cons q (ih r)
theorem RVs.set {m : MV} {y : Value} (q' : RV base φ h m y) {v : List MV} : ∀ {x : List Value}, RVs base φ h v x → ∀ i : Nat, RVs base φ h (v.set i m) (x.set i y) := by
 induction v with
 | nil => intro x r i; rw [r.nil_inv]; exact .nil
 | cons m v ih =>
  intro x r i
  obtain ⟨y, ys, rfl, q, r⟩ := r.cons_inv
  cases i with
  | zero => exact .cons q' r
  | succ i => exact .cons q (ih r i)
theorem RVs.take {v : List MV} : ∀ {x : List Value}, RVs base φ h v x → ∀ i : Nat, RVs base φ h (v.take i) (x.take i) := by
 induction v with
 | nil => intro x r i; rw [r.nil_inv, zuz, zuz]; exact .nil
 | cons m v ih =>
  intro x r i
  obtain ⟨y, ys, rfl, q, r⟩ := r.cons_inv
  cases i with
  | zero => exact .nil
  | succ i => exact .cons q (ih r i)
end
theorem FM.mono {base : Heap} {φ φ' : wz} {h h' : Heap} (e : φ <+: φ') (k : ∀ a o, h.get? a = some o → qo o = true → h'.get? a = some o) {ns : List Str} {l : List MV} {m : Str → Option Value} (q : FM base φ h ns l m) : FM base φ' h' ns l m := by
 refine ⟨q.1, fun i x hx => ?_, q.2.2⟩
 have := q.2.1 i x hx
 cases hl : l[i]? with
 | none => rw [hl] at this; exact this
 | some v =>
  rw [hl] at this
  obtain ⟨y, e1, r⟩ := this
  exact ⟨y, e1, r.mono e k⟩
theorem zqi {h h' : Heap} {d : Addr} {m : Str → Option Value} (x : h.Ns1 d m) (k : ∀ o, h.get? d = some o → h'.get? d = some o) : h'.Ns1 d m := by
 refine zvt fun hq0 => ?_
 obtain ⟨o, es, ep, e, r⟩ := x
 refine hq0 ?_
 exact ⟨o, es, ep, k _ e, r⟩
theorem OR.mono {W : Wd} {φ φ' : wz} {h h' : Heap} (e : φ <+: φ') (k : ∀ a o, h.get? a = some o → qo o = true → h'.get? a = some o) {o : MO} {a d : Addr} (hd : ∀ x, h.get? d = some x → h'.get? d = some x) (q : OR W φ h o a d) : OR W φ' h' o a d := by
 cases o with
 | list l =>
  obtain ⟨rfl, vs, n, h1, h2⟩ := q
  exact ⟨rfl, vs, n, hd _ h1, h2.mono e k⟩
 | obj c l =>
  cases hc : W.cls c with
  | some C =>
   simp only [OR, hc] at q ⊢
   obtain ⟨h0, h1, h2, m, h3, h4⟩ := q
   exact ⟨k _ _ h0 rfl, h1, h2, m, zqi h3 hd, h4.mono e k⟩
  | none =>
   simp only [OR, hc] at q ⊢
   obtain ⟨h0, kvs, h1, h2, h3⟩ := q
   exact ⟨h0, kvs, h1.at hd, h2, h3.mono e k⟩
 | junk => obtain ⟨x, h1, h2⟩ := q; exact ⟨x, k _ _ h1 h2, h2⟩
theorem OR.carrier {W : Wd} {φ : wz} {h : Heap} {o : MO} {a d : Addr} (q : OR W φ h o a d) : ∃ x, h.get? d = some x ∧ (o ≠ .junk → qo x = false) := by
 cases o with
 | list l => obtain ⟨rfl, vs, n, h1, _⟩ := q; exact ⟨_, h1, fun _ => rfl⟩
 | obj c l =>
  cases hc : W.cls c with
  | some C =>
   simp only [OR, hc] at q
   obtain ⟨_, _, _, m, ⟨o, es, ep, h3, h4, _⟩, _⟩ := q
   exact ⟨o, h3, fun _ => by unfold qo; rw [h4]⟩
  | none =>
   simp only [OR, hc] at q
   obtain ⟨_, kvs, ⟨o, es, ep, h1, _, h2, _⟩, _⟩ := q
   exact ⟨o, h1, fun _ => by unfold qo; rw [h2]⟩
 | junk => obtain ⟨x, h1, _⟩ := q; exact ⟨x, h1, fun n => (n rfl).elim⟩
theorem Sim.carrier {W : Wd} {φ : wz} {H : St} {h : Heap} (S : Sim W φ H h) {p : Addr × Addr} (hp : p ∈ φ) : ∃ x, h.get? p.2 = some x ∧ True := by
 refine zvt fun hq0 => ?_
 obtain ⟨i, hi, e⟩ := zs6.mp hp
 have hi' : i < H.length := S.len ▸ hi
 obtain ⟨a, d, e1, q⟩ := S.obj i H[i] (zsv hi')
 rw [zsv hi, e] at e1
 refine hq0 ?_
 cases zvu.inj e1
 obtain ⟨x, hx, _⟩ := q.carrier
 exact ⟨x, hx, trivial⟩
theorem Sim.carrier_at {W : Wd} {φ : wz} {H : St} {h : Heap} (S : Sim W φ H h) {i : Nat} {o : MO} {a d : Addr} (hi : H[i]? = some o) (hp : φ[i]? = some (a, d)) (ho : o ≠ .junk) : ∃ x, h.get? d = some x ∧ qo x = false := by
 refine zvt fun hq0 => ?_
 obtain ⟨a', d', e1, q⟩ := S.obj i o hi
 rw [hp] at e1
 refine hq0 ?_
 cases zvu.inj e1
 obtain ⟨x, hx, f⟩ := q.carrier
 exact ⟨x, hx, f ho⟩
theorem Sim.list_of {W : Wd} {φ : wz} {H : St} {h : Heap} (S : Sim W φ H h) {i : Nat} {l : List MV} {x : Value} (hl : H[i]? = some (.list l)) (r : RV W.base φ h (.ref i) x) :
  ∃ a vs n, x = .ref a ∧ φ[i]? = some (a, a) ∧ h.get? a = some (lst vs n) ∧ RVs W.base φ h l vs.toList := by
 refine zvt fun hq0 => ?_
 obtain ⟨a, d, rfl, ha⟩ := r.ref_inv
 obtain ⟨a1, d1, e1, rfl, vs, n, h1, h2⟩ := S.obj i _ hl
 have e := ha.symm.trans e1
 rw [zvu.injEq, Prod.mk.injEq] at e
 obtain ⟨rfl, rfl⟩ := e
 refine hq0 ?_
 exact ⟨_, vs, n, rfl, ha, h1, h2⟩
theorem Sim.obj_of {W : Wd} {φ : wz} {H : St} {h : Heap} (S : Sim W φ H h) {i : Nat} {o : MO} {x : Value} (hl : H[i]? = some o) (r : RV W.base φ h (.ref i) x) : ∃ a d, x = .ref a ∧ φ[i]? = some (a, d) ∧ OR W φ h o a d := by
 refine zvt fun hq0 => ?_
 obtain ⟨a, d, rfl, ha⟩ := r.ref_inv
 obtain ⟨a1, d1, e1, q⟩ := S.obj i _ hl
 have e := ha.symm.trans e1
 rw [zvu.injEq, Prod.mk.injEq] at e
 obtain ⟨rfl, rfl⟩ := e
 refine hq0 ?_
 exact ⟨_, _, rfl, ha, q⟩
theorem Sim.keep {W : Wd} {φ : wz} {H : St} {h h' : Heap} (S : Sim W φ H h) {T : List Addr} (P : ju φ φ T h h') (hT : ∀ a ∈ T, a ∉ φ.map (·.2) ∧ W.base.get? a = none)
  (hc : ∀ a o, h.get? a = some o → a ∈ φ.map (·.2) → h'.get? a = some o) : Sim W φ H h' := by
 refine ⟨fun b o e => ?_, S.len, S.nodup, S.out, fun i o e => ?_⟩
 ·refine P.keep b o (S.base b o e) (fun q => ?_) fun q => ?_
  ·have := (hT b q).2; rw [e] at this; cases this
  ·obtain ⟨p, hp, rfl⟩ := zso.mp q
   have := S.out p hp; rw [e] at this; cases this
 ·obtain ⟨a, d, e1, q⟩ := S.obj i o e
  refine ⟨a, d, e1, q.mono zsw P.imm fun x hx => hc d x hx ?_⟩
  exact zso.mpr ⟨(a, d), zsm e1, rfl⟩
theorem Sim.new {W : Wd} {φ : wz} {H : St} {h : Heap} (S : Sim W φ H h) {o : MO} {a d : Addr} (hd : d ∉ φ.map (·.2)) (hb : W.base.get? d = none)
  (q : OR W φ h o a d) : Sim W (φ ++ [(a, d)]) (H ++ [o]) h := by
 refine ⟨S.base, by simp [S.len], ?_, ?_, fun i o' e => ?_⟩
 ·rw [zs3, zte]
  refine ⟨S.nodup, by simp, ?_⟩
  intro x hx y hy e
  simp at hy
  subst hy; subst e
  exact hd hx
 ·intro p hp
  rcases zs0.mp hp with q | q
  ·exact S.out p q
  ·simp at q; subst q; exact hb
 ·have ep : φ <+: φ ++ [(a, d)] := ztj ..
  by_cases hi : i < H.length
  ·rw [zst hi] at e
   obtain ⟨a', d', e1, q'⟩ := S.obj i o' e
   exact ⟨a', d', xg ep e1, q'.mono ep (fun _ _ e _ => e) fun _ e => e⟩
  ·have : i = H.length := by
    have := (zsl.mp e).1
    simp at this; lia
   subst this
   simp at e
   subst e
   exact ⟨a, d, by rw [← S.len]; simp, q.mono ep (fun _ _ e _ => e) fun _ e => e⟩
theorem qm {α : Type} {l : List α} (h : l.Nodup) {i j : Nat} {a : α} (hi : l[i]? = some a) (hj : l[j]? = some a) : i = j := by
 refine zvt fun hq0 => ?_
 obtain ⟨h1, e1⟩ := zsl.mp hi
 obtain ⟨h2, e2⟩ := zsl.mp hj
 have := zt3.mp h
 refine hq0 ?_
 rcases Nat.lt_trichotomy i j with q | q | q
 ·exact absurd (e1.trans e2.symm) (this i j h1 h2 q)
 ·exact q
 ·exact absurd (e2.trans e1.symm) (this j i h2 h1 q)
theorem Sim.set {W : Wd} {φ : wz} {H : St} {h h' : Heap} (S : Sim W φ H h) {i : Nat} {o o' : MO} {a d : Addr} (_hi : H[i]? = some o) (hp : φ[i]? = some (a, d))
  (hk : ∀ b x, b ≠ d → h.get? b = some x → h'.get? b = some x) (hm : ∀ x, h.get? d = some x → qo x = false) (q : (∀ b x, h.get? b = some x → qo x = true → h'.get? b = some x) → OR W φ h' o' a d) : Sim W φ (H.set i o') h' := by
 have imm : ∀ b x, h.get? b = some x → qo x = true → h'.get? b = some x := fun b x e hf => by
  refine hk b x (fun q => ?_) e
  subst q
  rw [hm x e] at hf; cases hf
 refine ⟨fun b x e => ?_, by simp [S.len], S.nodup, S.out, fun j x e => ?_⟩
 ·refine hk b x (fun q => ?_) (S.base b x e)
  have := S.out (a, d) (zsm hp)
  rw [← q, e] at this; cases this
 ·by_cases hj : j = i
  ·subst hj
   have hl : j < H.length := by
    have := (zsl.mp e).1
    simpa using this
   rw [zsy hl] at e
   cases e
   exact ⟨a, d, hp, q imm⟩
  ·rw [zsn (Ne.symm hj)] at e
   obtain ⟨a', d', e1, q'⟩ := S.obj j x e
   refine ⟨a', d', e1, q'.mono zsw imm fun y hy => hk d' y (fun e2 => ?_) hy⟩
   subst e2
   refine hj (qm S.nodup (a := d') ?_ ?_)
   ·rw [zsu, e1]; rfl
   ·rw [zsu, hp]; rfl
end Mine
namespace Mine
noncomputable def zal (n : Nat) (A : Around) : Prop := A.handled = none ∧ A.depth + n ≤ 600 ∧ A.units + 20 * n ≤ 8000
structure Loc (W : Wd) (env : Env) (sl : List (Option Str)) (lo : Lo) (φ : wz) (h : Heap) : Prop where
 kind : env.scope.kind = .function
 glob : env.globals = mainGlobals
 blt : env.builtins = builtinsNs
 own : ∀ a, a = env.locals ∨ a ∈ env.cells.map (·.2) → a ∉ φ.map (·.2) ∧ W.base.get? a = none ∧ ∃ o, h.get? a = some o ∧ qo o = false
 uniq : ∀ (i j : Nat) (x : Str), sl[i]? = some (some x) → sl[j]? = some (some x) → i = j
 loc : ∃ m, h.Ns env.locals m ∧ ∀ (i : Nat) (x : Str) (v : MV), sl[i]? = some (some x) → env.kindOf x = some .local → lo[i]? = some (some v) → ∃ y, m x = some y ∧ RV W.base φ h v y
 cel : ∀ (i : Nat) (x : Str) (v : MV), sl[i]? = some (some x) → env.kindOf x = some .cell → lo[i]? = some (some v) → ∃ c y, env.cells.lookup x = some c ∧ h.IsCell c (some y) ∧ RV W.base φ h v y
 has : ∀ x, env.kindOf x = some .cell → ∃ c v, env.cells.lookup x = some c ∧ h.IsCell c v
 apart : ∀ x c, env.cells.lookup x = some c → c ≠ env.locals ∧ ∀ y, env.cells.lookup y = some c → y = x
noncomputable abbrev kq (env : Env) : List Addr := env.locals :: env.cells.map (·.2)
theorem kg {α : Type} {l : List (Str × α)} {n : Str} {c : α} (h : l.lookup n = some c) : c ∈ l.map (·.2) := zso.mpr ⟨_, mem_of_lookup h, rfl⟩
theorem Loc.post {W : Wd} {env : Env} {sl : List (Option Str)} {lo : Lo} {φ φ' : wz} {S : List Addr} {h h' : Heap} (L : Loc W env sl lo φ h) (P : ju φ φ' S h h')
  (hS : ∀ a ∈ S, a = env.locals ∨ a ∉ kq env) (hn : ∀ m, h.Ns env.locals m → h'.Ns env.locals m) : Loc W env sl lo φ' h' := by
 have kc : ∀ c ∈ env.cells.map (·.2), c ≠ env.locals → ∀ o, h.get? c = some o → h'.get? c = some o := fun c hc hne o e => by
  refine P.keep c o e (fun q => ?_) (L.own c (.inr hc)).1
  rcases hS c q with r | r
  ·exact hne r
  ·exact r (.tail _ hc)
 refine ⟨L.kind, L.glob, L.blt, fun a ha => ?_, L.uniq, ?_, fun i x v h1 h2 h3 => ?_, fun x hx => ?_, L.apart⟩
 ·obtain ⟨h1, h2, o, h3, h4⟩ := L.own a ha
  refine ⟨fun q => ?_, h2, ?_⟩
  ·obtain ⟨p, hp, rfl⟩ := zso.mp q
   rcases P.fresh p hp with r | r
   ·exact h1 (zs5 r)
   ·rw [h3] at r; cases r
  ·by_cases hl : a = env.locals
   ·subst hl
    obtain ⟨m, hm, _⟩ := L.loc
    obtain ⟨o', es, ep, e1, e2, _⟩ := hn m hm
    exact ⟨o', e1, by unfold qo; rw [e2]⟩
   ·exact ⟨o, kc a (ha.resolve_left hl) hl o h3, h4⟩
 ·obtain ⟨m, hm, hv⟩ := L.loc
  refine ⟨m, hn m hm, fun i x v h1 h2 h3 => ?_⟩
  obtain ⟨y, e, r⟩ := hv i x v h1 h2 h3
  exact ⟨y, e, r.post P⟩
 ·obtain ⟨c, y, e1, ⟨o, e2, e3⟩, r⟩ := L.cel i x v h1 h2 h3
  exact ⟨c, y, e1, ⟨o, kc c (kg e1) (L.apart x c e1).1 o e2, e3⟩, r.post P⟩
 ·obtain ⟨c, v, e1, o, e2, e3⟩ := L.has x hx
  exact ⟨c, v, e1, o, kc c (kg e1) (L.apart x c e1).1 o e2, e3⟩
theorem Loc.post0 {W : Wd} {env : Env} {sl : List (Option Str)} {lo : Lo} {φ φ' : wz} {h h' : Heap} (L : Loc W env sl lo φ h) (P : ju φ φ' [] h h') : Loc W env sl lo φ' h' := by
 refine L.post P (fun a ha => nomatch ha) fun m hm => ?_
 obtain ⟨o, es, ep, ho, r⟩ := hm
 exact ⟨o, es, ep, P.keep _ _ ho (fun q => nomatch q) (L.own _ (.inl rfl)).1, r⟩
noncomputable def zhv (s s' : Shared) : Prop := ∃ h t, s' = { s with heap := h, toks := t }
theorem zhv.refl (s : Shared) : zhv s s := ⟨s.heap, s.toks, rfl⟩
theorem zhv.trans {s s' s'' : Shared} (x : zhv s s') (y : zhv s' s'') : zhv s s'' := by
 obtain ⟨h, t, rfl⟩ := x; obtain ⟨h', t', rfl⟩ := y; exact ⟨h', t', rfl⟩
structure EP (W : Wd) (φ φ' : wz) (H' : St) (S : List Addr) (s s' : Shared) : Prop where
 sim : Sim W φ' H' s'.heap
 post : ju φ φ' S s.heap s'.heap
 same : zhv s s'
noncomputable abbrev NoE : Value → Shared → Prop := fun _ _ => False
inductive QE (W : Wd) (φ : wz) (H' : St) (s : Shared) (v : MV) (y : Value) (s' : Shared) : Prop
 | mk (φ' : wz) (e : EP W φ φ' H' [] s s') (r : RV W.base φ' s'.heap v y)
theorem QE.of {W : Wd} {φ φ' : wz} {H' : St} {s s' : Shared} {v : MV} {y : Value} (h : EP W φ φ' H' [] s s' ∧ RV W.base φ' s'.heap v y) : QE W φ H' s v y s' := ⟨_, h.1, h.2⟩
inductive QB (W : Wd) (φ : wz) (H' : St) (s : Shared) {α : Type} (v y : α) (s' : Shared) : Prop
 | mk (φ' : wz) (e : EP W φ φ' H' [] s s') (r : y = v)
noncomputable def SE (W : Wd) (n : Nat) (env : Env) (sl : List (Option Str)) (e : Expr) (f : DE) : Prop :=
 ∀ A φ lo H s v H', f lo H = some (v, H') → zal n A → Sim W φ H s.heap → Loc W env sl lo φ s.heap →
  wpAny (model W.prog W.w) A (eval e env) (QE W φ H' s v) NoE s
inductive RFl (W : Wd) (φ : wz) (h : Heap) : Fl → Flow → Prop
 | next : RFl W φ h .next .next
 | brk : RFl W φ h .brk .brk
 | cont : RFl W φ h .cont .cont
 | ret {v : MV} {y : Value} (r : RV W.base φ h v y) : RFl W φ h (.ret v) (.ret y)
inductive QS (W : Wd) (env : Env) (sl : List (Option Str)) (φ : wz) (s : Shared) (fl : Fl) (lo' : Lo) (H' : St) (y : Flow) (s' : Shared) : Prop
 | mk (φ' : wz) (e : EP W φ φ' H' (kq env) s s') (l : Loc W env sl lo' φ' s'.heap) (r : RFl W φ' s'.heap fl y)
inductive QT (W : Wd) (env : Env) (sl : List (Option Str)) (T : List Addr) (φ : wz) (s : Shared) (lo' : Lo) (H' : St) (_ : Unit) (s' : Shared) : Prop
 | mk (φ' : wz) (e : EP W φ φ' H' T s s') (l : Loc W env sl lo' φ' s'.heap)
noncomputable def SS (W : Wd) (n : Nat) (env : Env) (sl : List (Option Str)) (t : Stmt) (f : DS) : Prop :=
 ∀ A φ lo H s fl lo' H', f lo H = some (fl, lo', H') → zal n A → Sim W φ H s.heap → Loc W env sl lo φ s.heap →
  wpAny (model W.prog W.w) A (exec t env) (QS W env sl φ s fl lo' H') NoE s
noncomputable def SB (W : Wd) (n : Nat) (env : Env) (sl : List (Option Str)) (t : List Stmt) (f : DS) : Prop :=
 ∀ A φ lo H s fl lo' H', f lo H = some (fl, lo', H') → zal n A → Sim W φ H s.heap → Loc W env sl lo φ s.heap →
  wpAny (model W.prog W.w) A (execs t env) (QS W env sl φ s fl lo' H') NoE s
theorem EP.trans {W : Wd} {φ φ' φ'' : wz} {H' H'' : St} {S : List Addr} {s s' s'' : Shared} (x : EP W φ φ' H' S s s') (y : EP W φ' φ'' H'' S s' s'') : EP W φ φ'' H'' S s s'' :=
 ⟨y.sim, x.post.trans y.post, x.same.trans y.same⟩
theorem EP.weaken {W : Wd} {φ φ' : wz} {H' : St} {S S' : List Addr} {s s' : Shared} (x : EP W φ φ' H' S s s') (h : ∀ a ∈ S, a ∈ S') : EP W φ φ' H' S' s s' := ⟨x.sim, x.post.weaken h, x.same⟩
theorem EP.zero {W : Wd} {φ φ' : wz} {H' : St} {S : List Addr} {s s' : Shared} (x : EP W φ φ' H' [] s s') : EP W φ φ' H' S s s' := x.weaken fun _ h => nomatch h
theorem EP.refl {W : Wd} {φ : wz} {H : St} {S : List Addr} {s : Shared} (x : Sim W φ H s.heap) : EP W φ φ H S s s := ⟨x, .refl .., .refl s⟩
theorem EP.tok {W : Wd} {φ : wz} {H : St} {S : List Addr} {s : Shared} (x : Sim W φ H s.heap) (t : Nat) : EP W φ φ H S s { s with toks := t } := ⟨x, .refl .., ⟨s.heap, t, rfl⟩⟩
theorem noE {α : Type} {M : Model} {A : Around} {t : Sem α} {Q : α → Shared → Prop} {E : Value → Shared → Prop} {s : Shared} (h : wpAny M A t Q NoE s) : wpAny M A t Q E s :=
 wpAny_mono h (fun _ _ x => x) fun _ _ x => x.elim
section
variable {W : Wd} {n : Nat} {env : Env} {sl : List (Option Str)}
noncomputable def zd (i : Nat) : DE := fun lo H => lo[i]?.join.map fun v => (v, H)
theorem se_loc {i : Nat} {x : Str} {pos : Pos} (hx : sl[i]? = some (some x)) (hk : env.kindOf x = some .local ∨ env.kindOf x = some .cell) (hd : (x == ("__debug__" : Str)) = false) : SE W n env sl (.Name x pos) (zd i) := by
 intro A φ lo H s v H' hf _ S L
 obtain ⟨v', h1, h2⟩ := zvv.mp hf
 have hv := Option.join_eq_some_iff.mp h1
 cases h2
 rcases hk with hk | hk
 ·obtain ⟨m, hm, hr⟩ := L.loc
  obtain ⟨y, e, r⟩ := hr i x _ hx hk hv
  exact wpAny_Name (wpAny_loadName_local L.kind hk hm e ⟨φ, .refl S, r⟩) hd
 ·obtain ⟨c, y, e1, e2, r⟩ := L.cel i x _ hx hk hv
  exact wpAny_Name (wpAny_loadName_cell L.kind hk e1 e2 ⟨φ, .refl S, r⟩) hd
noncomputable def zh (v : MV) : DE := fun _ H => some (v, H)
theorem z8 {i : Int} {k : Nat} {pos : Pos} : SE W n env sl (.Constant (.int i) k pos) (zh (.int i)) := by
 intro A φ lo H s v H' hf _ S L
 cases hf
 exact wpAny_Constant_int ⟨φ, .tok S _, .int ..⟩
theorem zdu {k : Nat} {pos : Pos} : SE W n env sl (.Constant .none k pos) (zh .none) := by
 intro A φ lo H s v H' hf _ S L
 cases hf
 exact wpAny_pure ⟨φ, .refl S, .none⟩
theorem up {b : Bool} {k : Nat} {pos : Pos} : SE W n env sl (.Constant (.bool b) k pos) (zh (.bool b)) := by
 intro A φ lo H s v H' hf _ S L
 cases hf
 exact wpAny_pure ⟨φ, .refl S, .bool _⟩
theorem zdq {A : Around} {s : Shared} {x : Str} {pos : Pos} {v : Value} {Q : Value → Shared → Prop} {E : Value → Shared → Prop} {lo : Lo} {φ : wz} {H : St} (S : Sim W φ H s.heap) (L : Loc W env sl lo φ s.heap)
  (e : nsIn W.K mainGlobals x = some (some v)) (hx : env.kindOf x = some .globalImplicit) (hd : (x == ("__debug__" : Str)) = false) (q : Q v s) : wpAny (model W.prog W.w) A (eval (.Name x pos) env) Q E s :=
 Name_function_global L.kind hx (loadGlobal_global (env := env) (by rw [L.glob]; exact W.T.g.keeps S.base) (mg_of W.KX W.T.g e) q) hd
theorem zk3 {A : Around} {s : Shared} {x : Str} {pos : Pos} {v : Value} {Q : Value → Shared → Prop} {E : Value → Shared → Prop} {lo : Lo} {φ : wz} {H : St} (S : Sim W φ H s.heap) (L : Loc W env sl lo φ s.heap)
  (e : nsIn W.K mainGlobals x = some none) (hv : bootBuiltins x = some v) (hn : x ≠ "__name__") (hx : env.kindOf x = some .globalImplicit) (hd : (x == ("__debug__" : Str)) = false) (q : Q v s) : wpAny (model W.prog W.w) A (eval (.Name x pos) env) Q E s :=
 Name_function_global L.kind hx (loadGlobal_builtin (env := env) (by rw [L.glob]; exact W.T.g.keeps S.base) (mg_none_of W.KX W.T.g e) (by rw [L.blt]; exact W.T.b.keeps S.base) ((W.T.builtins x hn).trans hv) q) hd
theorem ww {x : Str} {pos : Pos} {i : Int} {t : Tok} (e : nsIn W.K mainGlobals x = some (some (.int i t))) (hx : env.kindOf x = some .globalImplicit) (hd : (x == ("__debug__" : Str)) = false) : SE W n env sl (.Name x pos) (zh (.int i)) := by
 intro A φ lo H s v H' hf _ S L
 cases hf
 exact zdq S L e hx hd ⟨φ, .refl S, .int ..⟩
end
end Mine
namespace Mine
noncomputable def bnd {α β : Type} (x : Option (α × St)) (k : α → St → Option β) : Option β := match x with
 | some (a, H) => k a H
 | none => none
@[simp] theorem bnd_some {α β : Type} {a : α} {H : St} {k : α → St → Option β} : bnd (some (a, H)) k = k a H := rfl
@[simp] theorem bnd_none {α β : Type} {k : α → St → Option β} : bnd none k = none := rfl
theorem wn {α β : Type} {x : Option (α × St)} {k : α → St → Option β} {r : β} (h : bnd x k = some r) : ∃ a H, x = some (a, H) ∧ k a H = some r := by
 unfold bnd at h
 split at h
 ·exact ⟨_, _, rfl, h⟩
 ·cases h
noncomputable def zg4 {α : Type} (v : MV) (k : Option α) : Option α := match v with
 | .none => k
 | _ => none
noncomputable def uo {α : Type} (v : MV) (k : Int → Option α) : Option α := match v with
 | .int a => k a
 | _ => none
noncomputable def jq {α : Type} (v : MV) (k : Nat → Option α) : Option α := match v with
 | .ref a => k a
 | _ => none
noncomputable def ziw {α : Type} (v : MV) (k : List MV → Option α) : Option α := match v with
 | .tup a => k a
 | _ => none
noncomputable def aFrz {α : Type} (v : MV) (k : List Int → Option α) : Option α := match v with
 | .frz a => k a
 | _ => none
noncomputable def zk5 {α β : Type} (l : List β) (k : β → List β → Option α) : Option α := match l with
 | x :: r => k x r
 | _ => none
noncomputable def aNil {α β : Type} (l : List β) (k : Option α) : Option α := match l with
 | [] => k
 | _ => none
noncomputable def y4 {α : Type} (o : Option MO) (k : List MV → Option α) : Option α := match o with
 | some (.list l) => k l
 | _ => none
noncomputable def zeg {α : Type} (c : Nat) (o : Option MO) (k : List MV → Option α) : Option α := match o with
 | some (.obj c' l) => if c' = c then k l else none
 | _ => none
noncomputable def zbw {α β : Type} (l : List β) (k : β → Option α) : Option α := match l with
 | [x] => k x
 | _ => none
section
variable {α β : Type} {v : MV} {r : α} {P : Prop}
theorem zg4.i {k : Option α} (h : zg4 v k = some r) (f : v = .none → k = some r → P) : P := by cases v <;> first | exact f rfl h | cases h
theorem uo.i {k : Int → Option α} (h : uo v k = some r) (f : ∀ a, v = .int a → k a = some r → P) : P := by cases v <;> first | exact f _ rfl h | cases h
theorem jq.i {k : Nat → Option α} (h : jq v k = some r) (f : ∀ a, v = .ref a → k a = some r → P) : P := by cases v <;> first | exact f _ rfl h | cases h
theorem ziw.i {k : List MV → Option α} (h : ziw v k = some r) (f : ∀ a, v = .tup a → k a = some r → P) : P := by cases v <;> first | exact f _ rfl h | cases h
theorem aFrz.i {k : List Int → Option α} (h : aFrz v k = some r) (f : ∀ a, v = .frz a → k a = some r → P) : P := by cases v <;> first | exact f _ rfl h | cases h
theorem zk5.i {l : List β} {k : β → List β → Option α} (h : zk5 l k = some r) (f : ∀ x t, l = x :: t → k x t = some r → P) : P := by cases l <;> first | exact f _ _ rfl h | cases h
theorem aNil.i {l : List β} {k : Option α} (h : aNil l k = some r) (f : l = [] → k = some r → P) : P := by cases l <;> first | exact f rfl h | cases h
theorem y4.i {o : Option MO} {k : List MV → Option α} (h : y4 o k = some r) (f : ∀ l, o = some (.list l) → k l = some r → P) : P := by
 rcases o with _ | o
 ·cases h
 ·cases o <;> first | exact f _ rfl h | cases h
theorem zbw.i {l : List β} {k : β → Option α} (h : zbw l k = some r) (f : ∀ x, l = [x] → k x = some r → P) : P := by
 rcases l with _ | ⟨x, _ | _⟩ <;> first | exact f _ rfl h | cases h
theorem ja {c : Prop} {_ : Decidable c} {a : Option α} (h : (if c then a else none) = some r) (f : c → a = some r → P) : P := by
 by_cases q : c
 ·rw [if_pos q] at h; exact f q h
 ·rw [if_neg q] at h; cases h
theorem zeg.i {c : Nat} {o : Option MO} {k : List MV → Option α} (h : zeg c o k = some r) (f : ∀ l, o = some (.obj c l) → k l = some r → P) : P := by
 rcases o with _ | o
 ·cases h
 ·cases o <;> first | exact ja h fun e h => f _ (e ▸ rfl) h | cases h
theorem zlt {c : Prop} {_ : Decidable c} {a : Option α} (h : (if c then none else a) = some r) (f : ¬c → a = some r → P) : P := by
 by_cases q : c
 ·rw [if_pos q] at h; cases h
 ·rw [if_neg q] at h; exact f q h
end
noncomputable def ST (W : Wd) (n : Nat) (env : Env) (sl : List (Option Str)) (e : Expr) (f : Lo → St → Option (Bool × St)) : Prop :=
 ∀ A φ lo H s v H', f lo H = some (v, H') → zal n A → Sim W φ H s.heap → Loc W env sl lo φ s.heap →
  wpAny (model W.prog W.w) A (isTrue e env (eval e env)) (QB W φ H' s v) NoE s
noncomputable def tru : MV → Option Bool
 | .bool b => some b
 | .int i => some (i != 0)
 | .none => some false
 | _ => none
section
variable {W : Wd} {n : Nat} {env : Env} {sl : List (Option Str)} {A : Around}
theorem zfh {v : MV} {y : Value} {b : Bool} {φ : wz} {H : St} {s : Shared} (ht : tru v = some b) (S : Sim W φ H s.heap) (r : RV W.base φ s.heap v y) :
  wpAny (model W.prog W.w) A (truthy y) (QB W φ H s b) NoE s := by
 cases r <;> cases ht
 ·exact wpAny_pure ⟨φ, .refl S, rfl⟩
 ·exact wpAny_truthy_bool ⟨φ, .refl S, rfl⟩
 ·exact P.truthy_int ⟨φ, .refl S, rfl⟩
noncomputable def uf (f : DE) : DE := fun lo H => bnd (f lo H) fun a H => uo a fun i => some (.int (-i), H)
theorem xf {x : Expr} {pos : Pos} {f : DE} (hx : SE W n env sl x f) : SE W n env sl (.UnaryOp .USub x pos) (uf f) := by
 intro A φ lo H s v H' hf R S L
 obtain ⟨a, H1, h1, h2⟩ := wn hf
 refine UnaryOp_ (wpAny_mono (hx A φ lo H s a H1 h1 R S L) (fun y s1 ⟨φ1, E1, r1⟩ => ?_) fun _ _ x => x)
 refine uo.i h2 fun i e h2 => ?_
 subst e
 obtain ⟨t, rfl⟩ := r1.int_inv
 refine inj2 ?_ h2
 exact P.neg_int ⟨φ1, E1.trans (.tok E1.sim _), .int ..⟩
noncomputable def zbd (f : Lo → St → Option (Bool × St)) : Lo → St → Option (Bool × St) := fun lo H => bnd (f lo H) fun a H => some (!a, H)
theorem zds {x : Expr} {pos : Pos} {f : Lo → St → Option (Bool × St)} (hx : ST W n env sl x f) : ST W n env sl (.UnaryOp .Not x pos) (zbd f) := by
 intro A φ lo H s v H' hf R S L
 obtain ⟨a, H1, h1, h2⟩ := wn hf
 refine inj2 ?_ h2
 exact isTrue_not (wpAny_mono (hx A φ lo H s a _ h1 R S L) (fun y s1 ⟨φ1, E1, r1⟩ => ⟨φ1, E1, by rw [r1]⟩) fun _ _ x => x)
noncomputable def qd (f : DE) : Lo → St → Option (Bool × St) := fun lo H => bnd (f lo H) fun a H => (tru a).map fun b => (b, H)
theorem st_val {e : Expr} {f : DE} (hx : SE W n env sl e f) (he : isTrue e env (eval e env) = (do let v ← eval e env; standAt e.pos; holding [v] (truthy v))) : ST W n env sl e (qd f) := by
 intro A φ lo H s v H' hf R S L
 obtain ⟨a, H1, h1, h2⟩ := wn hf
 obtain ⟨b, hb, h3⟩ := zvv.mp h2
 cases h3
 refine wpAny_isTrue_value (wpAny_mono (hx A φ lo H s a _ h1 R S L) (fun y s1 ⟨φ1, E1, r1⟩ => ?_) fun _ _ x => x) he
 exact wpAny_mono (zfh hb E1.sim r1) (fun c s2 ⟨φ2, E2, r2⟩ => ⟨φ2, E1.trans E2, r2⟩) fun _ _ x => x
noncomputable def zb2 (f : Lo → St → Option (Bool × St)) : DE := fun lo H => bnd (f lo H) fun a H => some (.bool a, H)
noncomputable def zbt (t : Lo → St → Option (Bool × St)) (f g : DE) : DE := fun lo H => bnd (t lo H) fun b H => if b then f lo H else g lo H
theorem zf7 {t b o : Expr} {pos : Pos} {ft : Lo → St → Option (Bool × St)} {f g : DE} (ht : ST W n env sl t ft) (hb : SE W n env sl b f) (ho : SE W n env sl o g) : SE W n env sl (.IfExp t b o pos) (zbt ft f g) := by
 intro A φ lo H s v H' hf R S L
 obtain ⟨a, H1, h1, h2⟩ := wn hf
 refine IfExp_ (wpAny_mono (ht A φ lo H s a H1 h1 R S L) (fun y s1 ⟨φ1, E1, r1⟩ => ?_) fun _ _ x => x)
 subst r1
 cases y
 ·exact wpAny_mono (ho A φ1 lo H1 s1 v H' h2 R E1.sim (L.post0 E1.post)) (fun y s2 ⟨φ2, E2, r2⟩ => ⟨φ2, E1.trans E2, r2⟩) fun _ _ x => x
 ·exact wpAny_mono (hb A φ1 lo H1 s1 v H' h2 R E1.sim (L.post0 E1.post)) (fun y s2 ⟨φ2, E2, r2⟩ => ⟨φ2, E1.trans E2, r2⟩) fun _ _ x => x
noncomputable def km (f g : Lo → St → Option (Bool × St)) : Lo → St → Option (Bool × St) := fun lo H => bnd (f lo H) fun b H => if b then g lo H else some (false, H)
noncomputable def ue (f g : Lo → St → Option (Bool × St)) : Lo → St → Option (Bool × St) := fun lo H => bnd (f lo H) fun b H => if b then some (true, H) else g lo H
noncomputable def zg8 : Lo → St → Option (Bool × St) := fun _ H => some (true, H)
noncomputable def zl1 : Lo → St → Option (Bool × St) := fun _ H => some (false, H)
theorem xe {pos : Pos} : ST W n env sl (.BoolOp .And [] pos) zg8 := by
 intro A φ lo H s v H' hf R S L
 refine inj2 ?_ hf
 exact isTrue_and_nil ⟨φ, .refl S, rfl⟩
theorem zaq {pos : Pos} : ST W n env sl (.BoolOp .Or [] pos) zl1 := by
 intro A φ lo H s v H' hf R S L
 refine inj2 ?_ hf
 exact isTrue_or_nil ⟨φ, .refl S, rfl⟩
theorem zar {x : Expr} {r : List Expr} {pos : Pos} {f g : Lo → St → Option (Bool × St)} (hx : ST W n env sl x f) (hr : ST W n env sl (.BoolOp .And r pos) g) : ST W n env sl (.BoolOp .And (x :: r) pos) (km f g) := by
 intro A φ lo H s v H' hf R S L
 obtain ⟨a, H1, h1, h2⟩ := wn hf
 refine isTrue_and (wpAny_mono (hx A φ lo H s a H1 h1 R S L) (fun y s1 ⟨φ1, E1, r1⟩ => ?_) fun _ _ x => x)
 subst r1
 cases y
 ·refine inj2 ?_ h2; exact ⟨φ1, E1, rfl⟩
 ·exact wpAny_mono (hr A φ1 lo H1 s1 v H' h2 R E1.sim (L.post0 E1.post)) (fun y s2 ⟨φ2, E2, r2⟩ => ⟨φ2, E1.trans E2, r2⟩) fun _ _ x => x
theorem zav {x : Expr} {r : List Expr} {pos : Pos} {f g : Lo → St → Option (Bool × St)} (hx : ST W n env sl x f) (hr : ST W n env sl (.BoolOp .Or r pos) g) : ST W n env sl (.BoolOp .Or (x :: r) pos) (ue f g) := by
 intro A φ lo H s v H' hf R S L
 obtain ⟨a, H1, h1, h2⟩ := wn hf
 refine isTrue_or (wpAny_mono (hx A φ lo H s a H1 h1 R S L) (fun y s1 ⟨φ1, E1, r1⟩ => ?_) fun _ _ x => x)
 subst r1
 cases y
 ·exact wpAny_mono (hr A φ1 lo H1 s1 v H' h2 R E1.sim (L.post0 E1.post)) (fun y s2 ⟨φ2, E2, r2⟩ => ⟨φ2, E1.trans E2, r2⟩) fun _ _ x => x
 ·refine inj2 ?_ h2; exact ⟨φ1, E1, rfl⟩
noncomputable def zga (f g : DE) : DE := fun lo H => bnd (f lo H) fun v H => match tru v with
 | some true => g lo H
 | some false => some (v, H)
 | zvz => zvz
theorem zpl {op : BoolOp} {x : Expr} {pos : Pos} {f : DE} (hx : SE W n env sl x f) : SE W n env sl (.BoolOp op [x] pos) f :=
 fun A φ lo H s v H' hf R S L => BoolOp_one (hx A φ lo H s v H' hf R S L)
theorem zqf {x y : Expr} {r : List Expr} {pos : Pos} {f g : DE} (hx : SE W n env sl x f) (hr : SE W n env sl (.BoolOp .And (y :: r) pos) g) : SE W n env sl (.BoolOp .And (x :: y :: r) pos) (zga f g) := by
 intro A φ lo H s v H' hf R S L
 obtain ⟨a, H1, h1, h2⟩ := wn hf
 refine BoolOp_and (wpAny_mono (hx A φ lo H s a H1 h1 R S L) (fun y s1 ⟨φ1, E1, r1⟩ => ?_) fun _ _ x => x)
 split at h2
 ·rename_i ht
  refine wpAny_mono (zfh ht E1.sim r1) (fun c s2 ⟨φ2, E2, r2⟩ => ?_) fun _ _ x => x
  subst r2
  exact wpAny_mono (hr A φ2 lo H1 s2 v H' h2 R E2.sim ((L.post0 E1.post).post0 E2.post)) (fun y s3 ⟨φ3, E3, r3⟩ => ⟨φ3, (E1.trans E2).trans E3, r3⟩) fun _ _ x => x
 ·rename_i ht
  refine inj2 ?_ h2
  refine wpAny_mono (zfh ht E1.sim r1) (fun c s2 ⟨φ2, E2, r2⟩ => ?_) fun _ _ x => x
  subst r2
  exact ⟨φ2, E1.trans E2, r1.post E2.post⟩
 ·cases h2
noncomputable def zqt (W : Wd) (op : Operator) (b : MV → MV → St → Option (MV × St)) : Prop :=
 ∀ A φ x y H s v H' ex ey, b x y H = some (v, H') → A.handled = none → Sim W φ H s.heap → RV W.base φ s.heap x ex → RV W.base φ s.heap y ey →
  wpAny (model W.prog W.w) A (binaryOp op ex ey) (QE W φ H' s v) NoE s
noncomputable def wo (b : MV → MV → St → Option (MV × St)) (f g : DE) : DE := fun lo H => bnd (f lo H) fun x H => bnd (g lo H) fun y H => b x y H
theorem yl {op : Operator} {b : MV → MV → St → Option (MV × St)} {l r : Expr} {pos : Pos} {f g : DE} (ho : zqt W op b) (hl : SE W n env sl l f) (hr : SE W n env sl r g) : SE W n env sl (.BinOp l op r pos) (wo b f g) := by
 intro A φ lo H s v H' hf R S L
 obtain ⟨x, H1, h1, h2⟩ := wn hf
 obtain ⟨y, H2, h3, h4⟩ := wn h2
 refine wpAny_BinOp (wpAny_mono (hl A φ lo H s x H1 h1 R S L) (fun ex s1 ⟨φ1, E1, r1⟩ => ?_) fun _ _ x => x)
 refine wpAny_mono (hr A φ1 lo H1 s1 y H2 h3 R E1.sim (L.post0 E1.post)) (fun ey s2 ⟨φ2, E2, r2⟩ => ?_) fun _ _ x => x
 exact wpAny_mono (ho A φ2 x y H2 s2 v H' ex ey h4 R.1 E2.sim (r1.post E2.post) r2) (fun z s3 ⟨φ3, E3, r3⟩ => ⟨φ3, (E1.trans E2).trans E3, r3⟩) fun _ _ x => x
theorem zlw {φ : wz} {H : St} {h : Heap} (S : Sim W φ H h) (o : Obj) (ho : o.isFreed = false) (a : Addr) : ju φ (φ ++ [(a, h.objs.size)]) [] h (h.push o) := by
 refine ⟨ztj .., fun p hp => ?_, fun b x e _ _ => zwk _ e, fun b x e _ => zwk _ e, fun b x e => ⟨x, zwk _ e⟩⟩
 rcases zs0.mp hp with q | q
 ·exact .inl q
 ·simp at q; subst q
  right
  cases e : h.get? h.objs.size with
  | none => rfl
  | some o' => exact absurd (zwm e) (zwx _)
theorem zru {φ : wz} {H : St} {h : Heap} (S : Sim W φ H h) {o : Obj} {m : MO} (ho : o.isFreed = false)
  (q : OR W φ (h.push o) m h.objs.size h.objs.size) : Sim W (φ ++ [(h.objs.size, h.objs.size)]) (H ++ [m]) (h.push o) := by
 have k : ∀ b x, h.get? b = some x → (h.push o).get? b = some x := fun b x e => zwk _ e
 have nf : h.get? h.objs.size = none := by
  cases e : h.get? h.objs.size with
  | none => rfl
  | some o' => exact absurd (zwm e) (zwx _)
 have S' : Sim W φ H (h.push o) := S.keep (T := []) ⟨zsw, fun _ hp => .inl hp, fun b x e _ _ => k b x e, fun b x e _ => k b x e, fun b x e => ⟨x, k b x e⟩⟩ (fun a ha => nomatch ha) fun b x e _ => k b x e
 refine S'.new (fun hm => ?_) ?_ q
 ·obtain ⟨p, hp, e⟩ := zso.mp hm
  obtain ⟨x, hx, _⟩ := S.carrier hp
  rw [e, nf] at hx; cases hx
 ·cases e : W.base.get? h.objs.size with
  | none => rfl
  | some x => have := S.base _ _ e; rw [nf] at this; cases this
theorem zkp {φ : wz} {H : St} {s : Shared} {l : List MV} {vs : List Value} {t : Nat} (S : Sim W φ H s.heap) (r : RVs W.base φ s.heap l vs) (n : Nat := 0) :
  EP W φ (φ ++ [(s.heap.objs.size, s.heap.objs.size)]) (H ++ [.list l]) [] s { s with heap := s.heap.push (lst vs.toArray n), toks := t } ∧
   RV W.base (φ ++ [(s.heap.objs.size, s.heap.objs.size)]) (s.heap.push (lst vs.toArray n)) (.ref H.length) (.ref s.heap.objs.size) := by
 refine ⟨⟨zru S rfl ⟨rfl, vs.toArray, n, zwl _ rfl, ?_⟩, zlw S _ rfl _, ⟨_, t, rfl⟩⟩, .ref _ _ s.heap.objs.size ?_⟩
 ·exact r.mono zsw fun b x e _ => zwk _ e
 ·rw [← S.len]; simp
noncomputable abbrev small (n : Nat) : Bool := n ≤ 1000000
noncomputable abbrev zf6 (i : Int) : Bool := -(2 ^ 60) < i && i < 2 ^ 60
noncomputable def o.add (x y : MV) (H : St) : Option (MV × St) := (uo x fun a => uo y fun b => some (.int (a + b), H)).or
 (jq x fun i => jq y fun j => y4 H[i]? fun l => y4 H[j]? fun k => if small (l.length + k.length) then some (.ref H.length, H ++ [.list (l ++ k)]) else none)
theorem gh : zqt W .Add o.add := by
 intro A φ x y H s v H' ex ey hb hA S rx ry
 rcases zvy.mp hb with hb | ⟨-, hb⟩
 ·refine uo.i hb fun a ea hb => uo.i hb fun b eb hb => inj2 ?_ hb
  subst ea eb; obtain ⟨t, rfl⟩ := rx.int_inv; obtain ⟨u, rfl⟩ := ry.int_inv
  exact P.add_int ⟨φ, .tok S _, .int ..⟩
 ·refine jq.i hb fun i ei hb => jq.i hb fun j ej hb => y4.i hb fun l hi hb => y4.i hb fun k hj hb => ja hb fun hz hb => inj2 ?_ hb
  subst ei ej
  obtain ⟨a, vs, m, rfl, -, hl, rl⟩ := S.list_of hi rx
  obtain ⟨a', ws, m', rfl, -, hk, rk⟩ := S.list_of hj ry
  obtain ⟨E1, R1⟩ := zkp (s := s) (t := s.toks) S (rl.append rk)
  have hz' : l.length + k.length ≤ 1000000 := by simpa [small] using hz
  have e : vs ++ ws = (vs.toList ++ ws.toList).toArray := by simp
  refine concat_meets ⟨_, hl, rfl⟩ ⟨_, hk, rfl⟩ noFill_list_add seq_list_add PySem.F.slot_list_add PySem.F.entry_list_add (PySem.F.args_list_add_2 _ _)
   (list_addW a a' vs ws m m' none none #[] #[] (by rw [← zxi, ← zxi, ← rl.length, ← rk.length, sizeLine_eq]; lia)) ⟨hl, hk, ?_⟩
  rw [e]
  exact ⟨_, E1, R1⟩
end
end Mine
namespace Mine
noncomputable def zi8 (f : MV → Option PyData) : List MV → Option (List PyData)
 | [] => some []
 | v :: l => (f v).bind fun d => (zi8 f l).map (d :: ·)
noncomputable def rd : Nat → St → MV → Option PyData
 | 0, _, _ => none
 | k + 1, H, v => match v with
  | .none => some .none
  | .bool b => some (.bool b)
  | .int i => some (.int i)
  | .ref i => y4 H[i]? fun l => (zi8 (rd k H) l).map .list
  | .tup l => (zi8 (rd k H) l).map .tuple
  | _ => none
section
variable {W : Wd} {n : Nat} {env : Env} {sl : List (Option Str)} {A : Around}
theorem zh5 {φ : wz} {h : Heap} {f : MV → Option PyData} (ih : ∀ {v y d}, f v = some d → RV W.base φ h v y → ∃ as, Reads h y d as) : ∀ {v : List MV} {y : List Value} {d : List PyData}, zi8 f v = some d → RVs W.base φ h v y → ∃ as, ReadsAll h y d as := by
 intro v
 induction v with
 | nil => intro y d e r; refine inj1 ?_ e; rw [r.nil_inv]; exact ⟨_, .nil⟩
 | cons v l ihl =>
  intro y d e r
  obtain ⟨y0, ys, rfl, q, r⟩ := r.cons_inv
  obtain ⟨d1, h1, e⟩ := zvx.mp e
  obtain ⟨ds, h2, rfl⟩ := zvv.mp e
  obtain ⟨as, p⟩ := ih h1 q
  obtain ⟨bs, p'⟩ := ihl h2 r
  exact ⟨_, .cons p p'⟩
theorem ze2 {φ : wz} {H : St} {h : Heap} (S : Sim W φ H h) {k : Nat} : ∀ {v : MV} {y : Value} {d : PyData}, rd k H v = some d → RV W.base φ h v y → ∃ as, Reads h y d as := by
 induction k with
 | zero => intro v y d e; cases e
 | succ k ih =>
  intro v y d e r
  cases r with
  | none => refine inj1 ?_ e; exact ⟨_, .none⟩
  | bool b => refine inj1 ?_ e; exact ⟨_, .bool b⟩
  | int i t => refine inj1 ?_ e; exact ⟨_, .int i t⟩
  | ref i a d' ha =>
   refine y4.i e fun l hl e => ?_
   obtain ⟨ds, h1, rfl⟩ := zvv.mp e
   obtain ⟨a', vs, m, e1, -, h2, r⟩ := S.list_of hl (.ref i a d' ha)
   cases e1
   obtain ⟨as, q⟩ := zh5 ih h1 r
   exact ⟨_, .list h2 rfl rfl q⟩
  | tup l a vs ht r =>
   obtain ⟨o, ho, hc, n, hd⟩ := ht
   obtain ⟨ds, h1, rfl⟩ := zvv.mp e
   obtain ⟨as, q⟩ := zh5 ih h1 r
   exact ⟨_, .tuple ho hc hd q⟩
  | frz => cases e
  | rng => cases e
noncomputable def eqD (H : St) (a b : MV) : Option Bool := (rd 8 H a).bind fun da => (rd 8 H b).bind fun db => if shaped da && shaped db then some (PyData.eqv da db) else none
theorem eqD.i {H : St} {a b : MV} {r : Bool} (e : eqD H a b = some r) : ∃ da db, rd 8 H a = some da ∧ rd 8 H b = some db ∧ (shaped da && shaped db) = true ∧ PyData.eqv da db = r := by
 obtain ⟨da, h1, e⟩ := zvx.mp e
 obtain ⟨db, h2, e⟩ := zvx.mp e
 exact ja e fun q e => ⟨da, db, h1, h2, q, zvu.inj e⟩
noncomputable def x7 : List MV → Option (List Int)
 | [] => some []
 | v :: l => uo v fun i => (x7 l).map (i :: ·)
theorem zed {φ : wz} {h : Heap} : ∀ {l : List MV} {vs : List Value} {ns : List Int}, x7 l = some ns → RVs W.base φ h l vs → IntsAre vs ns := by
 intro l
 induction l with
 | nil => intro vs ns e r; refine inj1 ?_ e; rw [r.nil_inv]; exact .nil
 | cons v l ih =>
  intro vs ns e r
  obtain ⟨y0, ys, rfl, q, r'⟩ := r.cons_inv
  refine uo.i e fun i ei e => ?_
  subst ei
  obtain ⟨t, rfl⟩ := q.int_inv
  obtain ⟨ns, h1, rfl⟩ := zvv.mp e
  exact .cons _ _ (ih h1 r')
noncomputable def isIn (a b : MV) (H : St) : Option Bool := uo a fun a => jq b fun i => y4 H[i]? fun l => (x7 l).map (·.contains a)
noncomputable def zpa (f : Int → Int → Bool) (a b : MV) : Option Bool := uo a fun a => uo b fun b => some (f a b)
noncomputable def isN (a b : MV) : Option Bool := zg4 b ((zg4 a (some true)).or (jq a fun _ => some false))
noncomputable def cmp (op : CmpOp) (a b : MV) (H : St) : Option Bool := match op with
 | .Eq => ((zpa (· == ·) a b).or (eqD H a b))
 | .NotEq => ((zpa (· != ·) a b).or ((eqD H a b).map not))
 | .Lt => zpa (fun a b => decide (a < b)) a b
 | .LtE => zpa (fun a b => decide (a ≤ b)) a b
 | .Gt => zpa (fun a b => decide (b < a)) a b
 | .GtE => zpa (fun a b => decide (b ≤ a)) a b
 | .Is => isN a b
 | .IsNot => (isN a b).map not
 | .In => isIn a b H
 | .NotIn => (isIn a b H).map not
theorem eq_any {φ : wz} {H : St} {s : Shared} {a b : MV} {x y : Value} {r : Bool} {Q : Value → Shared → Prop} {E : Value → Shared → Prop} (S : Sim W φ H s.heap) (e : eqD H a b = some r) (hu : A.units + 64 < cLine)
  (ra : RV W.base φ s.heap a x) (rb : RV W.base φ s.heap b y) (h : Q (.bool r) s) : wpAny (model W.prog W.w) A (compareOp .Eq x y) Q E s := by
 obtain ⟨da, db, h1, h2, hs, rfl⟩ := eqD.i e
 obtain ⟨as, p⟩ := ze2 S h1 ra
 obtain ⟨bs, q⟩ := ze2 S h2 rb
 exact eq_dataH p q (zxv.mp hs).1 (zxv.mp hs).2 hu h
theorem ne_any {φ : wz} {H : St} {s : Shared} {a b : MV} {x y : Value} {r : Bool} {Q : Value → Shared → Prop} {E : Value → Shared → Prop} (S : Sim W φ H s.heap) (e : eqD H a b = some r) (hu : A.units + 64 < cLine)
  (ra : RV W.base φ s.heap a x) (rb : RV W.base φ s.heap b y) (h : Q (.bool (!r)) s) : wpAny (model W.prog W.w) A (compareOp .NotEq x y) Q E s := by
 obtain ⟨da, db, h1, h2, hs, rfl⟩ := eqD.i e
 obtain ⟨as, p⟩ := ze2 S h1 ra
 obtain ⟨bs, q⟩ := ze2 S h2 rb
 exact ne_dataH p q (zxv.mp hs).1 (zxv.mp hs).2 hu h
theorem zcr (a : Int) {vs : List Value} {ns : List Int} (h : IntsAre vs ns) : vs.toArray.any (isInt a) = ns.contains a := by
 rw [List.any_toArray, any_isInt a h]
 clear h
 induction ns with
 | nil => rfl
 | cons i r ih => rw [zuk, List.contains_cons, ih, Bool.beq_comm]
theorem zat {f : Int → Int → Bool} {a b : MV} {r : Bool} (h : zpa f a b = some r) : ∃ i j, a = .int i ∧ b = .int j ∧ r = f i j := by
 exact uo.i h fun i ei h => uo.i h fun j ej h => ⟨i, j, ei, ej, (zvu.inj h).symm⟩
theorem zih {a b : MV} {H : St} {r : Bool} (h : isIn a b H = some r) : ∃ i j l ns, a = .int i ∧ b = .ref j ∧ H[j]? = some (.list l) ∧ x7 l = some ns ∧ r = ns.contains i := by
 refine uo.i h fun i ei h => jq.i h fun j ej h => y4.i h fun l hl h => ?_
 obtain ⟨ns, h1, h2⟩ := zvv.mp h
 exact ⟨i, j, l, ns, ei, ej, hl, h1, h2.symm⟩
theorem zku {a b : MV} {r : Bool} (h : isN a b = some r) : b = .none ∧ (a = .none ∧ r = true ∨ (∃ i, a = .ref i) ∧ r = false) := by
 refine zg4.i h fun e h => ⟨e, ?_⟩
 rcases zvy.mp h with h | ⟨-, h⟩
 ·exact zg4.i h fun e h => .inl ⟨e, (zvu.inj h).symm⟩
 ·exact jq.i h fun i e h => .inr ⟨⟨i, e⟩, (zvu.inj h).symm⟩
theorem zqn {op : CmpOp} {φ : wz} {H : St} {s : Shared} {a b : MV} {x y : Value} {r : Bool} {Q : Value → Shared → Prop} {E : Value → Shared → Prop} (S : Sim W φ H s.heap) (e : cmp op a b H = some r) (hu : A.units + 64 < cLine)
  (ra : RV W.base φ s.heap a x) (rb : RV W.base φ s.heap b y) (h : Q (.bool r) s) : wpAny (model W.prog W.w) A (compareOp op x y) Q E s := by
 cases op with
 | Eq =>
  rcases zvy.mp e with e | ⟨_, e⟩
  ·obtain ⟨i, j, rfl, rfl, rfl⟩ := zat e; obtain ⟨t, rfl⟩ := ra.int_inv; obtain ⟨u, rfl⟩ := rb.int_inv; exact P.eq_int h
  ·exact eq_any S e hu ra rb h
 | NotEq =>
  rcases zvy.mp e with e | ⟨_, e⟩
  ·obtain ⟨i, j, rfl, rfl, rfl⟩ := zat e; obtain ⟨t, rfl⟩ := ra.int_inv; obtain ⟨u, rfl⟩ := rb.int_inv; exact P.ne_int h
  ·obtain ⟨r', h1, rfl⟩ := zvv.mp e; exact ne_any S h1 hu ra rb h
 | Lt => obtain ⟨i, j, rfl, rfl, rfl⟩ := zat e; obtain ⟨t, rfl⟩ := ra.int_inv; obtain ⟨u, rfl⟩ := rb.int_inv; exact P.lt_int h
 | LtE => obtain ⟨i, j, rfl, rfl, rfl⟩ := zat e; obtain ⟨t, rfl⟩ := ra.int_inv; obtain ⟨u, rfl⟩ := rb.int_inv; exact P.le_int h
 | Gt => obtain ⟨i, j, rfl, rfl, rfl⟩ := zat e; obtain ⟨t, rfl⟩ := ra.int_inv; obtain ⟨u, rfl⟩ := rb.int_inv; exact P.gt_int h
 | GtE => obtain ⟨i, j, rfl, rfl, rfl⟩ := zat e; obtain ⟨t, rfl⟩ := ra.int_inv; obtain ⟨u, rfl⟩ := rb.int_inv; exact P.ge_int h
 | Is =>
  obtain ⟨rfl, ⟨rfl, rfl⟩ | ⟨⟨i, rfl⟩, rfl⟩⟩ := zku e
  ·rw [ra.none_inv, rb.none_inv]; exact is_none h
  ·obtain ⟨a, d, rfl, -⟩ := ra.ref_inv; rw [rb.none_inv]; exact is_none h
 | IsNot =>
  obtain ⟨r', h1, rfl⟩ := zvv.mp e
  obtain ⟨rfl, ⟨rfl, rfl⟩ | ⟨⟨i, rfl⟩, rfl⟩⟩ := zku h1
  ·rw [ra.none_inv, rb.none_inv]; exact isNot_none h
  ·obtain ⟨a, d, rfl, -⟩ := ra.ref_inv; rw [rb.none_inv]; exact isNot_none h
 | In =>
  obtain ⟨i, j, l, ns, rfl, rfl, hl, h1, rfl⟩ := zih e
  obtain ⟨t, rfl⟩ := ra.int_inv
  obtain ⟨a', vs, m, rfl, -, h2, rl⟩ := S.list_of hl rb
  have hi := zed h1 rl
  refine PySem.SeqInW.in_listW (items := vs) (isInt _) (fun y hy => eq_isInt _ _ hi y (zxm.mpr hy)) ⟨_, h2, rfl, _, rfl⟩ ?_
  have := zcr i hi
  rw [zxj] at this
  rw [this]; exact h
 | NotIn =>
  obtain ⟨r', h0, rfl⟩ := zvv.mp e
  obtain ⟨i, j, l, ns, rfl, rfl, hl, h1, rfl⟩ := zih h0
  obtain ⟨t, rfl⟩ := ra.int_inv
  obtain ⟨a', vs, m, rfl, -, h2, rl⟩ := S.list_of hl rb
  have hi := zed h1 rl
  refine PySem.SeqInW.notIn_listW (items := vs) (isInt _) (fun y hy => eq_isInt _ _ hi y (zxm.mpr hy)) ⟨_, h2, rfl, _, rfl⟩ ?_
  have := zcr i hi
  rw [zxj] at this
  rw [this]; exact h
noncomputable def z9 (op : CmpOp) (f g : DE) : Lo → St → Option (Bool × St) := fun lo H => bnd (f lo H) fun x H => bnd (g lo H) fun y H => (cmp op x y H).map fun b => (b, H)
noncomputable def zch (op : CmpOp) (f g : DE) : DE := zb2 (z9 op f g)
theorem zal.units {A : Around} (R : zal n A) : A.units + 64 < cLine := by
 have := R.2.2
 have := cLine_is
 lia
theorem st_cmp {op : CmpOp} {l r : Expr} {pos : Pos} {f g : DE} (hl : SE W n env sl l f) (hr : SE W n env sl r g) (hm : behindInMarks op r = false) : ST W n env sl (.Compare l [op] [r] pos) (z9 op f g) := by
 intro A φ lo H s v H' hf R S L
 obtain ⟨x, H1, h1, h2⟩ := wn hf
 obtain ⟨y, H2, h3, h4⟩ := wn h2
 obtain ⟨b, h5, h6⟩ := zvv.mp h4
 cases h6
 refine wpAny_isTrue_Compare1 (wpAny_mono (hl A φ lo H s x H1 h1 R S L) (fun ex s1 ⟨φ1, E1, r1⟩ => ?_) fun _ _ x => x) hm
 refine wpAny_mono (hr A φ1 lo H1 s1 y _ h3 R E1.sim (L.post0 E1.post)) (fun ey s2 ⟨φ2, E2, r2⟩ => ?_) fun _ _ x => x
 exact zqn E2.sim h5 R.units (r1.post E2.post) r2 (wpAny_truthy_bool ⟨φ2, E1.trans E2, rfl⟩)
theorem se_cmp {op : CmpOp} {l r : Expr} {pos : Pos} {f g : DE} (hl : SE W n env sl l f) (hr : SE W n env sl r g) (hm : behindInMarks op r = false) : SE W n env sl (.Compare l [op] [r] pos) (zch op f g) := by
 intro A φ lo H s v H' hf R S L
 obtain ⟨q, H0, h0, hq⟩ := wn hf
 refine inj2 ?_ hq
 obtain ⟨x, H1, h1, h2⟩ := wn h0
 obtain ⟨y, H2, h3, h4⟩ := wn h2
 obtain ⟨b, h5, h6⟩ := zvv.mp h4
 cases h6
 refine wpAny_Compare1 (wpAny_mono (hl A φ lo H s x H1 h1 R S L) (fun ex s1 ⟨φ1, E1, r1⟩ => ?_) fun _ _ x => x) hm
 refine wpAny_mono (hr A φ1 lo H1 s1 y _ h3 R E1.sim (L.post0 E1.post)) (fun ey s2 ⟨φ2, E2, r2⟩ => ?_) fun _ _ x => x
 exact zqn E2.sim h5 R.units (r1.post E2.post) r2 ⟨φ2, E1.trans E2, .bool _⟩
noncomputable def o.sub (x y : MV) (H : St) : Option (MV × St) := uo x fun a => uo y fun b => some (.int (a - b), H)
theorem zbe : zqt W .Sub o.sub := by
 intro A φ x y H s v H' ex ey hb hA S rx ry
 refine uo.i hb fun a ea hb => uo.i hb fun b eb hb => inj2 ?_ hb
 subst ea eb; obtain ⟨t, rfl⟩ := rx.int_inv; obtain ⟨u, rfl⟩ := ry.int_inv
 exact P.sub_int ⟨φ, .tok S _, .int ..⟩
noncomputable def o.mul (x y : MV) (H : St) : Option (MV × St) := uo y fun k => (uo x fun a => if zf6 a then some (.int (a * k), H) else none).or
 (jq x fun i => y4 H[i]? fun l => zbw l fun x => if 0 ≤ k ∧ k ≤ 1000000 then some (.ref H.length, H ++ [.list (zsp k.toNat x)]) else none)
noncomputable def o.mod (x y : MV) (H : St) : Option (MV × St) := uo x fun a => uo y fun b => if b == 0 then none else some (.int (a.fmod b), H)
theorem zjm : zqt W .Mod o.mod := by
 intro A φ x y H s v H' ex ey hb hA S rx ry
 refine uo.i hb fun a ea hb => uo.i hb fun b eb hb => zlt hb fun hz hb => inj2 ?_ hb
 subst ea eb; obtain ⟨t, rfl⟩ := rx.int_inv; obtain ⟨u, rfl⟩ := ry.int_inv
 exact PyProof.Rows.mod_int (by simpa using hz) ⟨φ, .tok S _, .int ..⟩
noncomputable def o.fdiv (x y : MV) (H : St) : Option (MV × St) := uo x fun a => uo y fun b => if b == 0 then none else if b.natAbs < 1073741824 then some (.int (a.fdiv b), H) else none
theorem zm2 : zqt W .FloorDiv o.fdiv := by
 intro A φ x y H s v H' ex ey hb hA S rx ry
 refine uo.i hb fun a ea hb => uo.i hb fun b eb hb => zlt hb fun hz hb => ja hb fun hs hb => inj2 ?_ hb
 subst ea eb; obtain ⟨t, rfl⟩ := rx.int_inv; obtain ⟨u, rfl⟩ := ry.int_inv
 exact PyProof.Rows.floordiv_int (by simpa using hz) ⟨φ, .tok S _, .int ..⟩ (.inl (PyProof.noPylong_small hs))
theorem zik (x : Value) : ∀ (k : Nat) (a : Array Value), List.foldl (fun x1 x2 => x1 ++ x2) a (zsp k #[x]) = a ++ (zsp k x).toArray
 | 0, a => by simp
 | k + 1, a => by
  rw [zu0, zt4, zik x k, zu0]
  apply zxl.mp
  simp
theorem RVs.rep {φ : wz} {h : Heap} {m : MV} {x : Value} (r : RV W.base φ h m x) : ∀ k : Nat, RVs W.base φ h (zsp k m) (zsp k x)
 | 0 => .nil
 | k + 1 => .cons r (RVs.rep r k)
theorem zco : zqt W .Mult o.mul := by
 intro A φ x y H s v H' ex ey hb hA S rx ry
 refine uo.i hb fun k ek hb => ?_
 subst ek
 obtain ⟨u, rfl⟩ := ry.int_inv
 rcases zvy.mp hb with hb | ⟨-, hb⟩
 ·refine uo.i hb fun a ea hb => ja hb fun hz hb => inj2 ?_ hb
  subst ea; obtain ⟨t, rfl⟩ := rx.int_inv
  simp only [zf6, zxt, decide_eq_true_eq] at hz
  exact P.mul_int ⟨φ, .tok S _, .int ..⟩ (.of_left (intBits_le_64 (by lia) (by lia)))
 ·refine jq.i hb fun i ei hb => y4.i hb fun l hi hb => zbw.i hb fun m el hb => ja hb fun hk hb => inj2 ?_ hb
  subst ei el
  obtain ⟨a, vs, p, rfl, -, hl, rl⟩ := S.list_of hi rx
  obtain ⟨vs⟩ := vs
  obtain ⟨xv, e0, rm⟩ := rl.one_inv
  change vs = [xv] at e0
  subst e0
  have hl' : s.heap.get? a = some { cls := .type "list", dict := none, data := .seq #[xv] p, slots := #[] } := hl
  obtain ⟨E1, R1⟩ := zkp (s := s) (t := s.toks) S (RVs.rep rm k.toNat)
  refine wpAny_binaryOp_repeat_ref (T := "list") (U := "int") (by decide) ⟨_, hl', rfl⟩ (fun s' => typeIs_int s' k u) noFill_list_mul F.fills_int_mul F.slot_int_rmul repeat_list F.slot_int_index.lookup
   (call_meets F.slot_int_rmul (typeIs_int s k u) F.entry_int_rmul (F.args_int_rmul_2 _ _) (int___rmul___int_list k u a #[xv] p)
    ⟨hl', rfl, ⟨_, hl', rfl⟩, call_meets F.slot_list_mul ⟨_, hl', rfl⟩ F.entry_list_mul (F.args_list_mul_2 _ _)
     (AutoListH.list___mul___list_int_3 a #[xv] p k u (by simp [Builtin.List.listFitsIndex]; lia) (by show ¬ (1 * k.toNat > _); lia) (by simp [Builtin.List.listTooLong, sizeLine]; lia))
     ⟨hl', ?_⟩⟩)
  have e : (List.foldl (fun x1 x2 => x1 ++ x2) #[] (zsp (if (#[xv] : Array Value).isEmpty = true then 0 else k.toNat) #[xv])) = (zsp k.toNat xv).toArray := by
   rw [if_neg (by simp), zik]; simp
  rw [e]
  exact ⟨_, E1, R1⟩
end
end Mine
namespace Mine
theorem zhx {K : Frag} {h : Heap} {N : Addr} {mg : Str → Option Value} {n : Str} {v : Option Value} (X : K.In h) (G : h.Ns N mg) (e : nsIn K N n = some v) : mg n = v := by
 refine zvt fun hq0 => ?_
 obtain ⟨o, es, ep, ho, hd, _, hf⟩ := G
 delta nsIn at e
 cases q : K.lookup N with
 | none => rw [q] at e; cases e
 | some o' =>
 have := ho.symm.trans (X _ _ q)
 cases this
 rw [q] at e
 obtain ⟨cl, st, d, r⟩ := o
 cases hd
 refine hq0 ?_
 rw [← hf]
 unfold nsFind findBy
 rw [← zxn]
 have e' : (match es.toList.find? (·.key.isStr n) with | some e => some (some e.val) | none => if es.toList.any (·.refKey) then none else some none) = some v := e
 cases he : es.toList.find? (·.key.isStr n) with
 | some en => rw [he] at e'; exact zvu.inj e'
 | none =>
  rw [he] at e'
  by_cases hr : es.toList.any (·.refKey) = true
  ·rw [if_pos hr] at e'; cases e'
  ·rw [if_neg hr] at e'; exact zvu.inj e'
noncomputable def zl9 (K : Frag) (N : Addr) : Bool := match K.lookup N with
 | some o => (match o.data with
  | .dict es _ => es.all fun e => match e.key with
   | .str _ _ => true
   | _ => false
  | _ => false)
 | none => false
theorem zfl {K : Frag} {h : Heap} {N : Addr} (X : K.In h) (e : zl9 K N = true) : h.isNs N = true := by
 unfold zl9 at e
 cases hk : K.lookup N with
 | none => rw [hk] at e; cases e
 | some o =>
  rw [hk] at e
  unfold Heap.isNs
  rw [X _ _ hk]
  exact e
structure Cls (W : Wd) (c : Nat) (C N : Addr) : Prop where
 cls : W.cls c = some C
 obj : ∃ nm q bs sn sub ab col dd k0 k1 k2 k3 k5 newId, W.K.lookup C = some (excClassObj nm q C N bs [.type "object"] true sn sub ab col dd k0 k1 k2 k3 k5 newId)
 ns : zl9 W.K N = true
 ga : nsIn W.K N "__getattribute__" = some none
 gt : nsIn W.K N "__getattr__" = some none
 sa : nsIn W.K N "__setattr__" = some none
 fld : ∀ x ∈ W.names c, nsIn W.K N x = some none ∧ typeLookup (.type "object") x = pure none
 nd : (W.names c).Nodup
 few : (W.names c).length ≤ 1000
theorem FM.get {base : Heap} {φ : wz} {h : Heap} {ns : List Str} {l : List MV} {m : Str → Option Value} (q : FM base φ h ns l m) {k : Nat} {x : Str} {v : MV} (hx : ns[k]? = some x) (hv : l[k]? = some v) : ∃ y, m x = some y ∧ RV base φ h v y := by
 have := q.2.1 k x hx
 rw [hv] at this
 exact this
theorem FM.set {base : Heap} {φ : wz} {h : Heap} {ns : List Str} {l : List MV} {m : Str → Option Value} (q : FM base φ h ns l m) (nd : ns.Nodup) {k : Nat} {x : Str} {v : MV} {y : Value} (hx : ns[k]? = some x) (hk : k < l.length) (r : RV base φ h v y) :
  FM base φ h ns (l.set k v) (fun z => if z = x then some y else m z) := by
 refine ⟨by simpa using q.1, fun i z hz => ?_, fun z hz => ?_⟩
 ·by_cases hi : i = k
  ·subst hi
   rw [hx] at hz; refine inj1 ?_ hz
   rw [zsy hk]
   exact ⟨y, by simp, r⟩
  ·have hne : z ≠ x := fun e => hi (qm nd (e ▸ hz) hx)
   rw [zsn (Ne.symm hi)]
   simp only [if_neg hne]
   exact q.2.1 i z hz
 ·have hne : z ≠ x := fun e => hz (e ▸ zsm hx)
  simp only [if_neg hne]
  exact q.2.2 z hz
theorem FM.push {base : Heap} {φ : wz} {h : Heap} {ns : List Str} {l : List MV} {m : Str → Option Value} (q : FM base φ h ns l m) (nd : ns.Nodup) {x : Str} {v : MV} {y : Value} (hx : ns[l.length]? = some x) (r : RV base φ h v y) :
  FM base φ h ns (l ++ [v]) (fun z => if z = x then some y else m z) := by
 have hl := (zsl.mp hx).1
 refine ⟨by simp; assumption, fun i z hz => ?_, fun z hz => ?_⟩
 ·by_cases hi : i = l.length
  ·subst hi
   rw [hx] at hz; refine inj1 ?_ hz
   simp only [List.getElem?_concat_length]
   exact ⟨y, by simp, r⟩
  ·have hne : z ≠ x := fun e => hi (qm nd (e ▸ hz) hx)
   simp only [if_neg hne]
   have := q.2.1 i z hz
   by_cases hlt : i < l.length
   ·rw [zst hlt]; exact this
   ·have h1 : l[i]? = none := ztf (by lia)
    have h2 : (l ++ [v])[i]? = none := ztf (by simp; lia)
    rw [h1] at this
    rw [h2]; exact this
 ·have hne : z ≠ x := fun e => hz (e ▸ zsm hx)
  simp only [if_neg hne]
  exact q.2.2 z hz
section
variable {W : Wd} {n : Nat} {env : Env} {sl : List (Option Str)} {A : Around}
theorem znu {φ : wz} {h : Heap} {v : MV} {y : Value} (r : RV W.base φ h v y) : handedOut y = pure y := by
 cases r <;> rfl
theorem zgt {φ : wz} {h : Heap} {c : Nat} {l : List MV} {a d C : Addr} (hc : W.cls c = some C) (q : OR W φ h (.obj c l) a d) :
  ∃ m, h.Inst a C m ∧ FM W.base φ h (W.names c) l m ∧ h.get? a = some (instObj C d) ∧ a ≠ C ∧ d ≠ a := by
 simp only [OR, hc] at q
 refine zvt fun hq0 => ?_
 obtain ⟨h0, h1, h2, m, h3, h4⟩ := q
 refine hq0 ?_
 exact ⟨m, ⟨_, h0, rfl, fun c => by simp, .inr ⟨d, rfl, h1, h3⟩⟩, h4, h0, h2, h1⟩
noncomputable def zp (c k : Nat) (f : DE) : DE := fun lo H => bnd (f lo H) fun v H => jq v fun i => zeg c H[i]? fun l => l[k]?.map fun v => (v, H)
theorem zlv {c k : Nat} {C N : Addr} {x : Str} (K : Cls W c C N) (hx : (W.names c)[k]? = some x) {φ : wz} {H : St} {s : Shared} {i : Nat} {l : List MV} {v : MV} {y : Value} {ex : Bool} {Q : Value → Shared → Prop} {E : Value → Shared → Prop}
  (S : Sim W φ H s.heap) (hi : H[i]? = some (.obj c l)) (hv : l[k]? = some v) (r : RV W.base φ s.heap (.ref i) y)
  (q : ∀ z, RV W.base φ s.heap v z → Q z { s with toks := s.toks + 1 }) : wpAny (model W.prog W.w) A (getAttr y x ex) Q E s := by
 refine zvt fun hq0 => ?_
 obtain ⟨a, d, rfl, ha, o⟩ := S.obj_of hi r
 obtain ⟨m, I, fm, _⟩ := zgt K.cls o
 obtain ⟨z, hz, rz⟩ := fm.get hx hv
 obtain ⟨nm, q', bs, sn, sub, ab, col, dd, k0, k1, k2, k3, k5, newId, hC⟩ := K.obj
 have X := W.KX.keeps S.base
 have hn : s.heap.Ns N (s.heap.nsMap N) := .of_isNs (zfl X K.ns)
 obtain ⟨h, g, dr, t, os⟩ := s
 have hm := zsm hx
 refine hq0 ?_
 exact load_attr (X _ _ hC) hn (zhx X hn K.ga) (zhx X hn (K.fld x hm).1) (K.fld x hm).2 I hz (znu rz) (q z rz)
theorem zrk {c k : Nat} {C N : Addr} {x : Str} {e : Expr} {pos : Pos} {f : DE} (K : Cls W c C N) (hx : (W.names c)[k]? = some x) (he : SE W n env sl e f)
  (hs : eval (.Attribute e x pos) env = (do
   let o ← eval e env
   standAt pos.atName
   let r ← holding [o] (getAttr o x true)
   letTemporaryGo e o r
   pure r)) : SE W n env sl (.Attribute e x pos) (zp c k f) := by
 intro A φ lo H s v H' hf R S L
 obtain ⟨a, H1, h1, h2⟩ := wn hf
 refine Attribute_any_ (wpAny_mono (he A φ lo H s a H1 h1 R S L) (fun y s1 ⟨φ1, E1, r1⟩ => ?_) fun _ _ x => x) hs
 refine jq.i h2 fun i ei h3 => zeg.i h3 fun l hi h4 => ?_
 subst ei
 obtain ⟨v', hv, h3⟩ := zvv.mp h4
 cases h3
 exact zlv K hx E1.sim hi hv r1 fun z rz => ⟨φ1, E1.trans (.tok E1.sim _), rz⟩
noncomputable def zr3 (v i : MV) (H : St) : Option MV := ((jq v fun r => y4 H[r]? some).or (ziw v some)).bind fun l => uo i fun k => if 0 ≤ k ∧ k < 2 ^ 62 then l[k.toNat]? else zvz
noncomputable def wd (f g : DE) : DE := fun lo H => bnd (f lo H) fun v H => bnd (g lo H) fun i H => (zr3 v i H).map fun x => (x, H)
theorem zr2 {φ : wz} {H : St} {s : Shared} {a b x : MV} {y z : Value} {e sl : Expr} {Q : Value → Shared → Prop} {E : Value → Shared → Prop} (S : Sim W φ H s.heap) (h : zr3 a b H = some x) (ra : RV W.base φ s.heap a y) (rb : RV W.base φ s.heap b z)
  (hs : ∀ o k t, ∃ ops, subscripted sl false (.ref o) (.int k t) = operate ops (getItem (.ref o) (.int k t))) (q : ∀ w, RV W.base φ s.heap x w → Q w s) : wpAny (model W.prog W.w) A (subscriptTail e sl y z) Q E s := by
 obtain ⟨l, h2, h⟩ := zvx.mp h
 refine uo.i h fun k ek h1 => ja h1 fun hk h3 => ?_
 subst ek
 obtain ⟨t, rfl⟩ := rb.int_inv
 rcases zvy.mp h2 with h | ⟨-, h⟩
 ·refine jq.i h fun r er h1 => y4.i h1 fun l' hl h4 => ?_
  cases h4
  subst er
  obtain ⟨ad, vs, m, rfl, -, hg, rl⟩ := S.list_of hl ra
  obtain ⟨y', e', ry⟩ := rl.get h3
  obtain ⟨ops, ho⟩ := hs ad k t
  have hL : s.heap.IsList ad vs := ⟨_, hg, rfl, _, rfl⟩
  exact tail_any hL.typeIs slot_list_getitem.lookup (wpAny_getItem_list hL hk.1 (by lia) (by rw [← zxk]; exact e') (q _ ry)) ho
 ·refine ziw.i h fun l' el h4 => ?_
  cases h4
  subst el
  obtain ⟨ad, vs, rfl, hT, rl⟩ := ra.tup_inv
  obtain ⟨y', e', ry⟩ := rl.get h3
  obtain ⟨ops, ho⟩ := hs ad k t
  have hlen := (zsl.mp e').1
  have hj : seqIndex? k vs.length = some k.toNat := by
   unfold seqIndex?
   simp only [show ¬ k < 0 by lia, if_false]
   rw [if_pos (by simp; lia)]
  exact tail_any hT.typeIs slot_tuple_getitem.lookup (getItem_tuple hT (by lia) (by lia) (by simpa using hj) (by simpa using e') (q _ ry)) ho
theorem se_sub {e i : Expr} {pos : Pos} {f g : DE} (he : SE W n env sl e f) (hi : SE W n env sl i g)
  (hs : ∀ o k t, ∃ ops, subscripted i false (.ref o) (.int k t) = operate ops (getItem (.ref o) (.int k t))) : SE W n env sl (.Subscript e i pos) (wd f g) := by
 intro A φ lo H s v H' hf R S L
 obtain ⟨a, H1, h1, h2⟩ := wn hf
 obtain ⟨b, H2, h3, h4⟩ := wn h2
 obtain ⟨x, h5, h6⟩ := zvv.mp h4
 cases h6
 refine Subscript_ (wpAny_mono (he A φ lo H s a H1 h1 R S L) (fun y s1 ⟨φ1, E1, r1⟩ => ?_) fun _ _ x => x)
 refine wpAny_mono (hi A φ1 lo H1 s1 b _ h3 R E1.sim (L.post0 E1.post)) (fun z s2 ⟨φ2, E2, r2⟩ => ?_) fun _ _ x => x
 exact zr2 E2.sim h5 (r1.post E2.post) r2 hs fun w rw => ⟨φ2, E1.trans E2, rw⟩
end
end Mine
namespace Mine
theorem zbu {φ : wz} {S : List Addr} {h h' : Heap} (k : ∀ b o, h.get? b = some o → h'.get? b = some o) : ju φ φ S h h' :=
 ⟨zsw, fun _ hp => .inl hp, fun b x e _ _ => k b x e, fun b x e _ => k b x e, fun b x e => ⟨x, k b x e⟩⟩
theorem ur {W : Wd} {φ : wz} {H : St} {S : List Addr} {s : Shared} {h' : Heap} {t : Nat} (X : Sim W φ H s.heap) (k : ∀ b o, s.heap.get? b = some o → h'.get? b = some o) : EP W φ φ H S s { s with heap := h', toks := t } :=
 ⟨X.keep (T := []) (zbu k) (fun a ha => nomatch ha) fun b x e _ => k b x e, zbu k, ⟨h', t, rfl⟩⟩
theorem zm5 {W : Wd} {φ : wz} {H : St} {s : Shared} {h' : Heap} {t : Nat} {m : MO} {a d : Addr} (X : Sim W φ H s.heap) (k : ∀ b o, s.heap.get? b = some o → h'.get? b = some o) (hd : s.heap.get? d = none)
  (q : OR W φ h' m a d) : EP W φ (φ ++ [(a, d)]) (H ++ [m]) [] s { s with heap := h', toks := t } := by
 have X' : Sim W φ H h' := X.keep (T := []) (zbu k) (fun a ha => nomatch ha) fun b x e _ => k b x e
 refine ⟨X'.new (fun hm => ?_) ?_ q, ⟨ztj .., fun p hp => ?_, fun b x e _ _ => k b x e, fun b x e _ => k b x e, fun b x e => ⟨x, k b x e⟩⟩, ⟨h', t, rfl⟩⟩
 ·obtain ⟨p, hp, e⟩ := zso.mp hm
  obtain ⟨x, hx, _⟩ := X.carrier hp
  rw [e, hd] at hx; cases hx
 ·cases e : W.base.get? d with
  | none => rfl
  | some x => have := X.base _ _ e; rw [hd] at this; cases this
 ·rcases zs0.mp hp with q | q
  ·exact .inl q
  ·simp at q; subst q; exact .inr hd
theorem zas {W : Wd} {φ : wz} {H : St} {s : Shared} {h' : Heap} {t : Nat} {l : List MV} {vs : Array Value} {n : Nat} {D : Addr} (X : Sim W φ H s.heap) (k : ∀ b o, s.heap.get? b = some o → h'.get? b = some o) (hd : s.heap.get? D = none)
  (hD : h'.get? D = some (lst vs n)) (r : RVs W.base φ s.heap l vs.toList) :
  EP W φ (φ ++ [(D, D)]) (H ++ [.list l]) [] s { s with heap := h', toks := t } ∧ RV W.base (φ ++ [(D, D)]) h' (.ref H.length) (.ref D) := by
 refine ⟨zm5 X k hd ⟨rfl, vs, n, hD, r.mono zsw fun b x e _ => k b x e⟩, .ref _ _ D ?_⟩
 rw [← X.len]; simp
theorem ui (h : Heap) : h.get? h.objs.size = none := by
 cases e : h.get? h.objs.size with
 | none => rfl
 | some o' => exact absurd (zwm e) (zwx _)
theorem jp {h : Heap} {a : Addr} (l : h.objs.size ≤ a) : h.get? a = none := by
 cases e : h.get? a with
 | none => rfl
 | some o' => exact absurd (zwm e) (zw7.mpr l)
section
variable {W : Wd} {n : Nat} {env : Env} {sl : List (Option Str)} {A : Around}
noncomputable def jw : List DE → Lo → St → Option (List MV × St)
 | [], _, H => some ([], H)
 | f :: r, lo, H => bnd (f lo H) fun v H => bnd (jw r lo H) fun vs H => some (v :: vs, H)
noncomputable def SA (W : Wd) (n : Nat) (env : Env) (sl : List (Option Str)) (es : List Expr) (fs : List DE) : Prop :=
 ∀ pos A φ lo H s v H', jw fs lo H = some (v, H') → zal n A → Sim W φ H s.heap → Loc W env sl lo φ s.heap →
  wpAny (model W.prog W.w) A (spliced (backTo pos (starEach es env))) (fun y s' => ∃ φ', EP W φ φ' H' [] s s' ∧ RVs W.base φ' s'.heap v y) NoE s
theorem y7 : SA W n env sl [] [] := by
 intro pos A φ lo H s v H' hf R S L
 refine inj2 ?_ hf
 exact wpAny_pure ⟨φ, .refl S, .nil⟩
theorem zmt {e : Expr} {r : List Expr} {f : DE} {fs : List DE} (he : SE W n env sl e f) (hr : SA W n env sl r fs) (hs : starEach (e :: r) env = (false, eval e env) :: starEach r env) : SA W n env sl (e :: r) (f :: fs) := by
 intro pos A φ lo H s v H' hf R S L
 obtain ⟨a, H1, h1, h2⟩ := wn hf
 obtain ⟨b, H2, h3, h4⟩ := wn h2
 refine inj2 ?_ h4
 refine args_cons (wpAny_mono (he A φ lo H s a H1 h1 R S L) (fun y s1 ⟨φ1, E1, r1⟩ => ?_) fun _ _ x => x) hs
 exact wpAny_mono (hr pos A φ1 lo H1 s1 b _ h3 R E1.sim (L.post0 E1.post)) (fun z s2 ⟨φ2, E2, r2⟩ => ⟨φ2, E1.trans E2, .cons (r1.post E2.post) r2⟩) fun _ _ x => x
noncomputable def wv (fs : List DE) : DE := fun lo H => bnd (jw fs lo H) fun vs H => if small vs.length then some (.ref H.length, H ++ [.list vs]) else none
theorem qz {es : List Expr} {pos : Pos} {fs : List DE} (h : SA W n env sl es fs) : SE W n env sl (.List es pos) (wv fs) := by
 intro A φ lo H s v H' hf R S L
 obtain ⟨a, H1, h1, h2⟩ := wn hf
 refine ja h2 fun hz h2 => ?_
 refine inj2 ?_ h2
 refine wpAny_List (wpAny_mono (h pos A φ lo H s a _ h1 R S L) (fun y s1 ⟨φ1, E1, r1⟩ => ?_) fun _ _ x => x)
 have hz' : a.length ≤ 1000000 := by simpa [small] using hz
 refine ⟨by rw [← r1.length, sizeLine_eq]; lia, ?_⟩
 obtain ⟨E2, r2⟩ := zas (l := a) (s := s1) (t := s1.toks) E1.sim (fun b o e => zwk (lst y.toArray 0) e) (ui _) (zwl _ rfl) (by simpa using r1)
 exact ⟨_, E1.trans E2, r2⟩
noncomputable def j0 (fs : List DE) : DE := fun lo H => bnd (jw fs lo H) fun vs H => if small vs.length then some (.tup vs, H) else none
theorem zdt {es : List Expr} {k : Nat} {pos : Pos} {fs : List DE} (h : SA W n env sl es fs) : SE W n env sl (.Tuple es k pos) (j0 fs) := by
 intro A φ lo H s v H' hf R S L
 obtain ⟨a, H1, h1, h2⟩ := wn hf
 refine ja h2 fun hz h2 => ?_
 refine inj2 ?_ h2
 refine wpAny_Tuple (wpAny_mono (h pos A φ lo H s a _ h1 R S L) (fun y s1 ⟨φ1, E1, r1⟩ => ?_) fun _ _ x => x)
 have hz' : a.length ≤ 1000000 := by simpa [small] using hz
 refine ⟨by rw [← r1.length, sizeLine_eq]; lia, ?_⟩
 have k : ∀ b o, s1.heap.get? b = some o → (s1.heap.push { cls := .type "tuple", data := .seq y.toArray }).get? b = some o := fun b o e => zwk _ e
 have E2 : EP W φ1 φ1 _ [] s1 { s1 with heap := s1.heap.push { cls := .type "tuple", data := .seq y.toArray }, toks := s1.toks } := ur E1.sim k
 exact ⟨φ1, E1.trans E2, .tup _ _ _ ⟨_, zwl _ rfl, rfl, _, rfl⟩ (r1.post E2.post)⟩
noncomputable def FS (W : Wd) (k : Nat) (fv : Value) (D : DF) : Prop :=
 ∀ A φ args H s v H' ys, D args H = some (v, H') → zal k A → Sim W φ H s.heap → RVs W.base φ s.heap args ys →
  codeAny (model W.prog W.w) A (.call fv ⟨ys, []⟩) (fun r s' => ∃ y φ', r = .ok (.ret y) ∧ EP W φ φ' H' [] s s' ∧ RV W.base φ' s'.heap v y) s
theorem FS.call {k : Nat} {fv : Value} {D : DF} (F : FS W k fv D) {φ : wz} {args : List MV} {H : St} {s : Shared} {v : MV} {H' : St} {ys : List Value} (e : D args H = some (v, H')) (R : zal k A) (S : Sim W φ H s.heap) (r : RVs W.base φ s.heap args ys) :
  wpAny (model W.prog W.w) A (call fv ys) (QE W φ H' s v) NoE s := by
 refine wpAny_call (codeAny_mono (F A φ args H s v H' ys e R S r) fun r s' ⟨y, φ', h1, h2, h3⟩ => ?_)
 subst h1
 exact ⟨φ', h2, h3⟩
theorem zal.le {k n : Nat} (R : zal n A) (h : k ≤ n) : zal k A := ⟨R.1, by have := R.2.1; lia, by have := R.2.2; lia⟩
theorem zgj : ∀ {es : List Expr} {env : Env} {pos : Pos}, es.any isStarred = false → (backTo pos (starEach es env)).any (·.1) = false := by
 intro es
 induction es with
 | nil => exact fun _ => rfl
 | cons e r ih =>
  intro env pos h
  rw [zuk, Bool.or_eq_false_iff] at h
  have ih := ih (env := env) (pos := pos) h.2
  have : starEach (e :: r) env = (false, eval e env) :: starEach r env := by
   cases e <;> first | rfl | cases h.1
  rw [this]
  show ((false, _) :: backTo pos (starEach r env)).any (·.1) = false
  rw [zuk, ih]; rfl
theorem za9 {f : Value} {es : List Expr} {pos : Pos} {Q : Args → Shared → Prop} {E : Value → Shared → Prop} {M : Model} {s : Shared} (h : wpAny M A (spliced (backTo pos (starEach es env))) (fun vs s' => Q ⟨vs, []⟩ s') E s)
  (hs : ∀ e r, es = e :: r → starEach (e :: r) env = (false, eval e env) :: starEach r env) : wpAny M A (evalArgs f true (backTo pos (starEach es env)) []) Q E s := by
 cases es with
 | nil =>
  unfold evalArgs
  show wpAny M A (spliced (backTo pos (starEach [] env)) >>= _) Q E s
  refine wpAny_bind (wpAny_mono h (fun vs s' h' => wpAny_bind (wpAny_pure (wpAny_holding ?_))) fun _ _ x => x)
  exact wpAny_bind (wpAny_pure (wpAny_bind (wpAny_pure (wpAny_pure h'))))
 | cons e r =>
  have := hs e r rfl
  rw [this] at h ⊢
  exact evalArgs_plain h
theorem ziq {k : Nat} {fa : Addr} {o : Obj} {fd : FuncData} {Df : DF} {pos : Pos} {es : List Expr} {fs : List DE} {φ : wz} {lo : Lo} {H H1 H2 : St} {s : Shared} {first : List MV} {yf : List Value} {vs : List MV} {v : MV}
  (F : FS W k (.ref fa) Df) (ho : W.K.lookup fa = some o) (hd : o.data = .func fd) (ha : SA W n env sl es fs) (hk : k ≤ n)
  (h1 : jw fs lo H = some (vs, H1)) (h2 : Df (first ++ vs) H1 = some (v, H2)) (R : zal n A) (S : Sim W φ H s.heap) (L : Loc W env sl lo φ s.heap) (r : RVs W.base φ s.heap first yf)
  (hs : ∀ e r, es = e :: r → starEach (e :: r) env = (false, eval e env) :: starEach r env) :
  wpAny (model W.prog W.w) A (callWith pos (.ref fa) yf (backTo pos (starEach es env)) []) (QE W φ H2 s v) NoE s := by
 refine callWith_function (o := o) (fd := fd) (za9 ?_ hs)
 refine wpAny_mono (ha pos A φ lo H s vs H1 h1 R S L) (fun y s1 ⟨φ1, E1, r1⟩ => ?_) fun _ _ x => x
 refine ⟨⟨W.KX.keeps E1.sim.base _ _ ho, hd⟩, ?_⟩
 exact wpAny_mono (F.call h2 (R.le hk) E1.sim ((r.post E1.post).append r1)) (fun z s2 ⟨φ2, E2, r2⟩ => ⟨φ2, E1.trans E2, r2⟩) fun _ _ x => x
noncomputable def we (Df : DF) (fs : List DE) : DE := fun lo H => bnd (jw fs lo H) fun vs H => Df vs H
theorem zrj {k : Nat} {g : Str} {fa : Addr} {o : Obj} {fd : FuncData} {Df : DF} {p pos : Pos} {es : List Expr} {fs : List DE} (F : FS W k (.ref fa) Df) (hg : nsIn W.K mainGlobals g = some (some (.ref fa)))
  (ho : W.K.lookup fa = some o) (hd : o.data = .func fd) (ha : SA W n env sl es fs) (hk : k ≤ n) (hx : env.kindOf g = some .globalImplicit) (hdb : (g == ("__debug__" : Str)) = false)
  (hs : ∀ e r, es = e :: r → starEach (e :: r) env = (false, eval e env) :: starEach r env) : SE W n env sl (.Call (.Name g p) es [] pos) (we Df fs) := by
 intro A φ lo H s v H' hf R S L
 obtain ⟨vs, H1, h1, h2⟩ := wn hf
 exact Call_ (zdq S L hg hx hdb (ziq F ho hd ha hk h1 (first := []) h2 R S L .nil hs))
theorem zi2 {c : Nat} {C N : Addr} {x : Str} {fa : Addr} {o : Obj} {pl : Sem Bool} (K : Cls W c C N) (hf : nsIn W.K N x = some (some (.ref fa))) (ho : W.K.lookup fa = some o) (hc : o.cls = .type "function") (hB : ∃ y, typeLookup (.type "object") x = pure y)
  (hn : x ∉ W.names c) {φ : wz} {H : St} {s : Shared} {i : Nat} {l : List MV} {y : Value} {Q : Value × List Value → Shared → Prop} {E : Value → Shared → Prop}
  (S : Sim W φ H s.heap) (hi : H[i]? = some (.obj c l)) (r : RV W.base φ s.heap (.ref i) y) (q : Q (.ref fa, [y]) s) : wpAny (model W.prog W.w) A (getMethod y x pl) Q E s := by
 refine zvt fun hq0 => ?_
 obtain ⟨a, d, rfl, ha, o'⟩ := S.obj_of hi r
 obtain ⟨m, I, fm, _⟩ := zgt K.cls o'
 obtain ⟨nm, q', bs, sn, sub, ab, col, dd, k0, k1, k2, k3, k5, newId, hC⟩ := K.obj
 have X := W.KX.keeps S.base
 have hns : s.heap.Ns N (s.heap.nsMap N) := .of_isNs (zfl X K.ns)
 obtain ⟨h, g, dr, t, os⟩ := s
 obtain ⟨yB, hB⟩ := hB
 refine hq0 ?_
 exact method_of (X _ _ hC) hns (zhx X hns K.ga) (zhx X hns K.gt) (zhx X hns hf) (X _ _ ho) hc hB I (fm.2.2 x hn) q
noncomputable def zo4 (c : Nat) (v : MV) (H : St) : Bool := (jq v fun i => zeg c H[i]? some).isSome
theorem zig {c : Nat} {v : MV} {H : St} (h : zo4 c v H = true) : ∃ i l, v = .ref i ∧ H[i]? = some (.obj c l) := by
 obtain ⟨l, h⟩ := zv1.mp h
 exact jq.i h fun i ei h => zeg.i h fun l hi h => ⟨i, l, ei, hi⟩
noncomputable def z5 (c : Nat) (Df : DF) (f : DE) (fs : List DE) : DE := fun lo H => bnd (f lo H) fun v H => if zo4 c v H then bnd (jw fs lo H) fun vs H => Df (v :: vs) H else none
theorem zrh {k c : Nat} {C N : Addr} {x : Str} {fa : Addr} {o : Obj} {fd : FuncData} {Df : DF} {e : Expr} {apos pos : Pos} {es : List Expr} {f : DE} {fs : List DE} {pl : Sem Bool} (K : Cls W c C N) (F : FS W k (.ref fa) Df)
  (hf : nsIn W.K N x = some (some (.ref fa))) (ho : W.K.lookup fa = some o) (hc : o.cls = .type "function") (hd : o.data = .func fd) (hB : ∃ y, typeLookup (.type "object") x = pure y) (hn : x ∉ W.names c)
  (he : SE W n env sl e f) (ha : SA W n env sl es fs) (hk : k ≤ n)
  (hs : ∀ e r, es = e :: r → starEach (e :: r) env = (false, eval e env) :: starEach r env)
  (hm : eval (.Call (.Attribute e x apos) es [] pos) env = (do
   let ov ← eval e env
   standAt apos.atName
   let (f, first) ← holding [ov] (getMethod ov x pl)
   callWith pos f first (backTo pos (starEach es env)) [])) : SE W n env sl (.Call (.Attribute e x apos) es [] pos) (z5 c Df f fs) := by
 intro A φ lo H s v H' hf' R S L
 obtain ⟨a, H1, h1, h2⟩ := wn hf'
 refine ja h2 fun hobj h2 => ?_
 obtain ⟨i, l, rfl, hi⟩ := zig hobj
 obtain ⟨vs, H2, h3, h4⟩ := wn h2
 refine MethodCall_ (pl := pl) (wpAny_mono (he A φ lo H s _ H1 h1 R S L) (fun y s1 ⟨φ1, E1, r1⟩ => ?_) fun _ _ x => x) hm
 refine zi2 K hf ho hc hB hn E1.sim hi r1 ?_
 refine wpAny_mono (ziq F ho hd ha hk h3 (first := [.ref i]) h4 R E1.sim (L.post0 E1.post) (.cons r1 .nil) hs) (fun z s2 ⟨φ2, E2, r2⟩ => ⟨φ2, E1.trans E2, r2⟩) fun _ _ x => x
end
end Mine
namespace Mine
noncomputable abbrev DT := MV → Lo → St → Option (Lo × St)
noncomputable def TG (W : Wd) (n : Nat) (env : Env) (T : List Addr) (sl : List (Option Str)) (t : Expr) (g : DT) : Prop :=
 ∀ A φ lo H s v y lo' H', g v lo H = some (lo', H') → zal n A → Sim W φ H s.heap → Loc W env sl lo φ s.heap → RV W.base φ s.heap v y →
  wpAny (model W.prog W.w) A (assign t env y) (QT W env sl T φ s lo' H') NoE s
theorem zsc {M : Model} {env : Env} {A : Around} {s : Shared} {E : Value → Shared → Prop} {o : Expr} {attr : Str} {pos : Pos} {v : Value} {Q : Unit → Shared → Prop} (h : wpAny M A (eval o env) (fun ov s₂ => wpAny M A (setAttr ov attr v) Q E s₂) E s) :
  wpAny M A (assign (.Attribute o attr pos) env v) Q E s := by
 rw [assign_Attribute]
 refine wpAny_bind (wpAny_holding (wpAny_mono h (fun ov s₂ h₂ => ?_) fun _ _ x => x))
 refine wpAny_bind (wpAny_standAt (wpAny_bind (wpAny_holding (wpAny_mono h₂ (fun _ s₃ h₃ => wpAny_release' h₃) fun _ _ x => x))))
theorem zqs {M : Model} {env : Env} {A : Around} {s : Shared} {E : Value → Shared → Prop} {o i : Expr} {pos : Pos} {v : Value} {Q : Unit → Shared → Prop}
  (h : wpAny M A (eval o env) (fun ov s₂ => wpAny M A (eval i env) (fun iv s₃ => wpAny M A (setItem ov iv v) Q E s₃) E s₂) E s) : wpAny M A (assign (.Subscript o i pos) env v) Q E s := by
 rw [assign_Subscript]
 refine wpAny_bind (wpAny_holding (wpAny_mono h (fun ov s₂ h₂ => ?_) fun _ _ x => x))
 refine wpAny_bind (wpAny_holding (wpAny_mono h₂ (fun iv s₃ h₃ => ?_) fun _ _ x => x))
 exact wpAny_bind (wpAny_standAt (wpAny_bind (wpAny_holding (wpAny_mono h₃ (fun _ s₄ h₄ => wpAny_release' h₄) fun _ _ x => x))))
theorem zdm {φ : wz} {S : List Addr} {h h' : Heap} {a : Addr} (hs : zwn a h h') (ha : a ∈ S ∨ a ∈ φ.map (·.2)) (hf : ∀ o, h.get? a = some o → qo o = false) (hz : ∃ o, h'.get? a = some o) : ju φ φ S h h' := by
 refine ⟨zsw, fun _ hp => .inl hp, fun b x e h1 h2 => ?_, fun b x e hx => ?_, fun b x e => ?_⟩
 ·refine (hs.2 b fun q => ?_).trans e
  subst q
  exact ha.elim h1 h2
 ·refine (hs.2 b fun q => ?_).trans e
  subst q
  rw [hf x e] at hx; cases hx
 ·by_cases q : b = a
  ·subst q; exact hz
  ·exact ⟨x, (hs.2 b q).trans e⟩
section
variable {W : Wd} {n : Nat} {env : Env} {T : List Addr} {sl : List (Option Str)} {A : Around}
theorem zkn {lo : Lo} {φ : wz} {h : Heap} (L : Loc W env sl lo φ h) : ∀ a ∈ kq env, a ∉ φ.map (·.2) ∧ W.base.get? a = none := fun a ha => by
 have := L.own a ((zss.mp ha).imp id id)
 exact ⟨this.1, this.2.1⟩
theorem Sim.own {φ : wz} {H : St} {h h' : Heap} {lo : Lo} (S : Sim W φ H h) (L : Loc W env sl lo φ h) {a : Addr} (P : ju φ φ [a] h h') (hs : zwn a h h') (ha : a ∈ kq env) : Sim W φ H h' :=
 S.keep P (fun b hb => by rw [zsq.mp hb]; exact zkn L a ha) fun b o e hb => (hs.2 b fun q => (zkn L a ha).1 (q ▸ hb)).trans e
theorem ju.one {φ φ' : wz} {h h' : Heap} {a : Addr} {T : List Addr} (P : ju φ φ' [a] h h') (ha : a ∈ T) : ju φ φ' T h h' := P.weaken fun b hb => by rw [zsq.mp hb]; exact ha
noncomputable def zy (i : Nat) : DT := fun v lo H => if i < lo.length then some (lo.set i (some v), H) else none
theorem zke {i : Nat} {x : Str} (hx : sl[i]? = some (some x)) (hk : (env.kindOf x = some .local ∧ env.locals ∈ T) ∨ (env.kindOf x = some .cell ∧ ∀ c ∈ env.cells.map (·.2), c ∈ T)) {φ : wz} {lo lo' : Lo} {H H' : St} {s : Shared} {v : MV} {y : Value}
  (hf : zy i v lo H = some (lo', H')) (S : Sim W φ H s.heap) (L : Loc W env sl lo φ s.heap) (r : RV W.base φ s.heap v y) :
  wpAny (model W.prog W.w) A (storeName env x y) (QT W env sl T φ s lo' H') NoE s := by
 refine ja hf fun hi hf => ?_
 refine inj2 ?_ hf
 have hset : ∀ (j : Nat) (z : Str) (u : MV), sl[j]? = some (some z) → (lo.set i (some v))[j]? = some (some u) → (z = x ∧ u = v) ∨ (z ≠ x ∧ lo[j]? = some (some u)) := by
  intro j z u h1 h2
  by_cases hj : j = i
  ·subst hj
   rw [hx] at h1
   rw [zsy hi] at h2
   exact .inl ⟨(zvu.inj (zvu.inj h1)).symm, (zvu.inj (zvu.inj h2)).symm⟩
  ·rw [zsn (Ne.symm hj)] at h2
   exact .inr ⟨fun e => hj (L.uniq j i x (e ▸ h1) hx), h2⟩
 rcases hk with ⟨hk, hT⟩ | ⟨hk, hT⟩
 ·obtain ⟨m, hm, hr⟩ := L.loc
  refine wpAny_storeName_local hk hm (fun h' hn hs => ?_) (by rw [L.kind]; rfl)
  have hown : env.locals ∈ kq env := .head _
  obtain ⟨_, _, o0, ho0, hf0⟩ := L.own env.locals (.inl rfl)
  have P : ju φ φ [_] s.heap h' := zdm hs (.inl (zsq.mpr rfl)) (fun o e => by rw [ho0] at e; refine inj1 ?_ e; exact hf0) (by obtain ⟨o, _, _, e, _⟩ := hn; exact ⟨o, e⟩)
  refine ⟨φ, ⟨S.own L P hs hown, P.one hT, ⟨h', _, rfl⟩⟩, ?_⟩
  have kc : ∀ c ∈ env.cells.map (·.2), (∃ z, env.cells.lookup z = some c) → ∀ o, s.heap.get? c = some o → h'.get? c = some o := fun c hc ⟨z, hz⟩ o e => (hs.2 c (L.apart z c hz).1).trans e
  refine ⟨L.kind, L.glob, L.blt, fun a ha => ?_, L.uniq, ⟨_, hn, fun j z u h1 h2 h3 => ?_⟩, fun j z u h1 h2 h3 => ?_, fun z hz => ?_, L.apart⟩
  ·obtain ⟨h1, h2, o, h3, h4⟩ := L.own a ha
   refine ⟨h1, h2, ?_⟩
   by_cases hl : a = env.locals
   ·subst hl
    obtain ⟨o', es, ep, e1, e2, _⟩ := hn
    exact ⟨o', e1, by unfold qo; rw [e2]⟩
   ·exact ⟨o, (hs.2 a hl).trans h3, h4⟩
  ·rcases hset j z u h1 h3 with ⟨rfl, rfl⟩ | ⟨hne, h3'⟩
   ·exact ⟨y, by simp, r.post P⟩
   ·obtain ⟨w, e, rw'⟩ := hr j z u h1 h2 h3'
    exact ⟨w, by simp [hne, e], rw'.post P⟩
  ·rcases hset j z u h1 h3 with ⟨rfl, rfl⟩ | ⟨hne, h3'⟩
   ·rw [hk] at h2; cases h2
   ·obtain ⟨c, w, e1, ⟨o, e2, e3⟩, rw'⟩ := L.cel j z u h1 h2 h3'
    exact ⟨c, w, e1, ⟨o, kc c (kg e1) ⟨_, e1⟩ o e2, e3⟩, rw'.post P⟩
  ·obtain ⟨c, w, e1, o, e2, e3⟩ := L.has z hz
   exact ⟨c, w, e1, o, kc c (kg e1) ⟨_, e1⟩ o e2, e3⟩
 ·obtain ⟨c, v0, hc, hcell⟩ := L.has x hk
  refine wpAny_storeName_cell L.kind hk hc hcell (fun h' hn hs => ?_)
  have hown : c ∈ kq env := .tail _ (kg hc)
  obtain ⟨_, _, o0, ho0, hf0⟩ := L.own c (.inr (kg hc))
  have P : ju φ φ [_] s.heap h' := zdm hs (.inl (zsq.mpr rfl)) (fun o e => by rw [ho0] at e; refine inj1 ?_ e; exact hf0) (by obtain ⟨o, e, _⟩ := hn; exact ⟨o, e⟩)
  refine ⟨φ, ⟨S.own L P hs hown, P.one (hT c (kg hc)), ⟨h', s.toks, rfl⟩⟩, ?_⟩
  have hcl := (L.apart x c hc).1
  refine ⟨L.kind, L.glob, L.blt, fun a ha => ?_, L.uniq, ?_, fun j z u h1 h2 h3 => ?_, fun z hz => ?_, L.apart⟩
  ·obtain ⟨h1, h2, o, h3, h4⟩ := L.own a ha
   refine ⟨h1, h2, ?_⟩
   by_cases hl : a = c
   ·subst hl
    obtain ⟨o', e1, e2⟩ := hn
    exact ⟨o', e1, by unfold qo; rw [e2]⟩
   ·exact ⟨o, (hs.2 a hl).trans h3, h4⟩
  ·obtain ⟨m, ⟨o, es, ep, e0, er⟩, hr⟩ := L.loc
   refine ⟨m, ⟨o, es, ep, (hs.2 _ (Ne.symm hcl)).trans e0, er⟩, fun j z u h1 h2 h3 => ?_⟩
   rcases hset j z u h1 h3 with ⟨rfl, rfl⟩ | ⟨hne, h3'⟩
   ·rw [hk] at h2; cases h2
   ·obtain ⟨w, e, rw'⟩ := hr j z u h1 h2 h3'
    exact ⟨w, e, rw'.post P⟩
  ·rcases hset j z u h1 h3 with ⟨rfl, rfl⟩ | ⟨hne, h3'⟩
   ·exact ⟨c, y, hc, hn, r.post P⟩
   ·obtain ⟨c', w, e1, ⟨o, e2, e3⟩, rw'⟩ := L.cel j z u h1 h2 h3'
    refine ⟨c', w, e1, ⟨o, (hs.2 c' fun q => ?_).trans e2, e3⟩, rw'.post P⟩
    subst q
    exact hne ((L.apart _ _ hc).2 z e1)
  ·obtain ⟨c', w, e1, o, e2, e3⟩ := L.has z hz
   by_cases q : c' = c
   ·subst q
    exact ⟨c', some y, e1, hn⟩
   ·exact ⟨c', w, e1, o, (hs.2 c' q).trans e2, e3⟩
theorem zmm {i : Nat} {x : Str} {pos : Pos} (hx : sl[i]? = some (some x)) (hk : (env.kindOf x = some .local ∧ env.locals ∈ T) ∨ (env.kindOf x = some .cell ∧ ∀ c ∈ env.cells.map (·.2), c ∈ T)) : TG W n env T sl (.Name x pos) (zy i) := by
 intro A φ lo H s v y lo' H' hf R S L r
 exact wpAny_assign_Name (zke hx hk hf S L r)
theorem ze8 {φ : wz} {H : St} {s : Shared} {h' : Heap} {t i : Nat} {o o' : MO} {a d : Addr} (S : Sim W φ H s.heap) (hi : H[i]? = some o) (hp : φ[i]? = some (a, d)) (hs : zwn d s.heap h')
  (q : (∀ b x, s.heap.get? b = some x → qo x = true → h'.get? b = some x) → OR W φ h' o' a d) (hz : ∃ x, h'.get? d = some x) (ho : o ≠ .junk := by (intro q; cases q)) : EP W φ φ (H.set i o') [] s { s with heap := h', toks := t } := by
 have hf : ∀ x, s.heap.get? d = some x → qo x = false := fun x hx => by
  obtain ⟨x', hx', hf⟩ := S.carrier_at hi hp ho
  rw [hx] at hx'; cases hx'; exact hf
 exact ⟨S.set hi hp (fun b x hb e => (hs.2 b hb).trans e) hf q, zdm hs (.inr (zso.mpr ⟨_, zsm hp, rfl⟩)) hf hz, ⟨h', t, rfl⟩⟩
noncomputable def setF (c k : Nat) (o v : MV) (H : St) : Option St := jq o fun i => zeg c H[i]? fun l => if k < l.length then some (H.set i (.obj c (l.set k v))) else if k = l.length then some (H.set i (.obj c (l ++ [v]))) else zvz
theorem zli {c k : Nat} {C N : Addr} {x : Str} (K : Cls W c C N) (hx : (W.names c)[k]? = some x) {φ : wz} {H H' : St} {s : Shared} {o v : MV} {y z : Value}
  (S : Sim W φ H s.heap) (hf : setF c k o v H = some H') (ro : RV W.base φ s.heap o y) (rv : RV W.base φ s.heap v z) :
  wpAny (model W.prog W.w) A (setAttr y x z) (fun _ s' => EP W φ φ H' [] s s') NoE s := by
 refine jq.i hf fun i ei hf1 => zeg.i hf1 fun l hi hf2 => ?_
 subst ei
 obtain ⟨a, d, rfl, ha, oo⟩ := S.obj_of hi ro
 obtain ⟨m, I, fm, hg, hac, hda⟩ := zgt K.cls oo
 obtain ⟨nm, q', bs, sn, sub, ab, col, dd, k0, k1, k2, k3, k5, newId, hC⟩ := K.obj
 have X := W.KX.keeps S.base
 have hn : s.heap.Ns N (s.heap.nsMap N) := .of_isNs (zfl X K.ns)
 have hm := zsm hx
 have hw : Within m (W.names c) := fun u hu => by
  by_cases q : u ∈ W.names c
  ·exact q
  ·exact absurd (fm.2.2 u q) hu
 have hsp : ∃ l', some (H.set i (.obj c l')) = some H' ∧ ∀ base φ h, FM base φ h (W.names c) l m → RV base φ h v z → FM base φ h (W.names c) l' (fun u => if u = x then some z else m u) := by
  by_cases hk : k < l.length
  ·rw [if_pos hk] at hf2; exact ⟨_, hf2, fun base φ h f r => f.set K.nd hx hk r⟩
  ·rw [if_neg hk] at hf2
   refine ja hf2 fun hk' hf3 => ?_
   subst hk'
   exact ⟨_, hf3, fun base φ h f r => f.push K.nd hx r⟩
 obtain ⟨l', hf, hl'⟩ := hsp
 refine inj1 ?_ hf
 obtain ⟨h, g, dr, t, os⟩ := s
 refine store_attr PySem.F.store_object (X _ _ hC) hn (zhx X hn K.sa) (zhx X hn (K.fld x hm).1) (K.fld x hm).2 hac I (fun h' tk' I' k1 k2 => ?_) hw (by rw [sizeLine_eq]; have := K.few; lia)
 have hx' : h'.get? a = some (instObj C d) := by
  obtain ⟨o1, e1, e2, e3, e4, e5⟩ := k2 _ hg
  obtain ⟨oc, od, oda, osl⟩ := o1
  simp only at e2 e3 e4 e5
  rw [e1, e2, e3, e4, e5 d rfl]
 obtain ⟨o2, ho2, _, _, hd2⟩ := I'
 rw [hx'] at ho2; cases ho2
 rcases hd2 with ⟨hd2, _⟩ | ⟨d', hd2, hne, hns⟩
 ·cases hd2
 cases hd2
 have hs : ∀ b x, b ≠ d → h.get? b = some x → h'.get? b = some x := fun b o hb e => by
  by_cases q : b = a
  ·subst q; rw [hg] at e; refine inj1 ?_ e; exact hx'
  ·exact k1 b o q (fun o₀ dx h1 h2 => by rw [hg] at h1; cases h1; refine inj1 ?_ h2; exact hb) e
 have imm : ∀ b x, h.get? b = some x → qo x = true → h'.get? b = some x := fun b o e hfx => by
  refine hs b o (fun q => ?_) e
  subst q
  obtain ⟨o3, e3, f3⟩ := S.carrier_at hi ha (by intro q; cases q)
  rw [e] at e3; cases e3
  rw [f3] at hfx; cases hfx
 refine ⟨S.set hi ha hs (fun o e => ?_) fun _ => ?_, ⟨zsw, fun _ hp => .inl hp, fun b o e _ h2 => hs b o (fun q => h2 (q ▸ zso.mpr ⟨_, zsm ha, rfl⟩)) e, imm, fun b o e => ?_⟩, ⟨h', tk', rfl⟩⟩
 ·obtain ⟨o3, e3, f3⟩ := S.carrier_at hi ha (by intro q; cases q)
  rw [e] at e3; cases e3; exact f3
 ·simp only [OR, K.cls]
  exact ⟨hx', hda, hac, _, hns, hl' _ _ _ (fm.mono zsw imm) (rv.mono zsw imm)⟩
 ·by_cases q : b = d
  ·subst q; obtain ⟨o4, _, _, e4, _⟩ := hns; exact ⟨o4, e4⟩
  ·exact ⟨o, hs b o q e⟩
noncomputable def wm (c k : Nat) (f : DE) : DT := fun v lo H => bnd (f lo H) fun o H => (setF c k o v H).map fun H' => (lo, H')
theorem zq2 {c k : Nat} {C N : Addr} {x : Str} {e : Expr} {pos : Pos} {f : DE} (K : Cls W c C N) (hx : (W.names c)[k]? = some x) (he : SE W n env sl e f) : TG W n env T sl (.Attribute e x pos) (wm c k f) := by
 intro A φ lo H s v y lo' H' hf R S L r
 obtain ⟨o, H1, h1, h2⟩ := wn hf
 obtain ⟨H2, h3, h4⟩ := zvv.mp h2
 cases h4
 refine zsc (wpAny_mono (he A φ _ H s o H1 h1 R S L) (fun z s1 ⟨φ1, E1, r1⟩ => ?_) fun _ _ x => x)
 refine wpAny_mono (zli K hx E1.sim h3 r1 (r.post E1.post)) (fun _ s2 E2 => ⟨φ1, (E1.trans E2).zero, (L.post0 E1.post).post0 E2.post⟩) fun _ _ x => x
theorem zgn (vs : Array Value) (n j : Nat) (v : Value) : (lst vs n).mapSeq (·.setIfInBounds j v) = lst (vs.setIfInBounds j v) n := by
 simp [zws, lst]
theorem zlh {l : Addr} {vs : Array Value} {m : Nat} {k : Int} {t : Tok} {v : Value} {s : Shared} {Q : Unit → Shared → Prop} {E : Value → Shared → Prop} (hg : s.heap.get? l = some (lst vs m)) (h0 : 0 ≤ k) (hfit : k < 2 ^ 63) (hn : k < vs.size)
  (hQ : ∀ h', h'.get? l = some (lst (vs.setIfInBounds k.toNat v) m) → zwn l s.heap h' → Q () { s with heap := h' }) : wpAny (model W.prog W.w) A (setItem (.ref l) (.int k t) v) Q E s := by
 have hl : s.heap.IsList l vs := ⟨_, hg, rfl, _, rfl⟩
 unfold setItem
 try with_reducible refine wpAny_holding ?_
 first | refine wpAny_bind (wpAny_pure ?_) | skip
 refine wpAny_bind (wpAny_sequenceKey hl.typeIs (by decide) ?_)
 refine wpAny_bind (wpAny_callSpecial?_slot (name := Str.ofString "__setitem__") hl.typeIs slot_list_setitem
  (wpAny_call_entry slot_list_setitem hl.typeIs entry_list_setitem ?_ (args_list_setitem _ _ _)))
 show wpAny _ _ (Builtin.List.listSubscript? (.int k t) >>= _) _ _ s
 refine wpAny_bind (wpAny_listSubscript_int (fitsIndex_of h0 hfit) ?_)
 clear hfit
 obtain ⟨j, rfl⟩ := Int.eq_ofNat_of_zero_le h0
 have hj : j < vs.size := by lia
 have e : (s.heap.update l (zws (·.setIfInBounds j v))).get? l = some (lst (vs.setIfInBounds j v) m) := by
  rw [Heap.get?_update_self _ hg (by rw [zgn]; rfl), zgn]
 show wpAny _ _ ((seqItemAt l j >>= fun r => pure (r.map (j, ·))) >>= _) _ _ s
 refine wpAny_bind (wpAny_bind (wpAny_seqItemAt hg rfl (wpAny_pure ?_)))
 rw [Array.getElem?_eq_getElem hj]
 show wpAny _ _ (setSeqItemAt l j v >>= _) _ _ s
 refine wpAny_bind (wpAny_setSeqItemAt hg rfl ?_)
 first
  | exact wpAny_pure ⟨.none, rfl, wpAny_pure (hQ _ e (zwn.update ..))⟩
  | exact wpAny_bind (wpAny_pure (wpAny_pure ⟨.none, rfl, wpAny_pure (hQ _ e (zwn.update ..))⟩))
noncomputable def setI (o i v : MV) (H : St) : Option St := jq o fun r => uo i fun k => y4 H[r]? fun l => if 0 ≤ k ∧ k < 2 ^ 62 ∧ k < l.length then some (H.set r (.list (l.set k.toNat v))) else zvz
noncomputable def y9 (f g : DE) : DT := fun v lo H => bnd (f lo H) fun o H => bnd (g lo H) fun i H => (setI o i v H).map fun H' => (lo, H')
theorem ziy (vs : Array Value) (j : Nat) (v : Value) : (vs.setIfInBounds j v).toList = vs.toList.set j v := by simp
theorem zrg {φ : wz} {H H' : St} {s : Shared} {o i v : MV} {y k z : Value} (S : Sim W φ H s.heap) (hf : setI o i v H = some H') (ro : RV W.base φ s.heap o y) (ri : RV W.base φ s.heap i k) (rv : RV W.base φ s.heap v z) :
  wpAny (model W.prog W.w) A (setItem y k z) (fun _ s' => EP W φ φ H' [] s s') NoE s := by
 refine jq.i hf fun r er h1 => uo.i h1 fun kk ek h2 => y4.i h2 fun l hl h3 => ?_
 subst er ek
 refine ja h3 fun hk h4 => ?_
 refine inj1 ?_ h4
 obtain ⟨t, rfl⟩ := ri.int_inv
 obtain ⟨a, vs, m, rfl, ha, hg, rl⟩ := S.list_of hl ro
 have hlen : l.length = vs.size := by rw [rl.length, zxi]
 refine zlh hg hk.1 (by omega) (by omega) fun h' e hs => ?_
 refine ze8 S hl ha hs (fun imm => ⟨rfl, _, m, e, ?_⟩) ⟨_, e⟩
 rw [ziy]
 exact RVs.set (rv.mono zsw imm) (rl.mono zsw imm) _
theorem j5 {e i : Expr} {pos : Pos} {f g : DE} (he : SE W n env sl e f) (hi : SE W n env sl i g) : TG W n env T sl (.Subscript e i pos) (y9 f g) := by
 intro A φ lo H s v y lo' H' hf R S L r
 obtain ⟨o, H1, h1, h2⟩ := wn hf
 obtain ⟨k, H2, h3, h4⟩ := wn h2
 obtain ⟨H3, h5, h6⟩ := zvv.mp h4
 cases h6
 refine zqs (wpAny_mono (he A φ _ H s o H1 h1 R S L) (fun z s1 ⟨φ1, E1, r1⟩ => ?_) fun _ _ x => x)
 have L1 := L.post0 E1.post
 refine wpAny_mono (hi A φ1 _ H1 s1 k H2 h3 R E1.sim L1) (fun w s2 ⟨φ2, E2, r2⟩ => ?_) fun _ _ x => x
 have L2 := L1.post0 E2.post
 exact wpAny_mono (zrg E2.sim h5 (r1.post E2.post) r2 ((r.post E1.post).post E2.post)) (fun _ s3 E3 => ⟨φ2, ((E1.trans E2).trans E3).zero, L2.post0 E3.post⟩) fun _ _ x => x
noncomputable def getK (c k : Nat) (o : MV) (H : St) : Option MV := jq o fun i => zeg c H[i]? fun l => l[k]?
noncomputable def setK (c k : Nat) (o v : MV) (H : St) : Option St := jq o fun i => zeg c H[i]? fun l => if k < l.length then some (H.set i (.obj c (l.set k v))) else zvz
noncomputable def zjs (c k : Nat) (f : DE) : DE := fun lo H => bnd (f lo H) fun o H => (getK c k o H).map fun v => (v, H)
noncomputable def zmd (c k : Nat) (f : DE) : DT := fun v lo H => bnd (f lo H) fun o H => (setK c k o v H).map fun H' => (lo, H')
theorem zjw : ∀ {kvs : List (Str × Value)} {ns : List Str}, kvs.map (·.1) = ns → ns.Nodup → ∀ {k : Nat} {x : Str} {y : Value}, ns[k]? = some x → (kvs.map (·.2))[k]? = some y → valueAt kvs x = some y := by
 intro kvs
 induction kvs with
 | nil => intro ns e nd k x y h h'; subst e; simp at h
 | cons p r ih =>
 obtain ⟨a, b⟩ := p
 intro ns e nd k x y h h'
 subst e
 cases k with
 | zero =>
  simp only [zs9, ztv, zvu.injEq] at h h'
  subst h; subst h'
  simp [valueAt]
 | succ k =>
  simp only [zs9, ztw, zs4] at h h' nd
  have hne : x ≠ a := fun e => nd.1 (e ▸ zsm h)
  have := ih rfl nd.2 h h'
  simp only [valueAt] at this ⊢
  rw [List.find?_cons, show decide (a = x) = false by simpa using Ne.symm hne]
  exact this
theorem ziz {kvs : List (Str × Value)} {ns : List Str} (e : kvs.map (·.1) = ns) {x : Str} (hx : x ∈ ns) (y : Value) : stored kvs x y = kvs.map fun kv => if kv.1 = x then (kv.1, y) else kv := by
 unfold stored
 rw [if_pos]
 subst e
 obtain ⟨p, hp, rfl⟩ := zso.mp hx
 exact List.any_eq_true.mpr ⟨p, hp, by simp⟩
theorem zjy : ∀ {kvs : List (Str × Value)} {ns : List Str}, kvs.map (·.1) = ns → ns.Nodup → ∀ {k : Nat} {x : Str}, ns[k]? = some x → ∀ y : Value,
  (kvs.map fun kv => if kv.1 = x then (kv.1, y) else kv).map (·.1) = ns ∧ (kvs.map fun kv => if kv.1 = x then (kv.1, y) else kv).map (·.2) = (kvs.map (·.2)).set k y := by
 intro kvs
 induction kvs with
 | nil => intro ns e nd k x h y; subst e; simp at h
 | cons p r ih =>
 obtain ⟨a, b⟩ := p
 intro ns e nd k x h y
 subst e
 cases k with
 | zero =>
  simp only [zs9, ztv, zvu.injEq, zs4] at h nd
  subst h
  have : (r.map fun kv => if kv.1 = a then (kv.1, y) else kv) = r := by
   refine (zt5 fun kv hkv => ?_).trans (List.map_id r)
   rw [if_neg]
   ·rfl
   ·intro e; exact nd.1 (e ▸ zs5 hkv)
  simp [this]
 | succ k =>
  simp only [zs9, ztw, zs4] at h nd
  have hne : a ≠ x := fun e => nd.1 (e ▸ zsm h)
  obtain ⟨h1, h2⟩ := ih rfl nd.2 h y
  simp only [zs9, if_neg hne, zu1]
  exact ⟨by rw [h1], by rw [h2]⟩
structure Dic (W : Wd) (c : Nat) : Prop where
 cls : W.cls c = none
 nd : (W.names c).Nodup
 few : (W.names c).length ≤ 1000
theorem zr1 {c k : Nat} {x : Str} (K : Dic W c) (hx : (W.names c)[k]? = some x) {φ : wz} {H : St} {s : Shared} {o v : MV} {y : Value} {t : Tok} {value slice : Expr} {Q : Value → Shared → Prop} {E : Value → Shared → Prop}
  (S : Sim W φ H s.heap) (hf : getK c k o H = some v) (r : RV W.base φ s.heap o y)
  (hs : ∀ o, ∃ ops, subscripted slice false (.ref o) (.str x t) = operate ops (getItem (.ref o) (.str x t)))
  (q : ∀ z, RV W.base φ s.heap v z → Q z { s with toks := s.toks + 1 }) : wpAny (model W.prog W.w) A (subscriptTail value slice y (.str x t)) Q E s := by
 refine jq.i hf fun i ei hf1 => zeg.i hf1 fun l hi hf2 => ?_
 subst ei
 obtain ⟨a, d, rfl, ha, oo⟩ := S.obj_of hi r
 simp only [OR, K.cls] at oo
 obtain ⟨rfl, kvs, hd, hn, rl⟩ := oo
 obtain ⟨z, hz, rz⟩ := rl.get hf2
 have hm := hd.mapOf
 obtain ⟨ops, ho⟩ := hs a
 exact tail_any hm.typeIs slot_dict_getitem.lookup (wpAny_getItem_of (strKind_is W.prog W.w x t) hm (zjw hn K.nd hx hz) (q z rz)) ho
theorem zl5 {c k : Nat} {x : Str} {e : Expr} {kk : Nat} {p pos : Pos} {f : DE} (K : Dic W c) (hx : (W.names c)[k]? = some x) (he : SE W n env sl e f)
  (hs : ∀ o t, ∃ ops, subscripted (.Constant (.str x) kk p) false (.ref o) (.str x t) = operate ops (getItem (.ref o) (.str x t))) : SE W n env sl (.Subscript e (.Constant (.str x) kk p) pos) (zjs c k f) := by
 intro A φ lo H s v H' hf R S L
 obtain ⟨o, H1, h1, h2⟩ := wn hf
 obtain ⟨v', h3, h4⟩ := zvv.mp h2
 cases h4
 refine Subscript_ (wpAny_mono (he A φ lo H s o _ h1 R S L) (fun y s1 ⟨φ1, E1, r1⟩ => ?_) fun _ _ x => x)
 refine Constant_str ?_
 refine zr1 (s := { s1 with toks := s1.toks + 1 }) K hx E1.sim h3 r1 (fun o => hs o _) fun z rz => ⟨φ1, E1.trans ((EP.tok E1.sim _).trans (.tok E1.sim _)), rz⟩
theorem zrf {c k : Nat} {x : Str} (K : Dic W c) (hx : (W.names c)[k]? = some x) {φ : wz} {H H' : St} {s : Shared} {o v : MV} {y z : Value} {t : Tok}
  (S : Sim W φ H s.heap) (hf : setK c k o v H = some H') (r : RV W.base φ s.heap o y) (rv : RV W.base φ s.heap v z) :
  wpAny (model W.prog W.w) A (setItem y (.str x t) z) (fun _ s' => EP W φ φ H' [] s s') NoE s := by
 refine jq.i hf fun i ei h1 => zeg.i h1 fun l hi h2 => ja h2 fun hk h3 => ?_
 subst ei
 refine inj1 ?_ h3
 obtain ⟨a, d, rfl, ha, oo⟩ := S.obj_of hi r
 simp only [OR, K.cls] at oo
 obtain ⟨rfl, kvs, hd, hn, rl⟩ := oo
 have hxm := zsm hx
 have hlen : kvs.length ≤ 1000 := by have := K.few; rw [← hn] at this; simpa using this
 refine wpAny_setItem_pairs (strKind_is W.prog W.w x t) hd (fun h' hd' hs => ?_) (by rw [sizeLine_eq]; lia)
 refine ze8 S hi ha hs (fun imm => ?_) (by obtain ⟨o, _, _, e, _⟩ := hd'; exact ⟨o, e⟩)
 simp only [OR, K.cls]
 rw [ziz hn hxm] at hd'
 obtain ⟨h1, h2⟩ := zjy hn K.nd hx z
 exact ⟨trivial, _, hd', h1, by rw [h2]; exact RVs.set (rv.mono zsw imm) (rl.mono zsw imm) _⟩
theorem tg_key {c k : Nat} {x : Str} {e : Expr} {kk : Nat} {p pos : Pos} {f : DE} (K : Dic W c) (hx : (W.names c)[k]? = some x) (he : SE W n env sl e f) : TG W n env T sl (.Subscript e (.Constant (.str x) kk p) pos) (zmd c k f) := by
 intro A φ lo H s v y lo' H' hf R S L r
 obtain ⟨o, H1, h1, h2⟩ := wn hf
 obtain ⟨H2, h3, h4⟩ := zvv.mp h2
 cases h4
 refine zqs (wpAny_mono (he A φ _ H s o H1 h1 R S L) (fun z s1 ⟨φ1, E1, r1⟩ => ?_) fun _ _ x => x)
 have L1 := L.post0 E1.post
 refine Constant_str ?_
 refine wpAny_mono (zrf (s := { s1 with toks := s1.toks + 1 }) K hx E1.sim h3 r1 (r.post E1.post)) (fun _ s2 E2 => ?_) fun _ _ x => x
 exact ⟨φ1, ((E1.trans (.tok E1.sim _)).trans E2).zero, (L1.post0 (EP.tok (W := W) (S := []) E1.sim (s1.toks + 1)).post).post0 E2.post⟩
end
end Mine
namespace Mine
noncomputable def zau : List DT → List MV → Lo → St → Option (Lo × St)
 | [], [], lo, H => some (lo, H)
 | g :: gs, v :: vs, lo, H => bnd (g v lo H) fun lo H => zau gs vs lo H
 | _, _, _, _ => none
section
variable {W : Wd} {n : Nat} {env : Env} {T : List Addr} {sl : List (Option Str)} {A : Around}
noncomputable def TGs (W : Wd) (n : Nat) (env : Env) (T : List Addr) (sl : List (Option Str)) (ts : List (Value → Sem Unit)) (gs : List DT) : Prop :=
 ∀ A φ lo H s vs ys lo' H', zau gs vs lo H = some (lo', H') → zal n A → Sim W φ H s.heap → Loc W env sl lo φ s.heap → RVs W.base φ s.heap vs ys →
  wpAny (model W.prog W.w) A (assignInOrder ts ys) (QT W env sl T φ s lo' H') NoE s
theorem zi5 : TGs W n env T sl [] [] := by
 intro A φ lo H s vs ys lo' H' hf R S L r
 cases r with
 | nil => refine inj2 ?_ hf; exact wpAny_pure ⟨φ, .refl S, L⟩
 | cons q r => cases hf
theorem zh3 {t : Value → Sem Unit} {ts : List (Value → Sem Unit)} {g : DT} {gs : List DT}
  (ht : ∀ A φ lo H s v y lo' H', g v lo H = some (lo', H') → zal n A → Sim W φ H s.heap → Loc W env sl lo φ s.heap → RV W.base φ s.heap v y →
   wpAny (model W.prog W.w) A (t y) (QT W env sl T φ s lo' H') NoE s) (hr : TGs W n env T sl ts gs) : TGs W n env T sl (t :: ts) (g :: gs) := by
 intro A φ lo H s vs ys lo' H' hf R S L r
 cases r with
 | nil => cases hf
 | cons q r =>
  obtain ⟨lo1, H1, h1, h2⟩ := wn hf
  refine wpAny_bind (wpAny_holding (wpAny_mono (ht A φ lo H s _ _ _ _ h1 R S L q) (fun _ s1 ⟨φ1, E1, L1⟩ => ?_) fun _ _ x => x))
  exact wpAny_mono (hr A φ1 lo1 H1 s1 _ _ _ _ h2 R E1.sim L1 (r.post E1.post)) (fun _ s2 ⟨φ2, E2, L2⟩ => ⟨φ2, E1.trans E2, L2⟩) fun _ _ x => x
theorem zez {t : Expr} {ts : List Expr} {g : DT} {gs : List DT} (ht : TG W n env T sl t g) (hr : TGs W n env T sl ((assignEach ts env).map (·.2)) gs) (he : (assignEach (t :: ts) env).map (·.2) = assign t env :: (assignEach ts env).map (·.2)) :
  TGs W n env T sl ((assignEach (t :: ts) env).map (·.2)) (g :: gs) := by
 rw [he]
 exact zh3 ht hr
noncomputable def zd8 (gs : List DT) : DT := fun v lo H => ziw v fun vs => if vs.length = gs.length then zau gs vs lo H else none
theorem zqe {elts : List Expr} {k : Nat} {pos : Pos} {gs : List DT} (h : TGs W n env T sl ((assignEach elts env).map (·.2)) gs) (hl : (assignEach elts env).length = gs.length) (hstar : (assignEach elts env).findIdx? (·.1) = none) :
  TG W n env T sl (.Tuple elts k pos) (zd8 gs) := by
 intro A φ lo H s v y lo' H' hf R S L r
 refine ziw.i hf fun vs ev h1 => ja h1 fun hlen h2 => ?_
 subst ev
 obtain ⟨a, ys, rfl, hT, rl⟩ := r.tup_inv
 refine assign_Tuple_tuple R.1 hT (by rw [hl, ← hlen, rl.length]; simp) hstar (fun h' hx => ?_)
 have E1 : EP W φ φ H [] s { s with heap := h', toks := s.toks } := ur S fun b o e => hx b o (zwu (zwm e)) e
 refine wpAny_mono (h A φ lo H { s with heap := h' } vs ys lo' H' h2 R E1.sim (L.post0 E1.post) (rl.post E1.post)) (fun _ s2 ⟨φ2, E2, L2⟩ => ⟨φ2, E1.zero.trans E2, L2⟩) fun _ _ x => x
noncomputable def zq (f : DE) (g : DT) : DS := fun lo H => bnd (f lo H) fun v H => (g v lo H).map fun p => (.next, p.1, p.2)
theorem znr {t value : Expr} {pos : Pos} {f : DE} {g : DT} (hv : SE W n env sl value f) (ht : TG W n env (kq env) sl t g) (hs : swapsWithSole [t] value pos.line env = pure false) (hw : swappedStores [t] value env = pure none)
  (he : (assignEach [t] env).map (·.2) = [assign t env]) : SS W n env sl (.Assign [t] value pos) (zq f g) := by
 intro A φ lo H s fl lo' H' hf R S L
 obtain ⟨v, H1, h1, h2⟩ := wn hf
 obtain ⟨p, h3, h4⟩ := zvv.mp h2
 cases h4
 refine wpAny_Assign_stores (wpAny_mono (hv A φ lo H s v H1 h1 R S L) (fun y s1 ⟨φ1, E1, r1⟩ => ?_) fun _ _ x => x) hs hw
 rw [he]
 show wpAny _ A (assign t env y) _ _ s1
 exact wpAny_mono (ht A φ1 lo H1 s1 v y _ _ h3 R E1.sim (L.post0 E1.post) r1) (fun _ s2 ⟨φ2, E2, L2⟩ => ⟨φ2, E1.zero.trans E2, L2, .next⟩) fun _ _ x => x
noncomputable def zbk (f : DE) (is : List Nat) : DS := fun lo H => bnd (f lo H) fun v H => ziw v fun vs => if vs.length = is.length then (zau (is.reverse.map zy) vs.reverse lo H).map fun p => (.next, p.1, p.2) else none
theorem RVs.reverse {base : Heap} {φ : wz} {h : Heap} : ∀ {v : List MV} {x : List Value}, RVs base φ h v x → RVs base φ h v.reverse x.reverse := by
 intro v
 induction v with
 | nil => intro x r; rw [r.nil_inv]; exact .nil
 | cons m v ih =>
  intro x r
  obtain ⟨y, ys, rfl, q, r⟩ := r.cons_inv
  simp only [zul]; exact (ih r).append (.cons q .nil)
theorem znp : ∀ {is : List Nat} {xs : List Str}, is.length = xs.length → (∀ (k i : Nat) (x : Str), is[k]? = some i → xs[k]? = some x → sl[i]? = some (some x) ∧ ((env.kindOf x = some .local ∧ env.locals ∈ T) ∨ (env.kindOf x = some .cell ∧ ∀ c ∈ env.cells.map (·.2), c ∈ T))) → TGs W n env T sl (xs.map fun x => bindName env x) (is.map zy) := by
 intro is
 induction is with
 | nil => intro xs hl h; cases xs with
  | nil => exact zi5
  | cons => cases hl
 | cons i is ih =>
  intro xs hl h
  cases xs with
  | nil => cases hl
  | cons x xs =>
  refine zh3 (fun A φ lo H s v y lo' H' hf R S L r => ?_) (ih (by simpa using hl) fun k j z h1 h2 => h (k + 1) j z (by simpa using h1) (by simpa using h2))
  obtain ⟨h1, h2⟩ := h 0 i x rfl rfl
  exact wpAny_bindName (zke h1 h2 hf S L r)
theorem zi6 {elts : List Expr} {k : Nat} {tpos pos : Pos} {value : Expr} {f : DE} {is : List Nat} {xs : List Str} (hv : SE W n env sl value f)
  (hs : swapsWithSole [.Tuple elts k tpos] value pos.line env = pure false) (hw : swappedStores [.Tuple elts k tpos] value env = pure (some xs)) (hl : is.length = xs.length)
  (hx : ∀ (k i : Nat) (x : Str), is[k]? = some i → xs[k]? = some x → sl[i]? = some (some x) ∧ (env.kindOf x = some .local ∨ env.kindOf x = some .cell)) :
  SS W n env sl (.Assign [.Tuple elts k tpos] value pos) (zbk f is) := by
 intro A φ lo H s fl lo' H' hf R S L
 obtain ⟨v, H1, h1, h2⟩ := wn hf
 refine ziw.i h2 fun vs ev h5 => ja h5 fun hlen h6 => ?_
 subst ev
 obtain ⟨p, h3, h4⟩ := zvv.mp h6
 cases h4
 refine Assign_Tuple_swapped (wpAny_mono (hv A φ lo H s _ H1 h1 R S L) (fun y s1 ⟨φ1, E1, r1⟩ => ?_) fun _ _ x => x) hs hw
 obtain ⟨a, ys, rfl, hT, rl⟩ := r1.tup_inv
 have e : xs.length = ys.toArray.size := by rw [← hl, ← hlen, rl.length]; simp
 rw [e]
 refine unpackItems_tuple R.1 hT (fun h' hx' => ?_)
 have E2 : EP W φ1 φ1 H1 [] s1 { s1 with heap := h', toks := s1.toks } := ur E1.sim fun b o e => hx' b o (zwu (zwm e)) e
 have TT : TGs W n env (kq env) sl (xs.reverse.map fun x => bindName env x) (is.reverse.map zy) := by
  refine znp (by simp [hl]) fun k i x h1 h2 => ?_
  have hk : k < is.length := by simpa using (zsl.mp h1).1
  rw [zu2 hk] at h1
  rw [zu2 (hl ▸ hk)] at h2
  rw [← hl] at h2
  obtain ⟨q1, q2⟩ := hx _ i x h1 h2
  exact ⟨q1, q2.imp (fun q => ⟨q, .head _⟩) fun q => ⟨q, fun c hc => .tail _ hc⟩⟩
 refine wpAny_mono (TT A φ1 lo H1 { s1 with heap := h' } vs.reverse ys.reverse _ _ h3 R E2.sim ((L.post0 E1.post).post0 E2.post) (rl.reverse.post E2.post)) (fun _ s2 ⟨φ2, E3, L3⟩ => ⟨φ2, (E1.zero.trans E2.zero).trans E3, L3, .next⟩) fun _ _ x => x
noncomputable def qb (f : DE) : DS := fun lo H => bnd (f lo H) fun v H => some (.ret v, lo, H)
theorem yk {e : Expr} {pos : Pos} {f : DE} (he : SE W n env sl e f) : SS W n env sl (.Return (some e) pos) (qb f) := by
 intro A φ lo H s fl lo' H' hf R S L
 obtain ⟨v, H1, h1, h2⟩ := wn hf
 refine inj3 ?_ h2
 exact wpAny_Return_some (wpAny_mono (he A φ lo H s v _ h1 R S L) (fun y s1 ⟨φ1, E1, r1⟩ => ⟨φ1, E1.zero, L.post0 E1.post, .ret r1⟩) fun _ _ x => x)
noncomputable def zme : DS := fun lo H => some (.ret .none, lo, H)
theorem zmo {pos : Pos} : SS W n env sl (.Return none pos) zme := by
 intro A φ lo H s fl lo' H' hf R S L
 refine inj3 ?_ hf
 exact wpAny_Return_none ⟨φ, .refl S, L, .ret .none⟩
noncomputable def zh1 : DS := fun lo H => some (.brk, lo, H)
theorem zjk {pos : Pos} : SS W n env sl (.Break pos) zh1 := by
 intro A φ lo H s fl lo' H' hf R S L
 refine inj3 ?_ hf
 exact wpAny_bind (wpAny_standAt (wpAny_pure ⟨φ, .refl S, L, .brk⟩))
noncomputable def zjt : DS := fun lo H => some (.cont, lo, H)
theorem zi7 {pos : Pos} : SS W n env sl (.Continue pos) zjt := by
 intro A φ lo H s fl lo' H' hf R S L
 refine inj3 ?_ hf
 exact wpAny_bind (wpAny_standAt (wpAny_pure ⟨φ, .refl S, L, .cont⟩))
noncomputable def wh (f : DE) : DS := fun lo H => bnd (f lo H) fun _ H => some (.next, lo, H)
theorem zq7 {e : Expr} {pos : Pos} {f : DE} (he : SE W n env sl e f) (hi : interactive env = false) (hs : swapsWith e none pos.line env = pure false) : SS W n env sl (.Expr e pos) (wh f) := by
 intro A φ lo H s fl lo' H' hf R S L
 obtain ⟨v, H1, h1, h2⟩ := wn hf
 refine inj3 ?_ h2
 exact wpAny_Expr_any (wpAny_mono (he A φ lo H s v _ h1 R S L) (fun y s1 ⟨φ1, E1, r1⟩ => ⟨φ1, E1.zero, L.post0 E1.post, .next⟩) fun _ _ x => x) hi hs
noncomputable def yt (t : Lo → St → Option (Bool × St)) (b o : DS) : DS := fun lo H => bnd (t lo H) fun c H => if c then b lo H else o lo H
theorem qx {t : Expr} {body orelse : List Stmt} {pos : Pos} {ft : Lo → St → Option (Bool × St)} {b o : DS} (ht : ST W n env sl t ft) (hb : SB W n env sl body b) (ho : SB W n env sl orelse o) : SS W n env sl (.If t body orelse pos) (yt ft b o) := by
 intro A φ lo H s fl lo' H' hf R S L
 obtain ⟨c, H1, h1, h2⟩ := wn hf
 refine wpAny_If (wpAny_mono (ht A φ lo H s c H1 h1 R S L) (fun y s1 ⟨φ1, E1, r1⟩ => ?_) fun _ _ x => x)
 subst r1
 have L1 := L.post0 E1.post
 cases y
 ·exact wpAny_mono (ho A φ1 lo H1 s1 fl lo' H' h2 R E1.sim L1) (fun z s2 ⟨φ2, E2, L2, r2⟩ => ⟨φ2, E1.zero.trans E2, L2, r2⟩) fun _ _ x => x
 ·exact wpAny_mono (hb A φ1 lo H1 s1 fl lo' H' h2 R E1.sim L1) (fun z s2 ⟨φ2, E2, L2, r2⟩ => ⟨φ2, E1.zero.trans E2, L2, r2⟩) fun _ _ x => x
noncomputable def z3 : DS := fun lo H => some (.next, lo, H)
noncomputable def zw (a b : DS) : DS := fun lo H => match a lo H with
 | some (.next, lo', H') => b lo' H'
 | r => r
theorem z6 : SB W n env sl [] z3 := by
 intro A φ lo H s fl lo' H' hf R S L
 refine inj3 ?_ hf
 exact wpAny_execs_nil ⟨φ, .refl S, L, .next⟩
theorem zi {t : Stmt} {r : List Stmt} {a b : DS} (ht : SS W n env sl t a) (hr : SB W n env sl r b) : SB W n env sl (t :: r) (zw a b) := by
 intro A φ lo H s fl lo' H' hf R S L
 rcases h1 : a lo H with _ | ⟨f1, lo1, H1⟩ <;> delta zw at hf <;> rw [h1] at hf
 ·cases hf
 refine wpAny_execs_cons (wpAny_mono (ht A φ lo H s _ _ _ h1 R S L) (fun y s1 ⟨φ1, E1, L1, r1⟩ => ?_) fun _ _ x => x)
 cases r1 with
 | next => exact wpAny_mono (hr A φ1 lo1 H1 s1 fl lo' H' hf R E1.sim L1) (fun z s2 ⟨φ2, E2, L2, r2⟩ => ⟨φ2, E1.trans E2, L2, r2⟩) fun _ _ x => x
 | brk => exact inj3 ⟨φ1, E1, L1, .brk⟩ hf
 | cont => exact inj3 ⟨φ1, E1, L1, .cont⟩ hf
 | ret r => exact inj3 ⟨φ1, E1, L1, .ret r⟩ hf
end
end Mine
namespace Mine
section
variable {W : Wd} {n : Nat} {env : Env} {sl : List (Option Str)} {A : Around}
noncomputable abbrev Res := Fl × Lo × St
noncomputable def after : Option Res → Option (Lo × St ⊕ Res)
 | some (.next, lo, H) => some (.inl (lo, H))
 | some (.cont, lo, H) => some (.inl (lo, H))
 | some (.brk, lo, H) => some (.inr (.next, lo, H))
 | some (.ret v, lo, H) => some (.inr (.ret v, lo, H))
 | none => none
theorem zmk {body : List Stmt} {b : DS} (hb : SB W n env sl body b) {φ : wz} {lo : Lo} {H : St} {s : Shared} {x : Lo × St ⊕ Res} {k : Nat} {I : Nat → Shared → Prop} {R : Result → Shared → Prop} {E : Value → Shared → Prop}
  (ha : after (b lo H) = some x) (Ro : zal n A) (S : Sim W φ H s.heap) (L : Loc W env sl lo φ s.heap)
  (h1 : ∀ lo' H' φ' s', x = .inl (lo', H') → EP W φ φ' H' (kq env) s s' → Loc W env sl lo' φ' s'.heap → ∃ m, m < k ∧ I m s')
  (h2 : ∀ fl lo' H' φ' s' f, x = .inr (fl, lo', H') → EP W φ φ' H' (kq env) s s' → Loc W env sl lo' φ' s'.heap → RFl W φ' s'.heap fl f → (f = .next ∨ ∃ v, f = .ret v) → R (.ok f) s') :
  wpAny (model W.prog W.w) A (execs body env) (fun f s' => match f with
   | .next | .cont => ∃ m, m < k ∧ I m s'
   | .brk => R (.ok .next) s'
   | .ret v => R (.ok (.ret v)) s') E s := by
 rcases h4 : b lo H with _ | ⟨f, lo1, H1⟩ <;> rw [h4] at ha
 ·cases ha
 refine wpAny_mono (hb A φ lo H s _ _ _ h4 Ro S L) (fun z s3 ⟨φ3, E3, L3, r3⟩ => ?_) fun _ _ x => x.elim
 cases r3 with
 | next => exact h1 _ _ φ3 s3 (zvu.inj ha).symm E3 L3
 | cont => exact h1 _ _ φ3 s3 (zvu.inj ha).symm E3 L3
 | brk => exact h2 _ _ _ φ3 s3 .next (zvu.inj ha).symm E3 L3 .next (.inl rfl)
 | ret r => exact h2 _ _ _ φ3 s3 _ (zvu.inj ha).symm E3 L3 (.ret r) (.inr ⟨_, rfl⟩)
noncomputable def vm (t : Lo → St → Option (Bool × St)) (b : DS) : Nat → DS
 | 0 => fun _ _ => none
 | k + 1 => fun lo H => bnd (t lo H) fun c H => if c then (match after (b lo H) with
  | some (.inl (lo', H')) => vm t b k lo' H'
  | some (.inr r) => some r
  | none => none) else some (.next, lo, H)
noncomputable abbrev zjf : Nat := 200
theorem zda {t : Expr} {body : List Stmt} {pos : Pos} {ft : Lo → St → Option (Bool × St)} {b : DS} (ht : ST W n env sl t ft) (hb : SB W n env sl body b) : SS W n env sl (.While t body [] pos) (vm ft b zjf) := by
 intro A φ lo H s fl lo' H' hf R S L
 refine wpAny_While (codeAny_whileLoop (fun k s' => ∃ φ1 lo1 H1, vm ft b k lo1 H1 = some (fl, lo', H') ∧ EP W φ φ1 H1 (kq env) s s' ∧ Loc W env sl lo1 φ1 s'.heap) ?_ zjf ⟨φ, lo, H, hf, .refl S, L⟩)
 rintro k s1 ⟨φ1, lo1, H1, hf1, E1, L1⟩
 cases k with
 | zero => cases hf1
 | succ k =>
  obtain ⟨c, H2, h1, h2⟩ := wn hf1
  refine wpAny_mono (ht A φ1 lo1 H1 s1 c H2 h1 R E1.sim L1) (fun y s2 ⟨φ2, E2, r2⟩ => ?_) fun _ _ x => x.elim
  subst r2
  have L2 := L1.post0 E2.post
  cases y with
  | false =>
   refine inj3 ?_ h2
   exact wpAny_execs_nil ⟨φ2, E1.trans E2.zero, L2, .next⟩
  | true =>
   simp only [if_true] at h2
   simp only [if_true]
   cases hx : after (b lo1 H2) with
   | none => rw [hx] at h2; cases h2
   | some x =>
    rw [hx] at h2
    refine zmk (k := k + 1) (R := fun r s' => match r with | .ok f => QS W env sl φ s fl lo' H' f s' | .error e => cameBackBy (model W.prog W.w) A env NoE e s') (I := fun k s' => ∃ φ1 lo1 H1, vm ft b k lo1 H1 = some (fl, lo', H') ∧ EP W φ φ1 H1 (kq env) s s' ∧ Loc W env sl lo1 φ1 s'.heap) hb hx R E2.sim L2
     (fun lo5 H5 φ5 s5 ex E5 L5 => ?_) (fun fl5 lo5 H5 φ5 s5 f ex E5 L5 rf hff => ?_)
    ·rw [ex] at h2
     exact ⟨k, zw0 k, φ5, lo5, H5, h2, (E1.trans E2.zero).trans E5, L5⟩
    ·rw [ex] at h2
     refine inj3 ?_ h2
     exact ⟨φ5, (E1.trans E2.zero).trans E5, L5, rf⟩
theorem zqj {M : Model} {target : Expr} {it : Addr} {v : Value} {o : Obj} {T : String} {s : Shared} {Q : Unit → Shared → Prop} {E : Value → Shared → Prop} (ho : s.heap.get? it = some o) (hc : o.cls = .type T)
  (hT : (["enumerate", "zip", "dict_itemiterator", "dict_reverseitemiterator", "odict_iterator", "itertools.zip_longest", "itertools.pairwise"] : List String).contains T = false) (q : Q () s) : wpAny M A (letOwnedTupleGo target (.ref it) v) Q E s := by
 have body : wpAny M A (do
   let (.ref r, .ref a) := (zsf it, v) | (pure () : Sem Unit)
   let o ← load r
   match o.cls, o.data with
   | .type n, .fields vs =>
    if ["enumerate", "zip", "dict_itemiterator", "dict_reverseitemiterator", "odict_iterator", "itertools.zip_longest", "itertools.pairwise"].contains n && vs[0]? == some (rawInt a) then
     rule "for.unpacks-the-owned-tuple"
     updateField r 0 .none
   | _, _ => pure ()) Q E s := by
  cases v with
  | ref a =>
   refine wpAny_bind (wpAny_load ho ?_)
   rw [hc]
   generalize o.data = d
   cases d <;> first | exact wpAny_pure q | skip
   show wpAny M A (if (_ && _) = true then _ else _) Q E s
   rw [hT, Bool.false_and]
   exact wpAny_pure q
  | _ => exact wpAny_pure q
 cases target <;> first | exact body | exact wpAny_pure q
noncomputable def j9 (a b c : Int) : List MV := (zsr (zxq a b c).toNat).map fun i : Nat => .int (a + i * c)
end
end Mine
namespace Mine
section
variable {W : Wd} {n : Nat} {env : Env} {sl : List (Option Str)} {A : Around}
noncomputable def CB (W : Wd) (fv : Value) (b : List MV → St → Option (MV × St)) : Prop :=
 ∀ A φ args H s v H' ys, b args H = some (v, H') → A.handled = none → A.units + 64 < cLine → Sim W φ H s.heap → RVs W.base φ s.heap args ys →
  wpAny (model W.prog W.w) A (call fv ys) (QE W φ H' s v) NoE s
noncomputable def z4 (b : List MV → St → Option (MV × St)) (fs : List DE) : DE := fun lo H => bnd (jw fs lo H) fun vs H => b vs H
theorem zhs {T : String} {M : Model} {pos : Pos} {args : List (Bool × Sem Value)} {s : Shared} {Q : Value → Shared → Prop} {E : Value → Shared → Prop} (hplain : args.any (·.1) = false)
  (h : wpAny M A (evalArgs (.type T) true args []) (fun a s₁ => wpAny M A (call (.type T) ([] ++ a.pos) a.kw) Q E s₁) E s) : wpAny M A (callWith pos (.type T) [] args []) Q E s := by
 unfold callWith
 refine wpAny_bind (wpAny_holding (wpAny_mono h (fun a s₁ h₁ => wpAny_bind (wpAny_standAt ?_)) fun _ _ x => x))
 rw [hplain]
 refine wpAny_bind (wpAny_pure ?_)
 exact wpAny_bind (wpAny_mono h₁ (fun r s₂ hr => wpAny_bind (wpAny_holding (wpAny_point (wpAny_pure hr)))) fun _ _ x => x)
theorem zpm {g : Str} {p pos : Pos} {es : List Expr} {fs : List DE} {fv : Value} {b : List MV → St → Option (MV × St)} (hb : CB W fv b) (hfv : (∃ id, fv = .builtin id) ∨ ∃ T, fv = .type T) (hg : nsIn W.K mainGlobals g = some none) (hv : bootBuiltins g = some fv)
  (hn : g ≠ "__name__") (hx : env.kindOf g = some .globalImplicit) (hd : (g == ("__debug__" : Str)) = false) (ha : SA W n env sl es fs) (hst : es.any isStarred = false) (hs : ∀ e r, es = e :: r → starEach (e :: r) env = (false, eval e env) :: starEach r env) :
  SE W n env sl (.Call (.Name g p) es [] pos) (z4 b fs) := by
 intro A φ lo H s v H' hf R S L
 obtain ⟨vs, H1, h1, h2⟩ := wn hf
 refine Call_ (zk3 S L hg hv hn hx hd ?_)
 have key : wpAny (model W.prog W.w) A (evalArgs fv true (backTo pos (starEach es env)) []) (fun a s₁ => wpAny (model W.prog W.w) A (call fv ([] ++ a.pos) a.kw) (QE W φ H' s v) NoE s₁) NoE s := by
  refine za9 (wpAny_mono (ha pos A φ lo H s vs H1 h1 R S L) (fun y s1 ⟨φ1, E1, r1⟩ => ?_) fun _ _ x => x) hs
  exact wpAny_mono (hb A φ1 vs H1 s1 v H' y h2 R.1 R.units E1.sim r1) (fun z s2 ⟨φ2, E2, r2⟩ => ⟨φ2, E1.trans E2, r2⟩) fun _ _ x => x
 rcases hfv with ⟨id, rfl⟩ | ⟨T, rfl⟩
 ·exact callWith_builtin (zgj hst) key
 ·exact zhs (zgj hst) key
noncomputable def b.len (args : List MV) (H : St) : Option (MV × St) := zbw args fun v => jq v fun i => y4 H[i]? fun l => if small l.length then some (.int l.length, H) else none
theorem qr : CB W (.builtin "len") b.len := by
 intro A φ args H s v H' ys hb hA hu S r
 refine zbw.i hb fun v ev h1 => jq.i h1 fun i ei h2 => y4.i h2 fun l hl h3 => ja h3 fun hz h4 => ?_
 subst ev ei
 refine inj2 ?_ h4
 obtain ⟨_, rfl, q⟩ := r.one_inv
 obtain ⟨a, vs, m, rfl, ha, hg, rl⟩ := S.list_of hl q
 have hz' : l.length ≤ 1000000 := by simpa [small] using hz
 have hlen : l.length = vs.size := by rw [rl.length, zxi]
 rw [hlen]
 exact call_len_list ⟨_, hg, rfl, _, rfl⟩ (by lia) ⟨φ, .tok S _, .int ..⟩
noncomputable def b.abs (args : List MV) (H : St) : Option (MV × St) := zbw args fun v => uo v fun i => some (.int (if i < 0 then -i else i), H)
theorem vf : CB W (.builtin "abs") b.abs := by
 intro A φ args H s v H' ys hb hA hu S r
 refine zbw.i hb fun v ev h1 => uo.i h1 fun i ei h2 => ?_
 subst ev ei
 refine inj2 ?_ h2
 obtain ⟨_, rfl, q⟩ := r.one_inv
 obtain ⟨_, rfl⟩ := q.int_inv
 exact call_abs_int fun u tk => ⟨φ, .tok S _, .int ..⟩
theorem zgs {l : List MV} : ∀ {ns : List Int}, x7 l = some ns → l = ns.map .int := by
 induction l with
 | nil => intro ns h; refine inj1 ?_ h; rfl
 | cons v l ih =>
  intro ns h
  refine uo.i h fun i ei h1 => ?_
  obtain ⟨ns, h2, rfl⟩ := zvv.mp h1
  rw [zs9, ← ih h2, ei]
noncomputable def b.range (args : List MV) (H : St) : Option (MV × St) := (x7 args).bind fun l => (zbw l fun b => some (.rng 0 b 1, H)).or
 (zk5 l fun a r => (zbw r fun b => some (.rng a b 1, H)).or (zk5 r fun b r => zbw r fun c => if c == 0 then none else if c.natAbs < 1073741824 then some (.rng a b c, H) else none))
theorem jd : CB W (.type "range") b.range := by
 intro A φ args H s v H' ys hb hA hu S r
 obtain ⟨l, hl, hb⟩ := zvx.mp hb
 rw [zgs hl] at r
 rcases zvy.mp hb with hb | ⟨-, hb⟩
 ·refine zbw.i hb fun b eb hb => inj2 ?_ hb
  subst eb
  obtain ⟨_, rfl, q⟩ := r.one_inv
  obtain ⟨_, rfl⟩ := q.int_inv
  exact call_range_1 ⟨φ, ur S fun b o e => zwk _ e, .rng _ _ _ _ _ _ _ (zwl _ rfl)⟩
 refine zk5.i hb fun a r1 ea hb => ?_
 subst ea
 obtain ⟨_, _, rfl, q, rr⟩ := r.cons_inv
 obtain ⟨_, rfl⟩ := q.int_inv
 rcases zvy.mp hb with hb | ⟨-, hb⟩
 ·refine zbw.i hb fun b eb hb => inj2 ?_ hb
  subst eb
  obtain ⟨_, rfl, q'⟩ := rr.one_inv
  obtain ⟨_, rfl⟩ := q'.int_inv
  exact call_range_2 ⟨φ, ur S fun b o e => zwk _ e, .rng _ _ _ _ _ _ _ (zwl _ rfl)⟩
 ·refine zk5.i hb fun b r2 eb hb => zbw.i hb fun c ec hb => zlt hb fun hz hb => ja hb fun hs hb => inj2 ?_ hb
  subst eb ec
  obtain ⟨_, _, rfl, q', q''⟩ := rr.two_inv
  obtain ⟨_, rfl⟩ := q'.int_inv; obtain ⟨_, rfl⟩ := q''.int_inv
  exact call_range_3 (by simpa using hz) ⟨φ, ur S fun b o e => zwk _ e, .rng _ _ _ _ _ _ _ (zwl _ rfl)⟩ (.inl (PyProof.noPylong_small hs))
noncomputable def b.list (args : List MV) (H : St) : Option (MV × St) := zbw args fun v => ((jq v fun i => y4 H[i]? some).or (ziw v some)).bind fun l => if small l.length then some (.ref H.length, H ++ [.list l]) else none
theorem znf : CB W (.type "list") b.list := by
 intro A φ args H s v H' ys hb hA hu S r
 refine zbw.i hb fun v ev h1 => ?_
 subst ev
 obtain ⟨_, rfl, q⟩ := r.one_inv
 obtain ⟨l, hb, h2⟩ := zvx.mp h1
 refine ja h2 fun hz h2 => inj2 ?_ h2
 have hz' : l.length ≤ 1000000 := by simpa [small] using hz
 rcases zvy.mp hb with hb | ⟨-, hb⟩
 ·refine jq.i hb fun i ei h3 => y4.i h3 fun l' hl h4 => ?_
  cases h4
  subst ei
  obtain ⟨a, vs, m, rfl, ha, hg, rl⟩ := S.list_of hl q
  have hlen : l.length = vs.size := by rw [rl.length, zxi]
  refine call_list_seq a (.inl rfl) hg rfl rfl (fun h' c' k e => ?_) (by rw [sizeLine_eq]; lia)
  exact .of (zas (t := s.toks) S k (ui _) e rl)
 ·refine ziw.i hb fun l' el h4 => ?_
  cases h4
  subst el
  obtain ⟨a, vs, rfl, hT, rl⟩ := q.tup_inv
  obtain ⟨o, ho, hc, m, hd⟩ := hT
  have hlen := rl.length
  refine call_list_seq a (.inr rfl) ho hc hd (fun h' c' k e => ?_) (by rw [sizeLine_eq, ztb]; lia)
  exact .of (zas (t := s.toks) S k (ui _) e (by simpa using rl))
noncomputable def b.tuple (args : List MV) (H : St) : Option (MV × St) := zbw args fun v => jq v fun i => y4 H[i]? fun l => if small l.length then some (.tup l, H) else none
noncomputable def CM (W : Wd) (id : String) (b : MV → List MV → St → Option (MV × St)) : Prop :=
 ∀ A φ o args H s v H' y ys, b o args H = some (v, H') → A.handled = none → A.units + 64 < cLine → Sim W φ H s.heap → RV W.base φ s.heap o y → RVs W.base φ s.heap args ys →
  wpAny (model W.prog W.w) A (call (.builtin id) (y :: ys)) (QE W φ H' s v) NoE s
noncomputable def zjq (v : MV) (H : St) : Bool := (jq v fun i => y4 H[i]? some).isSome
theorem zgr {v : MV} {H : St} (h : zjq v H = true) : ∃ i l, v = .ref i ∧ H[i]? = some (.list l) := by
 obtain ⟨l, h⟩ := zv1.mp h
 exact jq.i h fun i ei h => y4.i h fun l hi h => ⟨i, l, ei, hi⟩
noncomputable def yj (b : MV → List MV → St → Option (MV × St)) (f : DE) (fs : List DE) : DE := fun lo H => bnd (f lo H) fun o H => if zjq o H then bnd (jw fs lo H) fun vs H => b o vs H else none
theorem zpj {bid : String} {x : Str} {e : Expr} {apos pos : Pos} {es : List Expr} {f : DE} {fs : List DE} {pl : Sem Bool} {b : MV → List MV → St → Option (MV × St)} (hb : CM W bid b) (slot : Slot "list" x bid) (hty : typeOf (.builtin bid) = pure (.type "method_descriptor"))
  (he : SE W n env sl e f) (ha : SA W n env sl es fs) (hst : es.any isStarred = false) (hs : ∀ e r, es = e :: r → starEach (e :: r) env = (false, eval e env) :: starEach r env)
  (hm : eval (.Call (.Attribute e x apos) es [] pos) env = (do
   let ov ← eval e env
   standAt apos.atName
   let (f, first) ← holding [ov] (getMethod ov x pl)
   callWith pos f first (backTo pos (starEach es env)) [])) : SE W n env sl (.Call (.Attribute e x apos) es [] pos) (yj b f fs) := by
 intro A φ lo H s v H' hf R S L
 obtain ⟨o, H1, h1, h2⟩ := wn hf
 refine ja h2 fun hl h2 => ?_
 ·obtain ⟨vs, H2, h3, h4⟩ := wn h2
  refine MethodCall_ (pl := pl) (wpAny_mono (he A φ lo H s o H1 h1 R S L) (fun y s1 hq => ?_) fun _ _ x => x) hm
  obtain ⟨φ1, E1, r1⟩ := hq
  obtain ⟨i, l, rfl, hi⟩ := zgr hl
  obtain ⟨a, ws, m, rfl, ha', hg, rl⟩ := E1.sim.list_of hi r1
  refine getMethod_builtin ⟨_, hg, rfl⟩ zxg slot hty (fun b e => by cases e; exact ⟨_, hg, rfl⟩) ?_
  refine callWith_builtin (zgj hst) (za9 (wpAny_mono (ha pos A φ1 lo H1 s1 vs H2 h3 R E1.sim (L.post0 E1.post)) (fun z s2 ⟨φ2, E2, r2⟩ => ?_) fun _ _ x => x) hs)
  exact wpAny_mono (hb A φ2 _ vs H2 s2 v H' _ z h4 R.1 R.units E2.sim (r1.post E2.post) r2) (fun u s3 ⟨φ3, E3, r3⟩ => ⟨φ3, (E1.trans E2).trans E3, r3⟩) fun _ _ x => x
noncomputable def m.append (o : MV) (args : List MV) (H : St) : Option (MV × St) := jq o fun i => zbw args fun v => y4 H[i]? fun l => if small l.length then some (.none, H.set i (.list (l ++ [v]))) else none
theorem yz : CM W "list.append" m.append := by
 intro A φ o args H s v H' y ys hb hA hu S ro rs
 refine jq.i hb fun i ei h1 => zbw.i h1 fun x ex h2 => y4.i h2 fun l hl h3 => ja h3 fun hz h4 => ?_
 subst ei ex
 refine inj2 ?_ h4
 obtain ⟨_, rfl, q⟩ := rs.one_inv
 obtain ⟨a, vs, m, rfl, ha, hg, rl⟩ := S.list_of hl ro
 have hz' : l.length ≤ 1000000 := by simpa [small] using hz
 have hlen : l.length = vs.size := by rw [rl.length, zxi]
 refine append_at hg (fun h' hs e => ?_) (by rw [sizeLine_eq]; lia)
 refine ⟨φ, ze8 (t := s.toks) S hl ha hs (fun imm => ⟨rfl, _, _, e, ?_⟩) ⟨_, e⟩, .none⟩
 rw [zxo]
 exact (rl.mono zsw imm).append (.cons (q.mono zsw imm) .nil)
noncomputable def m.extend (o : MV) (args : List MV) (H : St) : Option (MV × St) := jq o fun i => zbw args fun v => jq v fun j => y4 H[i]? fun l => y4 H[j]? fun k => if small (l.length + k.length) then some (.none, H.set i (.list (l ++ k))) else none
theorem zop : CM W "list.extend" m.extend := by
 intro A φ o args H s v H' y ys hb hA hu S ro rs
 refine jq.i hb fun i ei h1 => zbw.i h1 fun x ex h2 => jq.i h2 fun j ej h2 => y4.i h2 fun l hl h3 => y4.i h3 fun k hk h3 => ja h3 fun hz h4 => ?_
 subst ei ej ex
 refine inj2 ?_ h4
 obtain ⟨_, rfl, q⟩ := rs.one_inv
 obtain ⟨a, vs, m, rfl, ha, hg, rl⟩ := S.list_of hl ro
 obtain ⟨a', ws, m', rfl, ha', hg', rk⟩ := S.list_of hk q
 have hz' : l.length + k.length ≤ 1000000 := by simpa [small] using hz
 have h1 : l.length = vs.size := by rw [rl.length, zxi]
 have h2 : k.length = ws.size := by rw [rk.length, zxi]
 have e := PySem.IsL.update hg (fun x => x ++ ws)
 refine call_meets zxh ⟨_, hg, rfl⟩ PySem.F.entry_list_extend (PySem.F.args_list_extend_2 _ _)
  (PySem.AutoSeq1.list_extend_list_list_0 a vs m a' ws m' (by simp [Builtin.List.listTooLong, sizeLine_eq]; lia) (by rw [sizeLine_eq]; lia) (by rw [sizeLine_eq]; lia)) ⟨hg, hg', ?_⟩
 refine ⟨φ, ze8 (t := s.toks) S hl ha (zwn.update ..) (fun imm => ⟨rfl, _, _, e, ?_⟩) ⟨_, e⟩, .none⟩
 rw [Array.toList_append]
 exact (rl.mono zsw imm).append (rk.mono zsw imm)
noncomputable def zmz {α : Type} (l : List α) (lo hi st : Option Int) : List α :=
 (sliceRange (sliceBounds lo hi st l.length).1 (sliceBounds lo hi st l.length).2.1 (sliceBounds lo hi st l.length).2.2).filterMap (l[·]?)
theorem RVs.pickAt {base : Heap} {φ : wz} {h : Heap} {l : List MV} {vs : List Value} (r : RVs base φ h l vs) : ∀ idx : List Nat, RVs base φ h (idx.filterMap (l[·]?)) (idx.filterMap (vs[·]?))
 | [] => .nil
 | i :: r' => by
  have ih := RVs.pickAt r r'
  cases e : l[i]? with
  | none =>
   have e' : vs[i]? = none := by
    have := r.length
    rw [ztk] at e ⊢
    lia
   simp only [zu3, e, e']
   exact ih
  | some m =>
   obtain ⟨y, e', q⟩ := r.get e
   simp only [zu3, e, e']
   exact .cons q ih
theorem zrn {base : Heap} {φ : wz} {h : Heap} {l : List MV} {vs : Array Value} (r : RVs base φ h l vs.toList) (lo hi st : Option Int) : RVs base φ h (zmz l lo hi st) (slicePick vs lo hi st).toList := by
 have hlen : l.length = vs.size := by rw [r.length, zxi]
 unfold zmz slicePick
 rw [hlen]
 have : (fun i => vs[i]?) = fun i : Nat => vs.toList[i]? := by funext i; rw [zxk]
 simp only [this]
 exact r.pickAt _
noncomputable def zf9 : Option DE → Lo → St → Option (Option Int × St)
 | none, _, H => some (none, H)
 | some f, lo, H => bnd (f lo H) fun v H => match v with
  | .int i => some (some i, H)
  | _ => none
noncomputable def SPt (W : Wd) (n : Nat) (env : Env) (sl : List (Option Str)) (e : Option Expr) (f : Option DE) : Prop :=
 ∀ A φ lo H s v H', zf9 f lo H = some (v, H') → zal n A → Sim W φ H s.heap → Loc W env sl lo φ s.heap →
  wpAny (model W.prog W.w) A (evalPart e env) (fun y s' => ∃ φ', EP W φ φ' H' [] s s' ∧ IsPart y v) NoE s
theorem xw : SPt W n env sl none none := by
 intro A φ lo H s v H' hf R S L
 refine inj2 ?_ hf
 exact wpAny_pure ⟨φ, .refl S, .none⟩
theorem ze9 {e : Expr} {f : DE} (h : SE W n env sl e f) : SPt W n env sl (some e) (some f) := by
 intro A φ lo H s v H' hf R S L
 obtain ⟨a, H1, h1, h2⟩ := wn hf
 split at h2
 ·refine inj2 ?_ h2
  refine wpAny_mono (h A φ lo H s _ _ h1 R S L) (fun y s1 ⟨φ1, E1, r1⟩ => ?_) fun _ _ x => x
  cases r1
  exact ⟨φ1, E1, .int _ _⟩
 ·cases h2
noncomputable def zjd (v : MV) (H : St) : Option (List MV) := (jq v fun i => y4 H[i]? some).or (aFrz v fun l => some (l.map .int))
theorem zkv {base : Heap} {φ : wz} {h : Heap} : ∀ {vs : List Value} {l : List Int}, IntsAre vs l → RVs base φ h (l.map .int) vs
 | _, _, .nil => .nil
 | _, _, .cons i t r => .cons (.int i t) (zkv r)
theorem zp1 {φ : wz} {H : St} {h : Heap} {v : MV} {y : Value} {l : List MV} (S : Sim W φ H h) (e : zjd v H = some l) (r : RV W.base φ h v y) : ∃ a vs, y = .ref a ∧ h.IsList a vs ∧ RVs W.base φ h l vs.toList := by
 rcases zvy.mp e with e | ⟨-, e⟩
 ·refine jq.i e fun i ei e1 => y4.i e1 fun l' hl e2 => ?_
  cases e2
  subst ei
  obtain ⟨a, vs, m, rfl, ha, hg, rl⟩ := S.list_of hl r
  exact ⟨a, vs, rfl, ⟨_, hg, rfl, _, rfl⟩, rl⟩
 ·refine aFrz.i e fun l' ev e1 => ?_
  subst ev
  refine inj1 ?_ e1
  obtain ⟨a, vs, rfl, hl, hi⟩ := r.frz_inv
  exact ⟨a, vs.toArray, rfl, hl.at fun o e => S.base _ _ e, by simpa using zkv hi⟩
noncomputable def kx (f : DE) (pl pu ps : Option DE) : DE := fun lo H => bnd (f lo H) fun v H => bnd (zf9 pl lo H) fun a H => bnd (zf9 pu lo H) fun b H => bnd (zf9 ps lo H) fun c H =>
 if c = some 0 then none else (zjd v H).bind fun l => if small l.length then some (.ref H.length, H ++ [.list (zmz l a b c)]) else none
theorem zdb {e : Expr} {l u st : Option Expr} {p pos : Pos} {f : DE} {pl pu ps : Option DE} (he : SE W n env sl e f) (hl : SPt W n env sl l pl) (hu : SPt W n env sl u pu) (hs : SPt W n env sl st ps) : SE W n env sl (.Subscript e (.Slice l u st p) pos) (kx f pl pu ps) := by
 intro A φ lo H s v H' hf R S L
 obtain ⟨v0, H1, h1, h2⟩ := wn hf
 obtain ⟨a, H2, h3, h4⟩ := wn h2
 obtain ⟨b, H3, h5, h6⟩ := wn h4
 obtain ⟨c, H4, h7, h8⟩ := wn h6
 refine zlt h8 fun hc h8 => ?_
 obtain ⟨its, hits, h8⟩ := zvx.mp h8
 refine ja h8 fun hz h8 => ?_
 refine inj2 ?_ h8
 refine Subscript_ (wpAny_mono (he A φ lo H s v0 H1 h1 R S L) (fun y s1 ⟨φ1, E1, r1⟩ => ?_) fun _ _ x => x)
 have L1 := L.post0 E1.post
 refine wpAny_Slice (wpAny_mono (hl A φ1 lo H1 s1 a H2 h3 R E1.sim L1) (fun ya s2 ⟨φ2, E2, r2⟩ => ?_) fun _ _ x => x)
 have L2 := L1.post0 E2.post
 refine wpAny_mono (hu A φ2 lo H2 s2 b H3 h5 R E2.sim L2) (fun yb s3 ⟨φ3, E3, r3⟩ => ?_) fun _ _ x => x
 have L3 := L2.post0 E3.post
 refine wpAny_mono (hs A φ3 lo H3 s3 c _ h7 R E3.sim L3) (fun yc s4 ⟨φ4, E4, r4⟩ => ?_) fun _ _ x => x
 have rv := ((r1.post E2.post).post E3.post).post E4.post
 obtain ⟨ad, vs, rfl, hL, rl⟩ := zp1 E4.sim hits rv
 have hz' : its.length ≤ 1000000 := by simpa [small] using hz
 have hlen : its.length = vs.size := by rw [rl.length, zxi]
 have hsub : ∃ ops, subscripted (.Slice l u st p) false (.ref ad) (.ref s4.heap.objs.size) = operate ops (getItem (.ref ad) (.ref s4.heap.objs.size)) := by
  cases st with
  | none => exact ⟨_, rfl⟩
  | some _ => exact ⟨_, rfl⟩
 obtain ⟨ops, hops⟩ := hsub
 have hl' := hL.push { cls := .type "slice", data := .fields #[ya, yb, yc] }
 refine tail_any (s := { s4 with heap := s4.heap.push { cls := .type "slice", data := .fields #[ya, yb, yc] } }) (Heap.IsList.typeIs (s := { s4 with heap := s4.heap.push { cls := .type "slice", data := .fields #[ya, yb, yc] } }) hl') list_getitem_lookup
  (wpAny_getItem_list_slice hl' (Heap.IsSliceOf.new ..) r2 r3 r4 hc ?_ (by rw [sizeLine_eq]; lia)) hops
 have kk : ∀ x o, s4.heap.get? x = some o → ((s4.heap.push { cls := .type "slice", data := .fields #[ya, yb, yc] }).push (lst (slicePick vs a b c) 0)).get? x = some o := fun x o e => zwk _ (zwk _ e)
 obtain ⟨E5, R5⟩ := zas (t := s4.toks) E4.sim kk (jp (by rw [zwo]; exact zwy _)) (zwl _ rfl) (zrn rl a b c)
 exact ⟨_, (((E1.trans E2).trans E3).trans E4).trans E5, R5⟩
end
end Mine
namespace Mine
theorem ju.drop {φ φ' φ'' : wz} {S : List Addr} {h h' h'' : Heap} (x : ju φ φ' [] h h') (y : ju φ' φ'' S h' h'') (hS : ∀ a ∈ S, h.get? a = none) : ju φ φ'' [] h h'' := by
 refine ⟨x.ext.trans y.ext, fun p hp => ?_, fun a o e h1 h2 => ?_, fun a o e hf => y.imm a o (x.imm a o e hf) hf, fun a o e => ?_⟩
 ·rcases y.fresh p hp with q | q
  ·exact x.fresh p q
  ·right
   cases e : h.get? p.2 with
   | none => rfl
   | some o => obtain ⟨o', e'⟩ := x.alive _ _ e; rw [e'] at q; cases q
 ·refine y.keep a o (x.keep a o e h1 h2) (fun hm => ?_) fun hm => ?_
  ·rw [hS a hm] at e; cases e
  ·obtain ⟨p, hp, rfl⟩ := zso.mp hm
   rcases x.fresh p hp with q | q
   ·exact h2 (zs5 q)
   ·rw [e] at q; cases q
 ·obtain ⟨o', e'⟩ := x.alive a o e
  exact y.alive a o' e'
theorem zor {x : Str} : ∀ {ns : List (Str × NameKind)} {n : Nat} {acc : List (Str × Addr)}, ((x, NameKind.cell) ∈ ns ∨ ∃ c, (x, c) ∈ acc) → ∃ c, (x, c) ∈ cellsFrom n ns acc := by
 intro ns
 induction ns with
 | nil => exact fun h => h.elim (fun q => by cases q) id
 | cons p r ih =>
  intro n acc h
  obtain ⟨y, k⟩ := p
  unfold cellsFrom
  by_cases hk : (k == NameKind.cell) = true
  ·rw [if_pos hk]
   refine ih ?_
   rcases h with q | ⟨c, q⟩
   ·rcases zss.mp q with e | q
    ·cases e; exact .inr ⟨n, .head _⟩
    ·exact .inl q
   ·exact .inr ⟨c, .tail _ q⟩
  ·rw [if_neg hk]
   refine ih ?_
   rcases h with q | q
   ·rcases zss.mp q with e | q
    ·cases e; exact absurd rfl hk
    ·exact .inl q
   ·exact .inr q
theorem zly {l : List (Str × Addr)} {x : Str} {c : Addr} (h : (x, c) ∈ l) : (l.lookup x).isSome = true := by
 induction l with
 | nil => cases h
 | cons p r ih =>
  obtain ⟨y, d⟩ := p
  rw [zu4]
  by_cases hy : x = y
  ·subst hy; simp
  ·have : (x == y) = false := by simpa using hy
   rw [this]
   rcases zss.mp h with q | q
   ·cases q; exact absurd rfl hy
   ·exact ih q
theorem zef {x : Str} {ns : List (Str × NameKind)} {n : Nat} (h : ns.lookup x = some .cell) : ((cellsFrom n ns []).lookup x).isSome = true := by
 obtain ⟨c, hc⟩ := zor (n := n) (acc := []) (.inl (mem_of_lookup h))
 exact zly hc
theorem zou {k : Str → Option NameKind} : ∀ {ns : List Str} {ys : List Value} (m : Str → Option Value), ns.Nodup → ns.length = ys.length → ∀ {i : Nat} {x : Str} {y : Value}, ns[i]? = some x → ys[i]? = some y → k x = some .local → bindL k (ns.zip ys) m x = some y := by
 intro ns
 induction ns with
 | nil => intro ys m nd hl i x y h h' hk; simp at h
 | cons a r ih0 =>
  intro ys m nd hl i x y h h' hk
  cases ys with
  | nil => simp at hl
  | cons b t =>
  simp only [zt6, bindL]
  have nd' := zs4.mp nd
  have keep : ∀ {r : List Str} {t : List Value} {m : Str → Option Value}, x ∉ r → bindL k (r.zip t) m x = m x := by
   intro r
   induction r with
   | nil => intro t m _; cases t <;> rfl
   | cons c r ih =>
    intro t m hx
    cases t with
    | nil => rfl
    | cons d t =>
     simp only [zt6, bindL]
     rw [ih (fun q => hx (.tail _ q))]
     split
     ·show (if x = c then some d else m x) = m x; rw [if_neg (fun q => hx (by rw [q]; exact .head _))]
     ·rfl
  cases i with
  | zero =>
   simp only [ztv, zvu.injEq] at h h'
   subst h; subst h'
   rw [keep nd'.1, if_pos hk]; simp
  | succ i =>
   simp only [ztw] at h h'
   exact ih0 _ nd'.2 (by simpa using hl) h h' hk
theorem zov {k : Str → Option NameKind} : ∀ {ns : List Str} {ys : List Value} (m : Str → Option Value), ns.Nodup → ns.length = ys.length → ∀ {i : Nat} {x : Str} {y : Value}, ns[i]? = some x → ys[i]? = some y → k x = some .cell → bindC k (ns.zip ys) m x = some y := by
 intro ns
 induction ns with
 | nil => intro ys m nd hl i x y h h' hk; simp at h
 | cons a r ih0 =>
  intro ys m nd hl i x y h h' hk
  cases ys with
  | nil => simp at hl
  | cons b t =>
  simp only [zt6, bindC]
  have nd' := zs4.mp nd
  have keep : ∀ {r : List Str} {t : List Value} {m : Str → Option Value}, x ∉ r → bindC k (r.zip t) m x = m x := by
   intro r
   induction r with
   | nil => intro t m _; cases t <;> rfl
   | cons c r ih =>
    intro t m hx
    cases t with
    | nil => rfl
    | cons d t =>
     simp only [zt6, bindC]
     rw [ih (fun q => hx (.tail _ q))]
     split
     ·rfl
     ·show (if x = c then some d else m x) = m x; rw [if_neg (fun q => hx (by rw [q]; exact .head _))]
  cases i with
  | zero =>
   simp only [ztv, zvu.injEq] at h h'
   subst h; subst h'
   rw [keep nd'.1, if_neg (by rw [hk]; decide)]; simp
  | succ i =>
   simp only [ztw] at h h'
   exact ih0 _ nd'.2 (by simpa using hl) h h' hk
section
variable {W : Wd} {n : Nat} {A : Around}
noncomputable def gives (f : Fl) (H : St) : Option (MV × St) := match f with
 | .ret v => some (v, H)
 | .next => some (.none, H)
 | _ => none
noncomputable def jl (na ns : Nat) (dm : List MV) (b : DS) : DF := fun args H => if args.length + dm.length = na then (b ((args ++ dm).map some ++ zsp (ns - na) none) H).bind (fun r => gives r.1 r.2.2) else none
theorem fs_def {k : Nat} {fa : Addr} {name qual : Str} {params : Arguments} {body : List Stmt} {scope : Scope} {dV kV doc pm cdv ct oc : Value} {an od : Option Addr} {osl : Array (Option Value)} {b : DS} {names : List Str} {sl : List (Option Str)} {dm : List MV} {dv : List Value}
  (ho : W.K.lookup fa = some ⟨oc, od, .func (fnOf name qual params body scope dV kV doc pm an cdv ct), osl⟩) (hcd : codeIn W.K cdv qual = true)
  (hb : ∀ L, SB W k (envOfC qual scope L fa cdv) sl body b)
  (hdv : ∀ φ h, RVs W.base φ h dm dv)
  (hbind : ∀ (s : Shared) (ys : List Value), ys.length + dv.length = names.length → (∀ b o, W.base.get? b = some o → s.heap.get? b = some o) → BindsTo s (fnOf name qual params body scope dV kV doc pm an cdv ct) ⟨ys, []⟩ (names.zip (ys ++ dv)))
  (hnd : names.Nodup) (hsl : ∀ (i : Nat) (x : Str), names[i]? = some x → sl[i]? = some (some x)) (huniq : ∀ (i j : Nat) (x : Str), sl[i]? = some (some x) → sl[j]? = some (some x) → i = j)
  (hkinds : ∀ x ∈ names, scope.names.lookup x = some .local ∨ scope.names.lookup x = some .cell) (hcn : ((cellsFrom 0 scope.names []).map (·.1)).Nodup)
  (hco : scope.isCoroutine = false) (hgen : scope.isGenerator = false) (hk : scope.kind = .function) : FS W (k + 1) (.ref fa) (jl names.length sl.length dm b) := by
 intro A φ args H s v H' ys e R S r
 unfold jl at e
 by_cases hlen : args.length + dm.length = names.length
 case neg => rw [if_neg hlen] at e; cases e
 rw [if_pos hlen] at e
 have hy : ys.length + dv.length = names.length := by rw [← r.length, ← (hdv φ s.heap).length]; exact hlen
 have X := W.KX.keeps S.base
 have hroom : A.depth < recursionLimit := by have := R.2.1; simp only [recursionLimit]; lia
 refine codeAny_call_function hroom (X _ _ ho) rfl hco hgen rfl (codeRec_of X hcd) (hbind s ys hy S.base _ _ _ _ ?_)
 refine wpAny_newFunctionEnv_cells hk (fun p hp => ?_) fun env' he s1 x => ?_
 ·have hx : p.1 ∈ names := by
   obtain ⟨i, hi, e⟩ := zs6.mp hp
   have := List.getElem_zip (h := hi)
   rw [e] at this
   rw [this]
   exact List.getElem_mem _
  rcases hkinds _ hx with q | q
  ·exact .inl q
  ·exact .inr ⟨q, zef q⟩
 subst he
 refine ⟨(W.T.nolimit.keeps S.base).keeps x.toInCall.keep, codeAny_func ?_⟩
 have keep := x.toInCall.keep
 have hL : s.heap.get? s.heap.objs.size = none := ui _
 have hcells : ∀ c ∈ (cellsFrom (s.heap.objs.size + 1) scope.names []).map (·.2), s.heap.objs.size < c ∧ ∃ z, (cellsFrom (s.heap.objs.size + 1) scope.names []).lookup z = some c ∧ s1.heap.IsCell c (bindC (envOfC qual scope s.heap.objs.size fa cdv).kindOf (names.zip (ys ++ dv)) (fun _ => none) z) := by
  intro c hc
  obtain ⟨p, hp, rfl⟩ := zso.mp hc
  have hlk : (cellsFrom (s.heap.objs.size + 1) scope.names []).lookup p.1 = some p.2 := lookup_of_mem_nodup (cellsFrom_names scope.names 0 (s.heap.objs.size + 1) [] [] rfl ▸ hcn) hp
  exact ⟨x.above p.1 p.2 hp, p.1, hlk, x.cell p.1 p.2 hlk⟩
 have hfree : ∀ a ∈ kq (envOfC qual scope s.heap.objs.size fa cdv), s.heap.get? a = none := by
  intro a ha
  rcases zss.mp ha with rfl | ha
  ·exact hL
  ·exact jp (zw3 (hcells a ha).1)
 have E0 : EP W φ φ H [] s s1 := by
  obtain ⟨h1, tk, rfl, _⟩ := x.done
  exact ur S keep
 have hslot : ∀ (i : Nat) (z : Str) (u : MV), sl[i]? = some (some z) → ((args ++ dm).map some ++ zsp (sl.length - names.length) none)[i]? = some (some u) → names[i]? = some z ∧ ∃ y, (ys ++ dv)[i]? = some y ∧ RV W.base φ s1.heap u y := by
  intro i z u h1 h2
  have hl' : ((args ++ dm).map some).length = names.length := by simpa using hlen
  by_cases hi : i < names.length
  ·rw [zst (by rw [hl']; exact hi), zsu] at h2
   obtain ⟨w, hw, hw'⟩ := zvv.mp h2
   cases hw'
   have hn := hsl i names[i] (zsv hi)
   rw [h1] at hn
   refine ⟨by rw [zsv hi]; exact (zvu.inj hn) ▸ rfl, ?_⟩
   obtain ⟨y, e1, e2⟩ := (r.append (hdv φ s.heap)).get hw
   exact ⟨y, e1, e2.post E0.post⟩
  ·rw [zs2 (by rw [hl']; lia)] at h2
   have := zsm h2
   rw [zum] at this
   cases this.2
 have hlz : names.length = (ys ++ dv).length := by rw [zs1, hy]
 have L0 : Loc W (envOfC qual scope s.heap.objs.size fa cdv) sl ((args ++ dm).map some ++ zsp (sl.length - names.length) none) φ s1.heap := by
  refine ⟨hk, rfl, rfl, fun a ha => ⟨fun hm => ?_, ?_, ?_⟩, huniq, ⟨_, x.toInCall.ns, fun i z u h1 h2 h3 => ?_⟩, fun i z u h1 h2 h3 => ?_, fun z hz => ?_, fun z c hc => ⟨?_, fun y hy' => ?_⟩⟩
  ·obtain ⟨p, hp, rfl⟩ := zso.mp hm
   obtain ⟨o, ho', _⟩ := S.carrier hp
   rw [hfree _ (zss.mpr (ha.imp id id))] at ho'; cases ho'
  ·cases e1 : W.base.get? a with
   | none => rfl
   | some o => have := S.base _ _ e1; rw [hfree _ (zss.mpr (ha.imp id id))] at this; cases this
  ·rcases ha with rfl | ha
   ·obtain ⟨o, es, ep, e1, e2, _⟩ := x.toInCall.ns
    exact ⟨o, e1, by unfold qo; rw [e2]⟩
   ·obtain ⟨_, z, _, o, e1, e2⟩ := hcells a ha
    exact ⟨o, e1, by unfold qo; rw [e2]⟩
  ·obtain ⟨hn, y, e1, e2⟩ := hslot i z u h1 h3
   exact ⟨y, zou _ hnd hlz hn e1 h2, e2⟩
  ·obtain ⟨hn, y, e1, e2⟩ := hslot i z u h1 h3
   obtain ⟨c, hc⟩ := zv1.mp (zef (n := s.heap.objs.size + 1) (x := z) h2)
   refine ⟨c, y, hc, ?_, e2⟩
   have := x.cell z c hc
   rw [show bindC (newEnv scope s.heap.objs.size mainGlobals (cellsFrom (s.heap.objs.size + 1) scope.names []) (qual ++ ".<locals>.") (some fa) cdv none builtinsNs).kindOf (names.zip (ys ++ dv)) (fun _ => none) z = some y from zov _ hnd hlz hn e1 h2] at this
   exact this
  ·obtain ⟨c, hc⟩ := zv1.mp (zef (n := s.heap.objs.size + 1) (x := z) hz)
   exact ⟨c, _, hc, x.cell z c hc⟩
  ·exact Nat.ne_of_gt (hcells c (kg hc)).1
  ·exact name_of_addr x.apart (mem_of_lookup hy') (mem_of_lookup hc)
 have Rk : zal k (A.deeper (envOfC qual scope s.heap.objs.size fa cdv)) := ⟨R.1, by have := R.2.1; show A.depth + 1 + k ≤ 600; lia, by have := R.2.2; show A.units + 3 + 20 * k ≤ 8000; lia⟩
 have fin : ∀ fl lo' (v' : MV), b ((args ++ dm).map some ++ zsp (sl.length - names.length) none) H = some (fl, lo', H') → (∀ φ' h f, RFl W φ' h fl f → ∃ y, (match f with | .ret v => v | _ => zsg) = y ∧ RV W.base φ' h v y) → _ := fun fl lo' v' hb' hv' =>
  wpAny_mono (hb s.heap.objs.size _ φ _ H s1 fl lo' H' hb' Rk E0.sim L0) (Q' := fun f s' => ∃ y φ', Except.ok (Flow.ret (match f with | .ret v => v | _ => zsg)) = (.ok (.ret y) : Result) ∧ EP W φ φ' H' [] s s' ∧ RV W.base φ' s'.heap v y)
   (E' := fun e s' => wpAny (model W.prog W.w) (A.deeper (envOfC qual scope s.heap.objs.size fa cdv)) (leaving (envOfC qual scope s.heap.objs.size fa cdv) e) (fun _ s'' => ∃ y φ', (.error e : Result) = .ok (.ret y) ∧ EP W φ φ' H' [] s s'' ∧ RV W.base φ' s''.heap v y) (fun e' s'' => ∃ y φ', (.error e' : Result) = .ok (.ret y) ∧ EP W φ φ' H' [] s s'' ∧ RV W.base φ' s''.heap v y) s')
   (fun f s2 ⟨φ2, E2, L2, rf⟩ => by
    obtain ⟨y, e1, e2⟩ := hv' φ2 s2.heap f rf
    exact ⟨y, φ2, by rw [e1], ⟨E2.sim, E0.post.drop E2.post hfree, E0.same.trans E2.same⟩, e2⟩) fun _ _ x => x.elim
 obtain ⟨⟨f1, lo', H2⟩, hb', e⟩ := zvx.mp e
 cases f1 with
 | ret v' => cases e; exact fin _ _ v hb' fun φ' h f rf => by cases rf; exact ⟨_, rfl, ‹_›⟩
 | next => cases e; exact fin _ _ .none hb' fun φ' h f rf => by cases rf; exact ⟨_, rfl, .none⟩
 | _ => cases e
theorem zk9 {C : Addr} {rest : List Value} : (A.under (.builtin "type.__call__" ⟨.ref C :: rest, []⟩)).depth = A.depth + 1 ∧ (A.under (.builtin "type.__call__" ⟨.ref C :: rest, []⟩)).units = A.units + 1 ∧
  (A.under (.builtin "type.__call__" ⟨.ref C :: rest, []⟩)).handled = A.handled := ⟨rfl, rfl, rfl⟩
noncomputable def zey (c : Nat) (Df : DF) : DF := fun args H => bnd (Df (.ref H.length :: args) (H ++ [.obj c []])) fun v H' => zg4 v (some (.ref H.length, H'))
theorem zna {k c : Nat} {C N fI : Addr} {Df : DF} (K : Cls W c C N) (F : FS W k (.ref fI) Df) (hm : makesIn W.K C = true) (hi : findIn W.K (.ref C) "__init__" = some (some (.ref fI))) (hf : typeIn W.K (.ref fI) = some (.type "function")) :
  FS W (k + 1) (.ref C) (zey c Df) := by
 intro A φ args H s v H' ys e R S r
 obtain ⟨v0, H1, h1, h2⟩ := wn e
 refine zg4.i h2 fun ev h3 => ?_
 subst ev
 refine inj2 ?_ h3
 have X := W.KX.keeps S.base
 obtain ⟨h, g, d, t, os⟩ := s
 refine make_core (makes_of X hm) (looks_findIn X hi) (fun self => bind_fn X self hf) (.inl rfl) ?_
 have kk : ∀ b o, h.get? b = some o → ((h.push emptyDict).push (instObj C h.objs.size)).get? b = some o := fun b o e => zwk _ (zwk _ e)
 have hd : ((h.push emptyDict).push (instObj C h.objs.size)).get? h.objs.size = some emptyDict := zwk _ (zwl _ rfl)
 have hx : ((h.push emptyDict).push (instObj C h.objs.size)).get? (h.objs.size + 1) = some (instObj C h.objs.size) := by
  have := zwl (h.push emptyDict) (o := instObj C h.objs.size) rfl
  rwa [zwo] at this
 have hC : h.objs.size + 1 ≠ C := fun q => by
  obtain ⟨nm, q', bs, sn, sub, ab, col, dd, k0, k1, k2, k3, k5, newId, hC⟩ := K.obj
  have := zwm (X _ _ hC)
  rw [← q] at this
  exact absurd this (zw7.mpr (zwy _))
 have E0 : EP W φ (φ ++ [(h.objs.size + 1, h.objs.size)]) (H ++ [.obj c []]) [] ⟨h, g, d, t, os⟩ ⟨(h.push emptyDict).push (instObj C h.objs.size), g, d, t, os⟩ := by
  refine zm5 (s := ⟨h, g, d, t, os⟩) (t := t) S kk (ui _) ?_
  simp only [OR, K.cls]
  refine ⟨hx, zwu (zw0 _), hC, _, Heap.Ns1.of_empty ⟨_, #[], _, hd, rfl, fun e he => absurd he (by simp), fun _ => rfl⟩, zwv _, fun i x hx => ?_, fun _ _ => rfl⟩
  simp
 have R' : zal k (A.under (.builtin "type.__call__" ⟨.ref C :: ys, []⟩)) := by
  obtain ⟨u1, u2, u3⟩ := zk9 (A := A) (C := C) (rest := ys)
  refine ⟨u3.trans R.1, ?_, ?_⟩
  ·rw [u1]; have := R.2.1; lia
  ·rw [u2]; have := R.2.2; lia
 have rr : RVs W.base (φ ++ [(h.objs.size + 1, h.objs.size)]) ((h.push emptyDict).push (instObj C h.objs.size)) (.ref H.length :: args) (.ref (h.objs.size + 1) :: ys) := by
  refine .cons (.ref _ _ h.objs.size ?_) (r.post E0.post)
  rw [← S.len]; simp
 refine codeAny_mono (F _ _ _ _ _ _ _ _ h1 R' E0.sim rr) fun r2 s2 ⟨y, φ2, e2, E2, r2'⟩ => ?_
 subst e2
 cases r2'
 refine ⟨rfl, .ref (h.objs.size + 1), φ2, rfl, E0.trans E2, .ref _ _ h.objs.size ?_⟩
 refine xg E2.post.ext ?_
 rw [← S.len]; simp
theorem zri {env : Env} {sl : List (Option Str)} {k : Nat} {g : Str} {C : Addr} {Df : DF} {p pos : Pos} {es : List Expr} {fs : List DE} (F : FS W k (.ref C) Df) (hg : nsIn W.K mainGlobals g = some (some (.ref C))) (hkeep : keepIn W.K (.ref C) = true)
  (ha : SA W n env sl es fs) (hk : k ≤ n) (hx : env.kindOf g = some .globalImplicit) (hdb : (g == ("__debug__" : Str)) = false) (hst : es.any isStarred = false)
  (hs : ∀ e r, es = e :: r → starEach (e :: r) env = (false, eval e env) :: starEach r env) : SE W n env sl (.Call (.Name g p) es [] pos) (we Df fs) := by
 intro A φ lo H s v H' hf R S L
 obtain ⟨vs, H1, h1, h2⟩ := wn hf
 refine Call_ (zdq S L hg hx hdb ?_)
 refine callWith_of (P := fun h => W.K.In h) (by rw [zgj hst]; rfl) (keeps_K hkeep) (za9 ?_ hs)
 refine wpAny_mono (ha pos A φ lo H s vs H1 h1 R S L) (fun y s1 ⟨φ1, E1, r1⟩ => ?_) fun _ _ x => x
 refine ⟨W.KX.keeps E1.sim.base, ?_⟩
 exact wpAny_mono (F.call h2 (R.le hk) E1.sim r1) (fun z s2 ⟨φ2, E2, r2⟩ => ⟨φ2, E1.trans E2, r2⟩) fun _ _ x => x
end
end Mine
namespace Mine
noncomputable def zcg (Is : List Addr) (h h' : Heap) : Prop := ∀ b o, b ∉ Is → h.get? b = some o → h'.get? b = some o
noncomputable def zci (W : Wd) (env : Env) (φ : wz) (h : Heap) (Is : List Addr) : Prop := ∀ it ∈ Is, it ∉ φ.map (·.2) ∧ it ∉ kq env ∧ W.base.get? it = none ∧ ∃ o, h.get? it = some o ∧ qo o = false
section
variable {W : Wd} {n : Nat} {env : Env} {sl : List (Option Str)} {A : Around}
theorem zci.imm {φ : wz} {h h' : Heap} {Is : List Addr} (X : zci W env φ h Is) (hx : zcg Is h h') : ∀ b o, h.get? b = some o → qo o = true → h'.get? b = some o := fun b o e hf => by
 refine hx b o (fun q => ?_) e
 obtain ⟨_, _, _, o', e', f'⟩ := X b q
 rw [e] at e'; cases e'
 rw [hf] at f'; cases f'
theorem za4 {φ : wz} {H : St} {h h' : Heap} {Is : List Addr} (S : Sim W φ H h) (X : zci W env φ h Is) (hx : zcg Is h h') : Sim W φ H h' := by
 refine ⟨fun b o e => hx b o (fun q => ?_) (S.base b o e), S.len, S.nodup, S.out, fun i o e => ?_⟩
 ·rw [(X b q).2.2.1] at e; cases e
 ·obtain ⟨a, d, e1, q⟩ := S.obj i o e
  refine ⟨a, d, e1, q.mono zsw (X.imm hx) fun x hx' => hx d x (fun q => ?_) hx'⟩
  exact (X d q).1 (zso.mpr ⟨_, zsm e1, rfl⟩)
theorem zdg {φ : wz} {lo : Lo} {h h' : Heap} {Is : List Addr} (L : Loc W env sl lo φ h) (X : zci W env φ h Is) (hx : zcg Is h h') : Loc W env sl lo φ h' := by
 have imm := X.imm hx
 have ko : ∀ a ∈ kq env, ∀ o, h.get? a = some o → h'.get? a = some o := fun a ha o e => hx a o (fun q => (X a q).2.1 ha) e
 refine ⟨L.kind, L.glob, L.blt, fun a ha => ?_, L.uniq, ?_, fun i x v h1 h2 h3 => ?_, fun x hx => ?_, L.apart⟩
 ·obtain ⟨h1, h2, o, h3, h4⟩ := L.own a ha
  exact ⟨h1, h2, o, ko a (zss.mpr (ha.imp id id)) o h3, h4⟩
 ·obtain ⟨m, ⟨o, es, ep, e, r⟩, hv⟩ := L.loc
  refine ⟨m, ⟨o, es, ep, ko _ (.head _) _ e, r⟩, fun i x v h1 h2 h3 => ?_⟩
  obtain ⟨y, e', r'⟩ := hv i x v h1 h2 h3
  exact ⟨y, e', r'.mono zsw imm⟩
 ·obtain ⟨c, y, e1, ⟨o, e2, e3⟩, r⟩ := L.cel i x v h1 h2 h3
  exact ⟨c, y, e1, ⟨o, ko c (.tail _ (kg e1)) o e2, e3⟩, r.mono zsw imm⟩
 ·obtain ⟨c, v, e1, o, e2, e3⟩ := L.has x hx
  exact ⟨c, v, e1, o, ko c (.tail _ (kg e1)) o e2, e3⟩
theorem xq {φ φ' : wz} {S : List Addr} {h₀ h h' : Heap} {Is : List Addr} (P : ju φ φ' S h₀ h) (hn : ∀ a ∈ Is, h₀.get? a = none) (hx : zcg Is h h') : ju φ φ' S h₀ h' := by
 have hne : ∀ a o, h₀.get? a = some o → a ∉ Is := fun a o e q => by rw [hn a q] at e; cases e
 exact ⟨P.ext, P.fresh, fun a o e h1 h2 => hx a o (hne a o e) (P.keep a o e h1 h2), fun a o e hf => hx a o (hne a o e) (P.imm a o e hf), fun a o e => by
  obtain ⟨o', e'⟩ := P.alive a o e
  exact ⟨o', hx a o' (hne a o e) e'⟩⟩
theorem zci.keep {φ φ' : wz} {h h' : Heap} {Is : List Addr} {S : List Addr} (X : zci W env φ h Is) (P : ju φ φ' S h h') (hS : ∀ a ∈ Is, a ∉ S) : ∀ a ∈ Is, ∀ o, h.get? a = some o → h'.get? a = some o :=
 fun a ha o e => P.keep a o e (hS a ha) (X a ha).1
theorem zci.step {φ φ' : wz} {h h' : Heap} {Is : List Addr} {S : List Addr} (X : zci W env φ h Is) (P : ju φ φ' S h h') (hS : ∀ a ∈ Is, a ∉ S) : zci W env φ' h' Is := by
 intro a ha
 obtain ⟨h1, h2, h3, o, h4, h5⟩ := X a ha
 refine ⟨fun hm => ?_, h2, h3, o, P.keep a o h4 (hS a ha) h1, h5⟩
 obtain ⟨p, hp, rfl⟩ := zso.mp hm
 rcases P.fresh p hp with q | q
 ·exact h1 (zs5 q)
 ·rw [q] at h4; cases h4
theorem zci.at {φ : wz} {h h' : Heap} {Is Js : List Addr} (X : zci W env φ h Is) (hs : ∀ a ∈ Js, a ∈ Is) (ho : ∀ a ∈ Js, ∃ o, h'.get? a = some o ∧ qo o = false) : zci W env φ h' Js := fun a ha => by
 obtain ⟨h1, h2, h3, _⟩ := X a (hs a ha)
 exact ⟨h1, h2, h3, ho a ha⟩
theorem zhl {φ : wz} {H : St} {lo : Lo} {h h' : Heap} {Is : List Addr} (S : Sim W φ H h) (L : Loc W env sl lo φ h) (hn : ∀ a ∈ Is, h.get? a = none) (ho : ∀ a ∈ Is, ∃ o, h'.get? a = some o ∧ qo o = false) : zci W env φ h' Is := by
 intro it hi
 refine ⟨fun hm => ?_, fun hm => ?_, ?_, ho it hi⟩
 ·obtain ⟨p, hp, rfl⟩ := zso.mp hm
  obtain ⟨x, hx, _⟩ := S.carrier hp
  rw [hn _ hi] at hx; cases hx
 ·obtain ⟨_, _, x, hx, _⟩ := L.own it ((zss.mp hm).imp id id)
  rw [hn _ hi] at hx; cases hx
 ·cases e : W.base.get? it with
  | none => rfl
  | some x => have := S.base _ _ e; rw [hn _ hi] at this; cases this
noncomputable abbrev Src := St → Nat → Option (Option MV)
structure Nx (W : Wd) (target : Expr) (src : Src) (φ0 : wz) (I : Addr) (Is : List Addr) (It : Nat → Heap → Prop) : Prop where
 frame : ∀ i h h', (∀ a ∈ Is, ∀ o, h.get? a = some o → h'.get? a = some o) → It i h → It i h'
 live : ∀ i h, It i h → ∀ a ∈ Is, ∃ o, h.get? a = some o ∧ qo o = false
 self : ∀ i A (s : Shared) (E : Value → Shared → Prop) (Q : Value → Shared → Prop), It i s.heap → Q (.ref I) s → wpAny (model W.prog W.w) A (pyIter (.ref I)) Q E s
 stop : ∀ i φ H A (s : Shared) (E : Value → Shared → Prop), φ0 <+: φ → A.handled = none → Sim W φ H s.heap → (∀ a ∈ Is, a ∉ φ.map (·.2)) → It i s.heap → src H i = some none →
  wpAny (model W.prog W.w) A (pyNext (.ref I)) (fun r s' => r = none ∧ zcg Is s.heap s'.heap ∧ zhv s s') E s
 item : ∀ i φ H A (s : Shared) (E : Value → Shared → Prop) v, φ0 <+: φ → A.handled = none → Sim W φ H s.heap → (∀ a ∈ Is, a ∉ φ.map (·.2)) → It i s.heap → src H i = some (some v) →
  wpAny (model W.prog W.w) A (pyNext (.ref I)) (fun r s' => ∃ y, r = some y ∧ wpAny (model W.prog W.w) A (letOwnedTupleGo target (.ref I) y) (fun _ s'' => It (i + 1) s''.heap ∧ zcg Is s.heap s''.heap ∧ zhv s s'' ∧ RV W.base φ s''.heap v y) E s') E s
noncomputable def zld (r : Nat) : Src := fun H i => match H[r]? with
 | some (.list l) => some l[i]?
 | _ => none
noncomputable def zo8 (l : List MV) : Src := fun _ i => some l[i]?
noncomputable def zdj (v : MV) (H : St) : Option (Src × Nat) := match v with
 | .ref r => (match H[r]? with
  | some (.list l) => some (zld r, l.length + 1)
  | _ => none)
 | .rng x y z => if zxr x y z then some (zo8 (j9 x y z), (j9 x y z).length + 1) else none
 | _ => none
theorem zcg.one {it : Addr} {h h' : Heap} (x : Heap.ExtBut it h h') : zcg [it] h h' := fun b o hb e => x b o (fun q => hb (by rw [q]; exact .head _)) e
theorem zrt {target : Expr} {r : Nat} {φ0 : wz} {a d I : Addr} (hr : φ0[r]? = some (a, d)) (hne : a ≠ I) : Nx W target (zld r) φ0 I [I] (fun i h => h.IsListIter I a i) := by
 refine ⟨fun i h h' k x => x.at fun o e => k I (.head _) o e, fun i h x b hb => ?_, fun i A s E Q x q => wpAny_pyIter_listiter x q, fun i φ H A s E hφ hh S hI x e => ?_, fun i φ H A s E v hφ hh S hI x e => ?_⟩
 ·obtain ⟨o, e1, e2, e3⟩ := x
  rw [zsq.mp hb]
  exact ⟨o, e1, by unfold qo; rw [e3, e2]; rfl⟩
 all_goals
  refine y4.i (k := fun l => some l[i]?) e fun l hl e => ?_
  obtain ⟨a1, d1, e1, rfl, vs, m, hg, rl⟩ := S.obj r _ hl
  rw [xg hφ hr] at e1; cases e1
 ·refine wpAny_pyNext_list_end hh x ⟨_, hg, rfl, _, rfl⟩ ?_ fun h' hx => ⟨rfl, .one hx, h', s.toks, rfl⟩
  rw [← zxk]
  have hnone : l[i]? = none := zvu.inj e
  have := rl.length
  rw [ztk] at hnone ⊢
  lia
 ·obtain ⟨y, ey, ry⟩ := rl.get (zvu.inj e)
  refine wpAny_pyNext_list_item x ⟨_, hg, rfl, _, rfl⟩ (by rw [← zxk]; exact ey) fun h' hit hsb => ⟨y, rfl, ?_⟩
  obtain ⟨o3, ho3, hc3, hd3⟩ := id hit
  refine zqj (s := { s with heap := h' }) ho3 hc3 (by decide) ⟨hit, .one hsb.extBut, ⟨h', s.toks, rfl⟩, ry.mono zsw fun b o e1 hf => hsb.extBut b o (fun q => ?_) e1⟩
  subst q
  obtain ⟨o, e2, e3, e4⟩ := x
  rw [e1] at e2; cases e2
  unfold qo at hf
  rw [e4, e3] at hf
  cases hf
theorem zpr {target : Expr} {x0 y0 z0 : Int} {φ0 : wz} {I : Addr} : Nx W target (zo8 (j9 x0 y0 z0)) φ0 I [I] (fun i h => i ≤ (zxq x0 y0 z0).toNat ∧ IsRangeIter h I (x0 + (i : Nat) * z0) (zxq x0 y0 z0 - (i : Nat)) z0) := by
 unfold j9
 generalize hN : (zxq x0 y0 z0).toNat = N at *
 have hN' : zxq x0 y0 z0 ≤ N ∧ (0 < N → zxq x0 y0 z0 = N) := by lia
 generalize zxq x0 y0 z0 = sz at *
 refine ⟨fun i h h' k x => ⟨x.1, k I (.head _) _ x.2⟩, fun i h x b hb => ?_, fun i A s E Q x q => wpAny_pyIter_rangeiter x.2 q, fun i φ H A s E hφ hh S hI x e => ?_, fun i φ H A s E v hφ hh S hI x e => ?_⟩
 ·rw [zsq.mp hb]
  exact ⟨_, x.2, rfl⟩
 ·have hi : N ≤ i := by
   have e' := zvu.inj e
   rw [ztk] at e'
   simpa using e'
  exact wpAny_pyNext_range_end hh x.2 (by omega) fun h' hx' => ⟨rfl, .one hx', h', s.toks, rfl⟩
 ·have e' := zvu.inj e
  obtain ⟨hi, e2⟩ := zsl.mp e'
  have hi' : i < N := by simpa using hi
  rw [List.getElem_map, List.getElem_range] at e2
  subst e2
  refine wpAny_pyNext_range_item x.2 (by lia) fun h' hit hsb => ⟨_, rfl, ?_⟩
  refine zqj (s := { s with heap := h', toks := s.toks + 1 }) hit rfl (by decide) ⟨⟨hi', ?_⟩, .one hsb.extBut, ⟨h', _, rfl⟩, .int ..⟩
  have e1 : x0 + ((i + 1 : Nat) : Int) * z0 = x0 + (i : Int) * z0 + z0 := by push_cast; rw [Int.add_mul, Int.one_mul, Int.add_assoc]
  have e2 : sz - ((i + 1 : Nat) : Int) = sz - (i : Int) - 1 := by push_cast; lia
  rw [e1, e2]; exact hit
theorem zkf {target : Expr} {v : MV} {y : Value} {φ : wz} {H : St} {s : Shared} {src : Src} {k : Nat} {E : Value → Shared → Prop} {Q : Value → Shared → Prop} (S : Sim W φ H s.heap) (r : RV W.base φ s.heap v y) (e : zdj v H = some (src, k))
  (q : ∀ I Is It h', Nx W target src φ I Is It → It 0 h' → (∀ b o, s.heap.get? b = some o → h'.get? b = some o) → (∀ a ∈ Is, s.heap.get? a = none ∧ a < h'.objs.size) → s.heap.objs.size ≤ h'.objs.size → Q (.ref I) { s with heap := h', toks := s.toks }) :
  wpAny (model W.prog W.w) A (pyIter y) Q E s := by
 cases v with
 | ref r0 =>
  refine y4.i (o := H[r0]?) (k := fun l => some (zld r0, l.length + 1)) e fun l hl e => ?_
  ·cases e
   obtain ⟨a, vs, m, rfl, ha, hg, rl⟩ := S.list_of hl r
   refine wpAny_pyIter_list ⟨_, hg, rfl, _, rfl⟩ ?_
   have hit : (s.heap.push { cls := .type "list_iterator", data := .fields #[.ref a, .int 0 0] }).get? s.heap.objs.size = some { cls := .type "list_iterator", data := .fields #[.ref a, .int 0 0] } := zwl _ rfl
   refine q _ _ _ _ (zrt ha fun q => ?_) ⟨_, hit, rfl, rfl⟩ (fun b o e => zwk _ e) (fun b hb => ?_) (by rw [zwo]; exact zwy _)
   ·rw [q, ui] at hg; cases hg
   ·rw [zsq.mp hb]; exact ⟨ui _, zwm hit⟩
 | rng x0 y0 z0 =>
  refine ja (c := zxr x0 y0 z0 = true) e fun hsm e => ?_
  ·cases e
   obtain ⟨ra, t, u, w, rfl, hr⟩ := r.rng_inv
   refine wpAny_pyIter_range hr hsm ?_
   have hit := zwl s.heap (o := { cls := .type "range_iterator", data := .fields #[rawInt x0, rawInt (zxq x0 y0 z0), rawInt z0] }) rfl
   refine q _ _ _ _ zpr ⟨zwv _, by simpa using hit⟩ (fun b o e => zwk _ e) (fun b hb => ?_) (by rw [zwo]; exact zwy _)
   rw [zsq.mp hb]; exact ⟨ui _, zwm hit⟩
 | _ => cases e
noncomputable def CT (W : Wd) (n : Nat) (env : Env) (sl : List (Option Str)) (ifs : List Expr) (f : Lo → St → Option (Bool × St)) : Prop :=
 ∀ A φ lo H s v H', f lo H = some (v, H') → zal n A → Sim W φ H s.heap → Loc W env sl lo φ s.heap →
  wpAny (model W.prog W.w) A (forIn ifs true fun c r => if r = true then do let ok ← isTrue c env (eval c env); pure (ForInStep.yield ok) else pure (ForInStep.yield r)) (QB W φ H' s v) NoE s
noncomputable def zah : Lo → St → Option (Bool × St) := fun _ H => some (true, H)
theorem zf8 : CT W n env sl [] zah := by
 intro A φ lo H s v H' hf R S L
 refine inj2 ?_ hf
 exact wpAny_tests_nil ⟨φ, .refl S, rfl⟩
theorem zmb {c : Expr} {f : Lo → St → Option (Bool × St)} (h : ST W n env sl c f) : CT W n env sl [c] f := by
 intro A φ lo H s v H' hf R S L
 exact wpAny_tests_one (h A φ lo H s v H' hf R S L)
noncomputable def zix (src : Src) (g : DT) (t : Lo → St → Option (Bool × St)) (e : DE) : Nat → Nat → List MV → Lo → St → Option (List MV × St)
 | 0, _, _ => fun _ _ => none
 | k + 1, i, acc => fun lo H => match src H i with
  | none => none
  | some none => some (acc, H)
  | some (some v) => bnd (g v lo H) fun lo1 H1 => bnd (t lo1 H1) fun c H2 => if c then (bnd (e lo1 H2) fun x H3 => if small acc.length then zix src g t e k (i + 1) (acc ++ [x]) lo1 H3 else none) else zix src g t e k (i + 1) acc lo1 H2
structure ze7 (W : Wd) (env : Env) (sl : List (Option Str)) (φ0 φ₀ : wz) (s₀ : Shared) (B : Addr) (Is : List Addr) (It : Nat → Heap → Prop) (acc : List MV) (vs : Array Value) (m i : Nat) (φ : wz) (lo : Lo) (H : St) (s : Shared) : Prop where
 p : φ0 <+: φ
 E : EP W φ₀ φ H [env.locals] s₀ s
 L : Loc W env sl lo φ s.heap
 X : zci W env φ s.heap (B :: Is)
 I : It i s.heap
 D : s.heap.get? B = some (lst vs m)
 r : RVs W.base φ s.heap acc vs.toList
theorem ze7.step {φ0 φ₀ φ φ' : wz} {s₀ s s' : Shared} {B I : Addr} {Is : List Addr} {It : Nat → Heap → Prop} {acc : List MV} {vs : Array Value} {m i : Nat} {lo lo' : Lo} {H H' : St} {target : Expr} {src : Src} (N : Nx W target src φ0 I Is It)
  (C : ze7 W env sl φ0 φ₀ s₀ B Is It acc vs m i φ lo H s) (E : EP W φ φ' H' [env.locals] s s') (L : Loc W env sl lo' φ' s'.heap) : ze7 W env sl φ0 φ₀ s₀ B Is It acc vs m i φ' lo' H' s' := by
 have hls : ∀ a ∈ B :: Is, a ∉ [env.locals] := fun a ha hm => (C.X a ha).2.1 (by rw [zsq.mp hm]; exact .head _)
 have K := C.X.keep E.post hls
 exact ⟨C.p.trans E.post.ext, C.E.trans E, L, C.X.step E.post hls, N.frame _ _ _ (fun a ha => K a (.tail _ ha)) C.I, K B (.head _) _ C.D, C.r.post E.post⟩
theorem ze7.item {φ0 φ₀ φ : wz} {s₀ s s' : Shared} {B I : Addr} {Is : List Addr} {It : Nat → Heap → Prop} {acc : List MV} {vs : Array Value} {m i : Nat} {lo : Lo} {H : St} {target : Expr} {src : Src} (N : Nx W target src φ0 I Is It) (hDI : B ∉ Is) (hn : ∀ a ∈ B :: Is, s₀.heap.get? a = none)
  (C : ze7 W env sl φ0 φ₀ s₀ B Is It acc vs m i φ lo H s) (I3 : It (i + 1) s'.heap) (hx : zcg Is s.heap s'.heap) (hsm : zhv s s') : ze7 W env sl φ0 φ₀ s₀ B Is It acc vs m (i + 1) φ lo H s' := by
 have XI : zci W env φ s.heap Is := C.X.at (fun a ha => .tail _ ha) fun a ha => (C.X a (.tail _ ha)).2.2.2
 have D3 := hx B _ hDI C.D
 refine ⟨C.p, ⟨za4 C.E.sim XI hx, xq C.E.post (fun a ha => hn a (.tail _ ha)) hx, C.E.same.trans hsm⟩, zdg C.L XI hx, C.X.at (fun a ha => ha) fun a ha => ?_, I3, D3, C.r.mono zsw (XI.imm hx)⟩
 rcases zss.mp ha with rfl | ha
 ·exact ⟨_, D3, rfl⟩
 ·exact N.live _ _ I3 a ha
theorem ze7.push {φ0 φ₀ φ : wz} {s₀ s : Shared} {h' : Heap} {B I : Addr} {Is : List Addr} {It : Nat → Heap → Prop} {acc : List MV} {vs : Array Value} {m i : Nat} {lo : Lo} {H : St} {x : MV} {y : Value} {target : Expr} {src : Src} (N : Nx W target src φ0 I Is It) (hDI : B ∉ Is) (hn : ∀ a ∈ B :: Is, s₀.heap.get? a = none)
  (C : ze7 W env sl φ0 φ₀ s₀ B Is It acc vs m i φ lo H s) (hx : zcg [B] s.heap h') (hD' : h'.get? B = some (lst (vs.push y) (m + 1))) (ry : RV W.base φ s.heap x y) : ze7 W env sl φ0 φ₀ s₀ B Is It (acc ++ [x]) (vs.push y) (m + 1) i φ lo H { s with heap := h', toks := s.toks } := by
 have XD : zci W env φ s.heap [B] := C.X.at (fun a ha => by rw [zsq.mp ha]; exact .head _) fun a ha => by rw [zsq.mp ha]; exact ⟨_, C.D, rfl⟩
 have I7 : It i h' := N.frame _ _ _ (fun a ha o e => hx a o (fun q => hDI (by rw [zsq.mp q] at ha; exact ha)) e) C.I
 refine ⟨C.p, ⟨za4 C.E.sim XD hx, xq C.E.post (fun a ha => by rw [zsq.mp ha]; exact hn B (.head _)) hx, C.E.same.trans ⟨h', s.toks, rfl⟩⟩, zdg C.L XD hx, C.X.at (fun a ha => ha) fun a ha => ?_, I7, hD', ?_⟩
 ·rcases zss.mp ha with rfl | ha
  ·exact ⟨_, hD', rfl⟩
  ·exact N.live _ _ I7 a ha
 ·rw [zxo]
  exact (C.r.mono zsw (XD.imm hx)).append (.cons (ry.mono zsw (XD.imm hx)) .nil)
theorem cl_ok {elt target iter : Expr} {ifs : List Expr} {scope : Scope} {pos : Pos} {src : Src} {g : DT} {t : Lo → St → Option (Bool × St)} {e : DE} {φ0 : wz} {I B : Addr} {Is : List Addr} {It : Nat → Heap → Prop}
  (N : Nx W target src φ0 I Is It) (ht : TG W n env [env.locals] sl target g) (hc : CT W n env sl ifs t) (he : SE W n env sl elt e) (hDI : B ∉ Is)
  {lo : Lo} {H H' : St} {s : Shared} {k : Nat} {acc : List MV} {R : Result → Shared → Prop} (hf : zix src g t e k 0 [] lo H = some (acc, H')) (Ro : zal n A) (S : Sim W φ0 H s.heap) (L : Loc W env sl lo φ0 s.heap)
  (X : zci W env φ0 s.heap (B :: Is)) (hI : It 0 s.heap) (hD : s.heap.get? B = some (lst #[] 0)) (s₀ : Shared) (φ₀ : wz) (hn : ∀ a ∈ B :: Is, s₀.heap.get? a = none) (E0 : EP W φ₀ φ0 H [env.locals] s₀ s)
  (q : ∀ φ' lo' s' vs m, EP W φ₀ φ' H' [env.locals] s₀ s' → Loc W env sl lo' φ' s'.heap → s'.heap.get? B = some (lst vs m) → RVs W.base φ' s'.heap acc vs.toList → B ∉ φ'.map (·.2) → R (.ok .next) s') :
  codeAny (model W.prog W.w) A (.compLoop (.ListComp elt [⟨target, iter, ifs, 0⟩] scope pos) 0 (.ref I) (.ref B) env) R s := by
 refine codeAny_loop rfl (fun k s' => ∃ φ1 lo1 H1 i acc1 vs m, zix src g t e k i acc1 lo1 H1 = some (acc, H') ∧ ze7 W env sl φ0 φ₀ s₀ B Is It acc1 vs m i φ1 lo1 H1 s') ?_ k ⟨φ0, lo, H, 0, [], #[], 0, hf, zsw, E0, L, X, hI, hD, .nil⟩
 rintro k s1 ⟨φ1, lo1, H1, i, acc1, vs, m, hf1, C1⟩
 show wpAny _ _ ((compTurn (.ListComp elt [⟨target, iter, ifs, 0⟩] scope pos) 0 (.ref I) (.ref B) env).onRaise (fun x => do noteFrame x env; theTreesLotGoes x)) _ _ s1
 refine wpAny_noted ?_
 rw [compTurn_list]
 refine wpAny_bind (wpAny_standAt ?_)
 have Ro' : zal n (A.under (.compLoop (.ListComp elt [⟨target, iter, ifs, 0⟩] scope pos) 0 (.ref I) (.ref B) env)) := ⟨Ro.1, Ro.2.1, Ro.2.2⟩
 have hcar : ∀ a ∈ Is, a ∉ φ1.map (·.2) := fun a ha => (C1.X a (.tail _ ha)).1
 cases k with
 | zero => cases hf1
 | succ k =>
 simp only [zix] at hf1
 rcases hs : src H1 i with _ | _ | v <;> rw [hs] at hf1
 ·cases hf1
 ·cases hf1
  refine wpAny_bind (wpAny_mono (N.stop i φ1 _ _ s1 _ C1.p Ro.1 C1.E.sim hcar C1.I hs) (fun r s2 hq => ?_) fun _ _ x => x)
  obtain ⟨rfl, hx, hsm⟩ := hq
  have XI : zci W env φ1 s1.heap Is := C1.X.at (fun a ha => .tail _ ha) fun a ha => (C1.X a (.tail _ ha)).2.2.2
  exact wpAny_pure (q φ1 lo1 s2 vs m ⟨za4 C1.E.sim XI hx, xq C1.E.post (fun a ha => hn a (.tail _ ha)) hx, C1.E.same.trans hsm⟩ (zdg C1.L XI hx) (hx B _ hDI C1.D) (C1.r.mono zsw (XI.imm hx)) (C1.X B (.head _)).1)
 ·refine wpAny_bind (wpAny_mono (N.item i φ1 H1 _ s1 _ v C1.p Ro.1 C1.E.sim hcar C1.I hs) (fun r s2 hq => ?_) fun _ _ x => x)
  obtain ⟨y, rfl, hq⟩ := hq
  refine wpAny_bind (wpAny_mono hq (fun _ s3 hq3 => ?_) fun _ _ x => x)
  have C3 := C1.item N hDI hn hq3.1 hq3.2.1 hq3.2.2.1
  obtain ⟨lo4, H4, g4, hf4⟩ := wn hf1
  refine wpAny_bind (noE (wpAny_mono (ht _ φ1 lo1 H1 s3 v y lo4 H4 g4 Ro' C3.E.sim C3.L hq3.2.2.2) (fun _ s4 hq4 => ?_) fun _ _ x => x.elim))
  obtain ⟨φ4, E4, L4⟩ := hq4
  have C4 := C3.step N E4 L4
  clear hq3 C3 E4 L4
  obtain ⟨c, H5, t5, hf5⟩ := wn hf4
  refine wpAny_bind (noE (wpAny_mono (hc _ φ4 lo4 H4 s4 c H5 t5 Ro' C4.E.sim C4.L) (fun y5 s5 hq5 => ?_) fun _ _ x => x.elim))
  obtain ⟨φ5, E5, rfl⟩ := hq5
  have C5 := C4.step N E5.zero (C4.L.post0 E5.post)
  clear C4 E5
  cases y5 with
  | false =>
   simp only [zxu, if_false] at hf5 ⊢
   exact wpAny_bind (wpAny_pure (wpAny_pure ⟨rfl, k, zw0 k, φ5, lo4, H5, i + 1, acc1, vs, m, hf5, C5⟩))
  | true =>
   simp only [if_true] at hf5 ⊢
   obtain ⟨x6, H6, e6, hf6⟩ := wn hf5
   refine ja hf6 fun hz hf6 => ?_
   refine wpAny_bind (wpAny_bind (noE (wpAny_mono (he _ φ5 lo4 H5 s5 x6 H6 e6 Ro' C5.E.sim C5.L) (fun y6 s6 hq6 => ?_) fun _ _ x => x.elim)))
   obtain ⟨φ6, E6, ry6⟩ := hq6
   have C6 := C5.step N E6.zero (C5.L.post0 E6.post)
   have hvz : vs.size ≤ sizeLine := by
    rw [sizeLine_eq]
    have hz' : acc1.length ≤ 1000000 := by simpa [small] using hz
    have := C6.r.length.trans zxi
    lia
   refine wpAny_bind (append_at (s := s6) C6.D (fun h' hsb hD' => ?_) hvz)
   exact wpAny_pure (wpAny_pure ⟨rfl, k, zw0 k, φ6, lo4, H6, i + 1, acc1 ++ [x6], vs.push y6, m + 1, hf6, C6.push N hDI hn (.one hsb.extBut) hD' ry6⟩)
end
end Mine
namespace Mine
noncomputable def zbj (env : Env) : List (Str × NameKind) → List (Str × Addr) → List (Str × Addr)
 | [], acc => acc
 | (x, k) :: r, acc => if k == .free then (match env.cells.lookup x with
  | some c => zbj env r ((x, c) :: acc)
  | none => zbj env r acc) else zbj env r acc
theorem zb1 {env : Env} : ∀ {ns : List (Str × NameKind)} {acc : List (Str × Addr)} {p : Str × Addr}, p ∈ zbj env ns acc → p ∈ acc ∨ env.cells.lookup p.1 = some p.2
 | [], _, _, h => .inl h
 | (x, k) :: r, acc, p, h => by
  simp only [zbj] at h
  split at h
  ·split at h
   ·rename_i c hc
    rcases zb1 h with q | q
    ·rcases zss.mp q with rfl | q
     ·exact .inr hc
     ·exact .inl q
    ·exact .inr q
   ·exact zb1 h
  ·exact zb1 h
theorem ze5 {env : Env} : ∀ {ns : List (Str × NameKind)} {acc : List (Str × Addr)} {p : Str × Addr}, p ∈ acc → p ∈ zbj env ns acc
 | [], _, _, h => h
 | (x, k) :: r, acc, p, h => by
  simp only [zbj]
  split
  ·split
   ·exact ze5 (.tail _ h)
   ·exact ze5 h
  ·exact ze5 h
theorem ze4 {env : Env} : ∀ {ns : List (Str × NameKind)} {acc : List (Str × Addr)} {x : Str} {c : Addr}, (x, NameKind.free) ∈ ns → env.cells.lookup x = some c → (x, c) ∈ zbj env ns acc
 | (y, k) :: r, acc, x, c, h, hc => by
  simp only [zbj]
  rcases zss.mp h with q | q
  ·cases q
   simp only [hc, beq_self_eq_true, if_true]
   exact ze5 (.head _)
  ·split
   ·split
    ·exact ze4 q hc
    ·exact ze4 q hc
   ·exact ze4 q hc
theorem zd9 {l : List (Str × Addr)} {x : Str} {c : Addr} (h : (x, c) ∈ l) : ∃ c', l.lookup x = some c' := by
 induction l with
 | nil => cases h
 | cons p r ih =>
  obtain ⟨y, d⟩ := p
  by_cases hy : x = y
  ·subst hy; exact ⟨d, by simp⟩
  ·rcases zss.mp h with q | q
   ·cases q; exact absurd rfl hy
   ·obtain ⟨c', e⟩ := ih q
    refine ⟨c', ?_⟩
    rw [zu4]
    have : (x == y) = false := by simpa using hy
    rw [this]; exact e
theorem zc9 {env : Env} {ns : List (Str × NameKind)} {x : Str} {c : Addr} (h : (zbj env ns []).lookup x = some c) : env.cells.lookup x = some c := by
 rcases zb1 (mem_of_lookup h) with q | q
 ·cases q
 ·exact q
theorem zes {env : Env} {ns : List (Str × NameKind)} {x : Str} {c : Addr} (hx : (x, NameKind.free) ∈ ns) (h : env.cells.lookup x = some c) : (zbj env ns []).lookup x = some c := by
 obtain ⟨c', e⟩ := zd9 (ze4 (acc := []) hx h)
 have := zc9 e
 rw [h] at this; cases this; exact e
theorem zlx {env : Env} : ∀ {ns : List (Str × NameKind)} {acc : List (Str × Addr)}, (∀ x, (x, NameKind.free) ∈ ns → ∃ c, env.cells.lookup x = some c) →
  (forIn ns acc fun (p : Str × NameKind) (cs : List (Str × Addr)) => (do
   if p.2 == NameKind.free then do let a ← cellOf env p.1; pure (ForInStep.yield ((p.1, a) :: cs)) else pure (ForInStep.yield cs) : Sem (ForInStep (List (Str × Addr))))) = pure (zbj env ns acc) := by
 intro ns
 induction ns with
 | nil => intro acc _; simp [zbj]
 | cons p r ih =>
  obtain ⟨x, k⟩ := p
  intro acc h
  rw [zu5]
  by_cases hk : k = .free
  ·subst hk
   obtain ⟨c, hc⟩ := h x (.head _)
   have : cellOf env x = pure c := by unfold cellOf; rw [hc]
   simp only [zbj, this, hc, beq_self_eq_true, if_true, pure_bind]
   exact ih fun y hy => h y (.tail _ hy)
  ·have : (k == NameKind.free) = false := by simpa using hk
   simp only [zbj, this, zxu, if_false, pure_bind]
   exact ih fun y hy => h y (.tail _ hy)
theorem zg3 {scope : Scope} {env : Env} (h : ∀ x, (x, NameKind.free) ∈ scope.names → ∃ c, env.cells.lookup x = some c) : closureFor scope env = pure (zbj env scope.names []) := by
 unfold closureFor
 have := zlx (ns := scope.names) (acc := []) h
 exact (congrArg (· >>= fun cs => pure cs) this).trans (pure_bind ..)
theorem zi1 {scope : Scope} {env : Env} {x : Str} (h : (relabel scope env).names.lookup x = some .cell) (hc : ∀ p ∈ scope.names, p.2 ≠ .cell) : (x, NameKind.free) ∈ scope.names ∧ env.kindOf x = some .cell := by
 have hm := mem_of_lookup h
 refine zvt fun hq0 => ?_
 obtain ⟨p, hp, e⟩ := zso.mp (show (x, NameKind.cell) ∈ scope.names.map _ from hm)
 obtain ⟨y, k⟩ := p
 dsimp only at e
 refine hq0 ?_
 by_cases hk : (k == NameKind.free && env.scope.kind == ScopeKind.function && env.kindOf y == some .cell) = true
 ·rw [if_pos hk] at e
  cases e
  simp only [zxt, beq_iff_eq] at hk
  exact ⟨hk.1.1 ▸ hp, hk.2⟩
 ·rw [if_neg hk] at e
  cases e
  exact absurd rfl (hc _ hp)
section
variable {W : Wd} {n : Nat} {env : Env} {sl csl : List (Option Str)} {A : Around}
noncomputable def zb3 (q m : Nat) (g : DT) (t : Lo → St → Option (Bool × St)) (e : DE) (v : MV) : Lo → St → Option (MV × St) := fun lo H => if lo.length = q then (match zdj v H with
 | some (src, k) => (zix src g t e k 0 [] (lo ++ zsp m none) H).map fun p => (.ref p.2.length, p.2 ++ [.list p.1])
 | none => none) else none
noncomputable def gr (q m : Nat) (f : DE) (g : DT) (t : Lo → St → Option (Bool × St)) (e : DE) : DE := fun lo H => bnd (f lo H) fun v H => zb3 q m g t e v lo H
structure zju (W : Wd) (n : Nat) (env : Env) (sl csl : List (Option Str)) (q : Nat) (scope : Scope) (elt target : Expr) (ifs : List Expr) (g : DT) (t : Lo → St → Option (Bool × St)) (e : DE) : Prop where
 kind : scope.kind = .function
 nocell : ∀ p ∈ scope.names, p.2 ≠ .cell
 names : ∀ x ∈ scope.names, x.2 = .local → scope.names.lookup x.1 = some .local
 free : ∀ p ∈ scope.names, p.2 = .free → env.kindOf p.1 = some .cell
 cap : ∀ (i : Nat) (x : Str), csl[i]? = some (some x) → i < q → sl[i]? = some (some x) ∧ (x, NameKind.free) ∈ scope.names ∧ (relabel scope env).names.lookup x = some .cell
 uniq : ∀ (i j : Nat) (x : Str), csl[i]? = some (some x) → csl[j]? = some (some x) → i = j
 tgt : ∀ C, TG W n (compEnvC scope (zbj env scope.names []) C env) [C] csl target g
 tests : ∀ C, CT W n (compEnvC scope (zbj env scope.names []) C env) csl ifs t
 elt : ∀ C, SE W n (compEnvC scope (zbj env scope.names []) C env) csl elt e
theorem zio {q m : Nat} {scope : Scope} {elt target iter : Expr} {ifs : List Expr} {g : DT} {t : Lo → St → Option (Bool × St)} {e : DE} {pos : Pos} (K : zju W n env sl csl q scope elt target ifs g t e)
  {φ : wz} {lo : Lo} {H H' : St} {s : Shared} {v v' : MV} {y1 : Value} (hf : zb3 q m g t e v lo H = some (v', H')) (Ro : zal n A) (S : Sim W φ H s.heap) (L : Loc W env sl lo φ s.heap) (r : RV W.base φ s.heap v y1)
  {RR : Value → Addr → Result → Shared → Prop} {E : Value → Shared → Prop}
  (hq : ∀ B C φ' s' mm, EP W φ φ' H' [] s s' → RV W.base φ' s'.heap v' (.ref B) → s'.heap.Ns C mm → zci W env φ' s'.heap [C] → s.heap.get? C = none → RR (.ref B) C (.ok .next) s') :
  wpAny (model W.prog W.w) A (pyIter y1) (fun it s₂ => wpAny (model W.prog W.w) A (newList []) (fun acc s₃ => wpAny (model W.prog W.w) A (newFunctionEnv scope env.globals (zbj env scope.names []) [] env.qual none .none (some env)) (fun cenv s₄ =>
   codeAny (model W.prog W.w) A (.compStart (.ListComp elt [⟨target, iter, ifs, 0⟩] scope pos) 0 it acc { cenv with scope := relabel scope env }) (RR acc cenv.locals) s₄) E s₃) E s₂) E s := by
 refine ja hf fun hlen hf => ?_
 rcases hsrc : zdj v H with _ | ⟨src, k⟩ <;> rw [hsrc] at hf
 ·cases hf
 obtain ⟨p, hcl, hp⟩ := zvv.mp hf
 obtain ⟨acc, H1⟩ := p
 cases hp
 refine zkf (target := target) S r hsrc fun I Is It h1 N hI k1 hfr hle => ?_
 refine wpAny_newObj_type (wpAny_newFunctionEnv (fun x hx => K.nocell x hx) (by intro y hy; simp at hy) (fun h₂ hns₂ hsb₂ => ?_) K.kind)
 dsimp only at hns₂ hsb₂ ⊢
 generalize hH2 : h1.push { cls := .type "list", dict := none, data := .seq ([] : List Value).toArray } = H2 at hns₂ hsb₂ ⊢
 have hC : H2.objs.size = h1.objs.size + 1 := by rw [← hH2, zwo]
 have hBC : h1.objs.size ≠ H2.objs.size := by rw [hC]; exact zwu (zw0 _)
 have hCs : s.heap.get? H2.objs.size = none := jp (by rw [hC]; exact Nat.le_succ_of_le hle)
 have hBs : s.heap.get? h1.objs.size = none := jp hle
 have k12 : ∀ b o, h1.get? b = some o → h₂.get? b = some o := fun b o e => hsb₂.extBut b o (by rw [hC]; exact zwu (zw4 (zwm e))) (zwk _ (hH2 ▸ zwk _ e))
 have old : ∀ b o, s.heap.get? b = some o → h₂.get? b = some o := fun b o e => k12 b o (k1 b o e)
 have hB2 : h₂.get? h1.objs.size = some (lst #[] 0) := hsb₂.extBut _ _ hBC (zwk _ (hH2 ▸ zwl _ rfl))
 have hBI : h1.objs.size ∉ Is := fun hm => zwx _ (hfr _ hm).2
 have hCI : H2.objs.size ∉ h1.objs.size :: Is := fun hm => by
  rcases zss.mp hm with q | q
  ·exact hBC q.symm
  ·have := (hfr _ q).2; rw [hC] at this; exact zwx _ (zxc this)
 have hfree : ∀ a ∈ H2.objs.size :: h1.objs.size :: Is, s.heap.get? a = none := fun a ha => by
  rcases zss.mp ha with rfl | ha
  ·exact hCs
  ·rcases zss.mp ha with rfl | ha
   ·exact hBs
   ·exact (hfr a ha).1
 have hI2 : It 0 h₂ := N.frame _ _ _ (fun a _ o e => k12 a o e) hI
 have hlive : ∀ a ∈ H2.objs.size :: h1.objs.size :: Is, ∃ o, h₂.get? a = some o ∧ qo o = false := fun a ha => by
  rcases zss.mp ha with rfl | ha
  ·obtain ⟨o, es, ep, e1, e2, _⟩ := hns₂
   exact ⟨o, e1, by unfold qo; rw [e2]⟩
  ·rcases zss.mp ha with rfl | ha
   ·exact ⟨_, hB2, rfl⟩
   ·exact N.live _ _ hI2 a ha
 have XA : zci W env φ h₂ (H2.objs.size :: h1.objs.size :: Is) := zhl S L hfree hlive
 have main : ∀ s₃ : Shared, s₃ = { s with heap := h₂, toks := s.toks + ([] : List (Str × Value)).length } →
   codeAny (model W.prog W.w) A (.compLoop (.ListComp elt [⟨target, iter, ifs, 0⟩] scope pos) 0 (.ref I) (.ref h1.objs.size) (compEnvC scope (zbj env scope.names []) H2.objs.size env)) (RR (.ref h1.objs.size) H2.objs.size) s₃ := by
  rintro s₃ rfl
  have E0 : EP W φ φ H [H2.objs.size] s { s with heap := h₂, toks := s.toks + ([] : List (Str × Value)).length } := ur S old
  have LC : Loc W (compEnvC scope (zbj env scope.names []) H2.objs.size env) csl (lo ++ zsp m none) φ h₂ := by
   have L2 : Loc W env sl lo φ h₂ := L.post0 (zbu old)
   have low : ∀ (i : Nat) (u : MV), (lo ++ zsp m none)[i]? = some (some u) → i < q ∧ lo[i]? = some (some u) := fun i u e => by
    by_cases hi : i < lo.length
    ·rw [zst hi] at e
     exact ⟨hlen ▸ hi, e⟩
    ·rw [zs2 (zw5 hi)] at e
     have := zsm e
     rw [zum] at this
     cases this.2
   refine ⟨K.kind, L2.glob, L2.blt, fun a ha => ?_, K.uniq, ⟨_, hns₂, fun i x u h1 h2 h3 => ?_⟩, fun i x u h1 h2 h3 => ?_, fun x hx => ?_, fun x c hc => ?_⟩
   ·rcases ha with rfl | ha
    ·exact ⟨(XA _ (.head _)).1, (XA _ (.head _)).2.2.1, hlive _ (.head _)⟩
    ·obtain ⟨p, hp, rfl⟩ := zso.mp ha
     rcases zb1 hp with q | q
     ·cases q
     ·exact L2.own _ (.inr (kg q))
   ·obtain ⟨hi, e⟩ := low i u h3
    have := (K.cap i x h1 hi).2.2
    rw [show (relabel scope env).names.lookup x = some .local from h2] at this
    cases this
   ·obtain ⟨hi, e⟩ := low i u h3
    obtain ⟨c1, c2, c3⟩ := K.cap i x h1 hi
    obtain ⟨c, y, e1, e2, e3⟩ := L2.cel i x u c1 (K.free _ c2 rfl) e
    exact ⟨c, y, zes c2 e1, e2, e3⟩
   ·obtain ⟨c1, c2⟩ := zi1 (show (relabel scope env).names.lookup x = some .cell from hx) K.nocell
    obtain ⟨c, u, e1, e2⟩ := L2.has x c2
    exact ⟨c, u, zes c1 e1, e2⟩
   ·have e1 := zc9 hc
    refine ⟨fun q => ?_, fun y hy => (L2.apart x c e1).2 y (zc9 hy)⟩
    have q' : c = H2.objs.size := q
    subst q'
    exact (XA _ (.head _)).2.1 (.tail _ (kg e1))
  have XC : zci W (compEnvC scope (zbj env scope.names []) H2.objs.size env) φ h₂ (h1.objs.size :: Is) := fun a ha => by
   obtain ⟨q1, q2, q3, q4⟩ := XA a (.tail _ ha)
   refine ⟨q1, fun hm => ?_, q3, q4⟩
   rcases zss.mp hm with rfl | hm
   ·exact hCI ha
   ·obtain ⟨p, hp, rfl⟩ := zso.mp hm
    rcases zb1 hp with q | q
    ·cases q
    ·exact q2 (.tail _ (kg q))
  refine cl_ok (env := compEnvC scope (zbj env scope.names []) H2.objs.size env) N (K.tgt _) (K.tests _) (K.elt _) hBI hcl Ro E0.sim LC XC hI2 hB2 s φ (fun a ha => hfree a (.tail _ ha)) E0 fun φ' lo' s' vs m' E' L' hB' r' hcar => ?_
  have E1 : EP W φ φ' H1 [] s s' := ⟨E'.sim, (ju.refl φ [] s.heap).drop E'.post (fun a ha => by rw [zsq.mp ha]; exact hCs), E'.same⟩
  have hbase : W.base.get? h1.objs.size = none := (XA _ (.tail _ (.head _))).2.2.1
  have hout : OR W φ' s'.heap (.list acc) h1.objs.size h1.objs.size := ⟨rfl, vs, m', hB', r'⟩
  have E2 : EP W φ (φ' ++ [(h1.objs.size, h1.objs.size)]) (H1 ++ [.list acc]) [] s s' := by
   refine ⟨E1.sim.new hcar hbase hout, ⟨E1.post.ext.trans (ztj ..), fun p hp => ?_, E1.post.keep, E1.post.imm, E1.post.alive⟩, E1.same⟩
   rcases zs0.mp hp with q | q
   ·exact E1.post.fresh p q
   ·rw [zsq.mp q]; exact .inr hBs
  obtain ⟨mm, hmm, _⟩ := L'.loc
  have hlC := L'.own H2.objs.size (.inl rfl)
  refine hq _ _ _ _ mm E2 (.ref _ _ h1.objs.size ?_) hmm (fun a ha => ?_) hCs
  ·rw [← E1.sim.len]; simp
  ·rw [zsq.mp ha]
   refine ⟨fun hm => ?_, (XA _ (.head _)).2.1, hlC.2.1, hlC.2.2⟩
   rw [zs3] at hm
   rcases zs0.mp hm with q | q
   ·exact hlC.1 q
   ·simp at q; exact hBC q.symm
 exact codeAny_compStart_list (main _ rfl) (N.self 0 A _ _ _ hI2 (main _ rfl))
theorem zcm {q m : Nat} {scope : Scope} {elt target iter : Expr} {ifs : List Expr} {f : DE} {g : DT} {t : Lo → St → Option (Bool × St)} {e : DE} {pos : Pos} (K : zju W n env sl csl q scope elt target ifs g t e) (hi : SE W n env sl iter f)
  (hs : ∀ x, foldedSetIterable iter env x = pure x) : SE W n env sl (.ListComp elt [⟨target, iter, ifs, 0⟩] scope pos) (gr q m f g t e) := by
 intro A φ lo H s v H' hf R S L
 obtain ⟨v1, H1, h1, h2⟩ := wn hf
 rw [eval_ListComp]
 refine wpAny_comprehension_free (use := none) rfl hs (zg3 fun x hx => ?_) K.kind K.names (wpAny_mono (hi A φ lo H s v1 H1 h1 R S L) (fun y1 s1 ⟨φ1, E1, r1⟩ => ?_) fun _ _ x => x)
 ·obtain ⟨c, u, e1, _⟩ := L.has x (K.free _ hx rfl)
  exact ⟨c, e1⟩
 refine zio (RR := compPost (model W.prog W.w) A NoE none _) K h2 R E1.sim (L.post0 E1.post) r1 fun B C φ' s' mm E2 rB hmm XC hC => ⟨mm, hmm, fun h' hsb => ?_⟩
 have hx : zcg [C] s'.heap h' := .one hsb.extBut
 exact ⟨φ', E1.trans ⟨za4 E2.sim XC hx, xq E2.post (fun a ha => by rw [zsq.mp ha]; exact hC) hx, E2.same.trans ⟨h', s'.toks, rfl⟩⟩, rB.mono zsw (XC.imm hx)⟩
theorem zmp {q m : Nat} {scope : Scope} {elt target iter : Expr} {ifs : List Expr} {f : DE} {g gy : DT} {t : Lo → St → Option (Bool × St)} {e : DE} {pos spos py : Pos} {y : Str} (K : zju W n env sl csl q scope elt target ifs g t e) (hi : SE W n env sl iter f)
  (hs : ∀ x, foldedSetIterable iter env x = pure x) (hsw : swapsWith (.ListComp elt [⟨target, iter, ifs, 0⟩] scope pos) (some (.Name y py)) spos.line env = pure true) (hy : TG W n env (kq env) sl (.Name y py) gy) :
  SS W n env sl (.Assign [.Name y py] (.ListComp elt [⟨target, iter, ifs, 0⟩] scope pos) spos) (zq (gr q m f g t e) gy) := by
 intro A φ lo H s fl lo' H' hf R S L
 obtain ⟨v, H2, hv, h3⟩ := wn hf
 obtain ⟨v1, H1, h1, h2⟩ := wn hv
 obtain ⟨p, h4, h5⟩ := zvv.mp h3
 cases h5
 rw [exec_Assign_Name_used _ _ _ _ hsw]
 refine wpAny_bind (wpAny_standAt (wpAny_bind ?_))
 show wpAny _ A (do let _ ← comprehension (.ListComp elt [⟨target, iter, ifs, 0⟩] scope pos) scope env _ (newList []) false (eval iter env) (some (assign (.Name y py) env))) _ _ s
 refine wpAny_bind (wpAny_mono (wpAny_comprehension_free (use := some (assign (.Name y py) env)) (Q := fun _ => QS W env sl φ s .next p.1 p.2 .next) rfl hs (zg3 fun x hx => ?_) K.kind K.names
  (wpAny_mono (hi A φ lo H s v1 H1 h1 R S L) (fun y1 s1 ⟨φ1, E1, r1⟩ => ?_) fun _ _ x => x)) (fun _ s' hq => wpAny_pure (wpAny_pure hq)) fun _ _ x => x)
 ·obtain ⟨c, u, e1, _⟩ := L.has x (K.free _ hx rfl)
  exact ⟨c, e1⟩
 refine zio (RR := compPost (model W.prog W.w) A NoE (some (assign (.Name y py) env)) _) K h2 R E1.sim (L.post0 E1.post) r1 fun B C φ' s' mm E2 rB hmm XC hC => ?_
 show wpAny _ A (assign (.Name y py) env (.ref B)) _ _ s'
 refine wpAny_mono (hy A φ' lo H2 s' v _ _ _ h4 R E2.sim ((L.post0 E1.post).post0 E2.post) rB) (fun _ s3 ⟨φ3, E3, L3⟩ => ?_) fun _ _ x => x
 have hCo : ∀ a ∈ [C], a ∉ kq env := fun a ha => by rw [zsq.mp ha]; exact (XC C (.head _)).2.1
 have X3 := XC.step E3.post hCo
 have k3 := XC.keep E3.post hCo
 obtain ⟨o, es, ep, e1, e2⟩ := hmm
 refine ⟨mm, ⟨o, es, ep, k3 C (.head _) _ e1, e2⟩, fun h' hsb => ?_⟩
 have hx : zcg [C] s3.heap h' := .one hsb.extBut
 have E23 := (E2.zero (S := kq env)).trans E3
 exact ⟨φ3, E1.zero.trans ⟨za4 E3.sim X3 hx, xq E23.post (fun a ha => by rw [zsq.mp ha]; exact hC) hx, E23.same.trans ⟨h', s3.toks, rfl⟩⟩, zdg L3 X3 hx, .next⟩
end
end Mine
namespace Mine
section
variable {W : Wd} {n : Nat} {env : Env} {sl : List (Option Str)} {A : Around}
noncomputable def zbl (src : Src) (g : DT) (b : DS) : Nat → Nat → DS
 | 0, _ => fun _ _ => none
 | k + 1, i => fun lo H => match src H i with
  | none => none
  | some none => some (.next, lo, H)
  | some (some v) => bnd (g v lo H) fun lo1 H1 => (match after (b lo1 H1) with
   | some (.inl (lo2, H2)) => zbl src g b k (i + 1) lo2 H2
   | some (.inr x) => some x
   | none => none)
structure zg6 (W : Wd) (env : Env) (sl : List (Option Str)) (φ0 φ₀ : wz) (s₀ : Shared) (Is : List Addr) (It : Nat → Heap → Prop) (i : Nat) (φ : wz) (lo : Lo) (H : St) (s : Shared) : Prop where
 p : φ0 <+: φ
 E : EP W φ₀ φ H (kq env) s₀ s
 L : Loc W env sl lo φ s.heap
 X : zci W env φ s.heap Is
 I : It i s.heap
theorem zg6.step {φ0 φ₀ φ φ' : wz} {s₀ s s' : Shared} {I : Addr} {Is : List Addr} {It : Nat → Heap → Prop} {i : Nat} {lo lo' : Lo} {H H' : St} {target : Expr} {src : Src} (N : Nx W target src φ0 I Is It)
  (C : zg6 W env sl φ0 φ₀ s₀ Is It i φ lo H s) (E : EP W φ φ' H' (kq env) s s') (L : Loc W env sl lo' φ' s'.heap) : zg6 W env sl φ0 φ₀ s₀ Is It i φ' lo' H' s' :=
 ⟨C.p.trans E.post.ext, C.E.trans E, L, C.X.step E.post fun a ha => (C.X a ha).2.1, N.frame _ _ _ (fun a ha => C.X.keep E.post (fun a ha => (C.X a ha).2.1) a ha) C.I⟩
theorem zg6.next {φ0 φ₀ φ : wz} {s₀ s s' : Shared} {Is : List Addr} {It : Nat → Heap → Prop} {i : Nat} {lo : Lo} {H : St} (hn : ∀ a ∈ Is, s₀.heap.get? a = none)
  (C : zg6 W env sl φ0 φ₀ s₀ Is It i φ lo H s) (hx : zcg Is s.heap s'.heap) (hsm : zhv s s') : EP W φ₀ φ H (kq env) s₀ s' ∧ Loc W env sl lo φ s'.heap :=
 ⟨⟨za4 C.E.sim C.X hx, xq C.E.post hn hx, C.E.same.trans hsm⟩, zdg C.L C.X hx⟩
theorem zr4 {target : Expr} {body : List Stmt} {src : Src} {g : DT} {b : DS} {φ0 φ₀ : wz} {I : Addr} {Is : List Addr} {It : Nat → Heap → Prop} (N : Nx W target src φ0 I Is It) (ht : TG W n env (kq env) sl target g) (hb : SB W n env sl body b)
  {lo lo' : Lo} {H H' : St} {fl : Fl} {s s₀ : Shared} {k : Nat} (hf : zbl src g b k 0 lo H = some (fl, lo', H')) (Ro : zal n A) (L : Loc W env sl lo φ0 s.heap)
  (X : zci W env φ0 s.heap Is) (hI : It 0 s.heap) (hn : ∀ a ∈ Is, s₀.heap.get? a = none) (E0 : EP W φ₀ φ0 H (kq env) s₀ s) :
  codeAny (model W.prog W.w) A (.forLoop target (.ref I) body [] env) (fun r s' => match r with
   | .ok f => QS W env sl φ₀ s₀ fl lo' H' f s'
   | .error e => cameBackBy (model W.prog W.w) A env NoE e s') s := by
 refine codeAny_forLoop_any (fun k s' => ∃ φ1 lo1 H1 i, zbl src g b k i lo1 H1 = some (fl, lo', H') ∧ zg6 W env sl φ0 φ₀ s₀ Is It i φ1 lo1 H1 s') ?_ k ⟨φ0, lo, H, 0, hf, zsw, E0, L, X, hI⟩
 rintro k s1 ⟨φ1, lo1, H1, i, hf1, C1⟩
 cases k with
 | zero => cases hf1
 | succ k =>
 simp only [zbl] at hf1
 rcases hs : src H1 i with _ | _ | v <;> rw [hs] at hf1
 ·cases hf1
 ·refine inj3 ?_ hf1
  refine wpAny_mono (N.stop i φ1 _ _ s1 _ C1.p Ro.1 C1.E.sim (fun a ha => (C1.X a ha).1) C1.I hs) (fun r s2 hq => ?_) fun _ _ x => x
  obtain ⟨rfl, hx, hsm⟩ := hq
  obtain ⟨E2, L2⟩ := C1.next hn hx hsm
  exact wpAny_execs_nil ⟨φ1, E2, L2, .next⟩
 ·refine wpAny_mono (N.item i φ1 H1 _ s1 _ v C1.p Ro.1 C1.E.sim (fun a ha => (C1.X a ha).1) C1.I hs) (fun r s2 hq => ?_) fun _ _ x => x
  obtain ⟨y, rfl, hq⟩ := hq
  refine wpAny_mono hq (fun _ s3 hq3 => ?_) fun _ _ x => x
  have C3 : zg6 W env sl φ0 φ₀ s₀ Is It (i + 1) φ1 lo1 H1 s3 := ⟨C1.p, (C1.next hn hq3.2.1 hq3.2.2.1).1, (C1.next hn hq3.2.1 hq3.2.2.1).2, C1.X.at (fun a ha => ha) fun a ha => N.live _ _ hq3.1 a ha, hq3.1⟩
  obtain ⟨lo4, H4, g4, hf4⟩ := wn hf1
  refine noE (wpAny_mono (ht _ φ1 lo1 H1 s3 v y lo4 H4 g4 Ro C3.E.sim C3.L hq3.2.2.2) (fun _ s4 hq4 => ?_) fun _ _ x => x.elim)
  obtain ⟨φ4, E4, L4⟩ := hq4
  have C4 := C3.step N E4 L4
  clear C3 hq3 E4 L4 C1 hf1
  cases hx : after (b lo4 H4) with
  | none => rw [hx] at hf4; cases hf4
  | some x =>
   rw [hx] at hf4
   refine zmk (k := k + 1) (R := fun r s' => match r with | .ok f => QS W env sl φ₀ s₀ fl lo' H' f s' | .error e => cameBackBy (model W.prog W.w) A env NoE e s') (I := fun k s' => ∃ φ1 lo1 H1 i, zbl src g b k i lo1 H1 = some (fl, lo', H') ∧ zg6 W env sl φ0 φ₀ s₀ Is It i φ1 lo1 H1 s') hb hx Ro C4.E.sim C4.L
    (fun lo5 H5 φ5 s5 ex E5 L5 => ?_) (fun fl5 lo5 H5 φ5 s5 f ex E5 L5 rf hff => ?_)
   ·rw [ex] at hf4
    exact ⟨k, zw0 k, φ5, lo5, H5, i + 1, hf4, C4.step N E5 L5⟩
   ·rw [ex] at hf4
    refine inj3 ?_ hf4
    exact ⟨φ5, C4.E.trans E5, L5, rf⟩
noncomputable def u9 (f : DE) (g : DT) (b : DS) : DS := fun lo H => bnd (f lo H) fun v H => match zdj v H with
 | some (src, k) => zbl src g b k 0 lo H
 | none => none
theorem ss_for {target iter : Expr} {body : List Stmt} {pos : Pos} {f : DE} {g : DT} {b : DS} (hi : SE W n env sl iter f) (ht : TG W n env (kq env) sl target g) (hb : SB W n env sl body b)
  (hs : ∀ x, foldedSetIterable iter env x = pure x) : SS W n env sl (.For target iter body [] pos) (u9 f g b) := by
 intro A φ lo H s fl lo' H' hf R S L
 obtain ⟨v, H1, h1, h2⟩ := wn hf
 refine wpAny_For (wpAny_mono (hi A φ lo H s v H1 h1 R S L) (fun y s1 ⟨φ1, E1, r1⟩ => ?_) fun _ _ x => x) hs
 cases hsrc : zdj v H1 with
 | none => rw [hsrc] at h2; cases h2
 | some sk =>
  rw [hsrc] at h2
  refine zkf (target := target) E1.sim r1 hsrc fun I Is It h' NN I0 hk hfree hsz => ?_
  have E2 : EP W φ1 φ1 H1 [] s1 { s1 with heap := h', toks := s1.toks } := ur E1.sim hk
  refine codeAny_mono (zr4 (s := { s1 with heap := h' }) (s₀ := s1) NN ht hb h2 R ((L.post0 E1.post).post0 E2.post) (zhl E1.sim (L.post0 E1.post) (fun a ha => (hfree a ha).1) fun b hb => NN.live 0 _ I0 b hb) I0 (fun a ha => (hfree a ha).1) E2.zero) fun r2 s2 hq => ?_
  cases r2 with
  | error e => exact hq
  | ok f2 =>
   obtain ⟨φ', E3, L3, rf⟩ := hq
   exact ⟨φ', E1.zero.trans E3, L3, rf⟩
noncomputable def zg9 (c : Nat) (f1 f2 : DE) : DE := fun lo H => bnd (f1 lo H) fun a H => bnd (f2 lo H) fun b H => some (.ref H.length, H ++ [.obj c [a, b]])
theorem zpk {c : Nat} {x1 x2 : Str} {k1 k2 : Nat} {p1 p2 pos : Pos} {e1 e2 : Expr} {f1 f2 : DE} (hc : W.cls c = none) (hn : W.names c = [x1, x2]) (hne : x1 ≠ x2) (h1 : SE W n env sl e1 f1) (h2 : SE W n env sl e2 f2) :
  SE W n env sl (.Dict [some (.Constant (.str x1) k1 p1), some (.Constant (.str x2) k2 p2)] [e1, e2] pos) (zg9 c f1 f2) := by
 intro A φ lo H s v H' hf R S L
 obtain ⟨a, H1, f1', hf1⟩ := wn hf
 obtain ⟨b, H2, f2', hf2⟩ := wn hf1
 refine inj2 ?_ hf2
 have hB : s.heap.get? s.heap.objs.size = none := ui _
 have hD0 := Heap.DictOf.new (knd := PySem.strKind W.prog W.w) s.heap
 have E0 : EP W φ φ H [] s { s with heap := s.heap.push { cls := .type "dict", data := .dict #[] }, toks := s.toks } := ur S fun b o e => zwk _ e
 have hB0 : ∃ o, (s.heap.push { cls := .type "dict", data := .dict #[] }).get? s.heap.objs.size = some o ∧ qo o = false := ⟨_, zwl _ rfl, rfl⟩
 have X0 : zci W env φ (s.heap.push { cls := .type "dict", data := .dict #[] }) [s.heap.objs.size] := zhl S L (fun a ha => by rw [zsq.mp ha]; exact hB) fun a ha => by rw [zsq.mp ha]; exact hB0
 have n0 : ∀ a ∈ [s.heap.objs.size], a ∉ ([] : List Addr) := fun _ _ h => nomatch h
 refine wpAny_Dict_pairs (knd := PySem.strKind W.prog W.w) (pairs := [(eval (.Constant (.str x1) k1 p1) env, do let x ← eval e1 env; standAt pos; pure x), (eval (.Constant (.str x2) k2 p2) env, do let x ← eval e2 env; standAt pos; pure x)]) rfl (by simp) (by simp) ?_
 refine evalPairs_cons (Constant_str (wpAny_bind (wpAny_mono (h1 A φ lo H { s with heap := s.heap.push { cls := .type "dict", data := .dict #[] }, toks := s.toks + 1 } a H1 f1' R E0.sim (L.post0 E0.post)) (fun y1 s1 hq => ?_) fun _ _ x => x)))
 obtain ⟨φ1, E1, r1⟩ := hq
 have X1 := X0.step E1.post n0
 have K1 := X0.keep E1.post n0
 have L1 := (L.post0 E0.post).post0 E1.post
 refine wpAny_bind (wpAny_standAt (wpAny_pure ?_))
 refine evalPairs_cons (Constant_str (wpAny_bind (wpAny_mono (h2 A φ1 lo H1 { s1 with toks := s1.toks + 1 } b _ f2' R E1.sim L1) (fun y2 s2 hq => ?_) fun _ _ x => x)))
 obtain ⟨φ2, E2, r2⟩ := hq
 have X2 := X1.step E2.post n0
 have K2 := X1.keep E2.post n0
 refine wpAny_bind (wpAny_standAt (wpAny_pure ?_))
 refine evalPairs_nil ⟨[(x1, y1), (x2, y2)], ⟨strKind_is .., rfl, strKind_is .., rfl, trivial⟩, ?_, fun h' hd hsb => ?_⟩
 ·exact (hD0.at fun o e => K1 _ (.head _) o e).at fun o e => K2 _ (.head _) o e
 have hx : zcg [s.heap.objs.size] s2.heap h' := .one hsb.extBut
 have hm : merged [] [(x1, y1), (x2, y2)] = [(x1, y1), (x2, y2)] := by
  have : x2 ≠ x1 := Ne.symm hne
  simp [merged, stored, hne, this]
 rw [hm] at hd
 have E02 : EP W φ φ2 H2 [] s { s2 with heap := h', toks := s2.toks + 2 } := by
  have t1 : EP W φ φ H [] s { s with heap := s.heap.push { cls := .type "dict", data := .dict #[] }, toks := s.toks + 1 } := ur S fun b o e => zwk _ e
  have t2 : EP W φ1 φ1 H1 [] s1 { s1 with toks := s1.toks + 1 } := EP.tok E1.sim _
  have t3 := ((t1.trans E1).trans t2).trans E2
  exact ⟨za4 E2.sim X2 hx, xq t3.post (fun a ha => by rw [zsq.mp ha]; exact hB) hx, t3.same.trans ⟨h', _, rfl⟩⟩
 have hcar := (X2 _ (.head _)).1
 have hbase := (X2 _ (.head _)).2.2.1
 refine ⟨φ2 ++ [(s.heap.objs.size, s.heap.objs.size)], ⟨E02.sim.new hcar hbase ?_, ⟨E02.post.ext.trans (ztj ..), fun p hp => ?_, E02.post.keep, E02.post.imm, E02.post.alive⟩, E02.same⟩, .ref _ _ s.heap.objs.size ?_⟩
 ·simp only [OR, hc]
  exact ⟨trivial, _, hd, by rw [hn]; rfl, (RVs.cons (r1.post E2.post) (.cons r2 .nil)).mono zsw (X2.imm hx)⟩
 ·rcases zs0.mp hp with q | q
  ·exact E02.post.fresh p q
  ·rw [zsq.mp q]; exact .inr hB
 ·rw [← E02.sim.len]; simp
end
end Mine
namespace Mine
structure Fn (W : Wd) (g : Str) (fa : Addr) : Prop where
 glob : nsIn W.K mainGlobals g = some (some (.ref fa))
 obj : ∃ o fd, W.K.lookup fa = some o ∧ o.data = .func fd
structure Mt (W : Wd) (c : Nat) (C N : Addr) (x : Str) (fa : Addr) : Prop where
 cl : Cls W c C N
 at' : nsIn W.K N x = some (some (.ref fa))
 obj : ∃ o fd, W.K.lookup fa = some o ∧ o.cls = .type "function" ∧ o.data = .func fd
 obj0 : ∃ y, typeLookup (.type "object") x = pure y
 nf : x ∉ W.names c
structure Bl (W : Wd) (g : Str) (fv : Value) : Prop where
 glob : nsIn W.K mainGlobals g = some none
 boot : bootBuiltins g = some fv
 ne : g ≠ "__name__"
 db : (g == ("__debug__" : Str)) = false
 kind : (∃ id, fv = .builtin id) ∨ ∃ T, fv = .type T
structure Mk (W : Wd) (g : Str) (C : Addr) : Prop where
 glob : nsIn W.K mainGlobals g = some (some (.ref C))
 keep : keepIn W.K (.ref C) = true
 db : (g == ("__debug__" : Str)) = false
noncomputable def zf5 (es : List Expr) (env : Env) : Prop := ∀ e r, es = e :: r → starEach (e :: r) env = (false, eval e env) :: starEach r env
theorem zfj {env : Env} : zf5 [] env := fun _ _ h => nomatch h
theorem zax {e : Expr} {r : List Expr} {env : Env} (h : starEach (e :: r) env = (false, eval e env) :: starEach r env) : zf5 (e :: r) env := fun _ _ q => by cases q; exact h
section
variable {W : Wd} {n : Nat} {env : Env} {sl csl : List (Option Str)} {A : Around}
theorem zhc {e : Expr} : SE W n env sl e (fun _ _ => none) := fun _ _ _ _ _ _ _ h => nomatch h
theorem se_fn {k : Nat} {g : Str} {fa : Addr} {Df : DF} {p pos : Pos} {es : List Expr} {fs : List DE} (G : Fn W g fa) (F : FS W k (.ref fa) Df) (ha : SA W n env sl es fs) (hs : zf5 es env) (hk : k ≤ n) (hx : env.kindOf g = some .globalImplicit) (hdb : (g == ("__debug__" : Str)) = false) :
  SE W n env sl (.Call (.Name g p) es [] pos) (we Df fs) := by
 refine zvt fun hq0 => ?_
 obtain ⟨o, fd, h1, h2⟩ := G.obj
 refine hq0 ?_
 exact zrj F G.glob h1 h2 ha hk hx hdb hs
theorem se_mt {k c : Nat} {C N : Addr} {x : Str} {fa : Addr} {Df : DF} {e : Expr} {apos pos : Pos} {es : List Expr} {f : DE} {fs : List DE} {pl : Sem Bool} (G : Mt W c C N x fa) (F : FS W k (.ref fa) Df) (he : SE W n env sl e f) (ha : SA W n env sl es fs) (hs : zf5 es env) (hk : k ≤ n)
  (hm : eval (.Call (.Attribute e x apos) es [] pos) env = (do
   let ov ← eval e env
   standAt apos.atName
   let (f, first) ← holding [ov] (getMethod ov x pl)
   callWith pos f first (backTo pos (starEach es env)) [])) : SE W n env sl (.Call (.Attribute e x apos) es [] pos) (z5 c Df f fs) := by
 refine zvt fun hq0 => ?_
 obtain ⟨o, fd, h1, h2, h3⟩ := G.obj
 refine hq0 ?_
 exact zrh (pl := pl) G.cl F G.at' h1 h2 h3 G.obj0 G.nf he ha hk hs hm
theorem se_bl {g : Str} {p pos : Pos} {es : List Expr} {fs : List DE} {fv : Value} {b : List MV → St → Option (MV × St)} (G : Bl W g fv) (hb : CB W fv b) (ha : SA W n env sl es fs) (hs : zf5 es env) (hst : es.any isStarred = false) (hx : env.kindOf g = some .globalImplicit) :
  SE W n env sl (.Call (.Name g p) es [] pos) (z4 b fs) := zpm hb G.kind G.glob G.boot G.ne hx G.db ha hst hs
theorem se_mk {k : Nat} {g : Str} {C : Addr} {Df : DF} {p pos : Pos} {es : List Expr} {fs : List DE} (G : Mk W g C) (F : FS W k (.ref C) Df) (ha : SA W n env sl es fs) (hs : zf5 es env) (hst : es.any isStarred = false) (hk : k ≤ n) (hx : env.kindOf g = some .globalImplicit) :
  SE W n env sl (.Call (.Name g p) es [] pos) (we Df fs) := zri F G.glob G.keep ha hk hx G.db hst hs
theorem tn_loc {T : List Addr} {i : Nat} {x : Str} {pos : Pos} (hx : sl[i]? = some (some x)) (hk : env.kindOf x = some .local) (hT : env.locals ∈ T) : TG W n env T sl (.Name x pos) (zy i) := zmm hx (.inl ⟨hk, hT⟩)
theorem zl4 {i : Nat} {x : Str} {pos : Pos} (hx : sl[i]? = some (some x)) (hk : env.kindOf x = some .cell) : TG W n env (kq env) sl (.Name x pos) (zy i) := zmm hx (.inr ⟨hk, fun _ hc => .tail _ hc⟩)
noncomputable def zgk : List (Option Str) → Bool
 | [] => true
 | none :: r => zgk r
 | some x :: r => !r.contains (some x) && zgk r
theorem zay : ∀ {l : List (Option Str)}, zgk l = true → ∀ (i j : Nat) (x : Str), l[i]? = some (some x) → l[j]? = some (some x) → i = j
 | none :: r, h, 0, _, x, h1, _ => by simp at h1
 | none :: r, h, _ + 1, 0, x, _, h2 => by simp at h2
 | none :: r, h, i + 1, j + 1, x, h1, h2 => by
  rw [zay (l := r) h i j x (by simpa using h1) (by simpa using h2)]
 | some y :: r, h, 0, 0, x, _, _ => rfl
 | some y :: r, h, 0, j + 1, x, h1, h2 => by
  simp only [zgk, zxt, zxw, zu6, decide_eq_false_iff_not] at h
  simp at h1 h2
  subst h1
  exact absurd (zsm h2) h.1
 | some y :: r, h, i + 1, 0, x, h1, h2 => by
  simp only [zgk, zxt, zxw, zu6, decide_eq_false_iff_not] at h
  simp at h1 h2
  subst h2
  exact absurd (zsm h1) h.1
 | some y :: r, h, i + 1, j + 1, x, h1, h2 => by
  simp only [zgk, zxt] at h
  rw [zay (l := r) h.2 i j x (by simpa using h1) (by simpa using h2)]
noncomputable def defOk (names : List Str) (sl : List (Option Str)) (scope : Scope) : Bool :=
 decide names.Nodup && ((zsr names.length).all fun i => decide (sl[i]? = names[i]?.map some)) && zgk sl && (names.all fun x => decide (scope.names.lookup x = some .local) || decide (scope.names.lookup x = some .cell)) &&
  decide ((cellsFrom 0 scope.names []).map (·.1)).Nodup && !scope.isCoroutine && !scope.isGenerator && decide (scope.kind = .function)
theorem yg {k : Nat} {fa : Addr} {name qual : Str} {params : Arguments} {body : List Stmt} {scope : Scope} {dV kV doc pm cdv ct oc : Value} {an od : Option Addr} {osl : Array (Option Value)} {b : DS} {names : List Str} {sl : List (Option Str)} {dm : List MV} {dv : List Value}
  (ho : W.K.lookup fa = some ⟨oc, od, .func (fnOf name qual params body scope dV kV doc pm an cdv ct), osl⟩) (hcd : codeIn W.K cdv qual = true)
  (hb : ∀ L, SB W k (envOfC qual scope L fa cdv) sl body b)
  (hdv : ∀ φ h, RVs W.base φ h dm dv)
  (hbind : ∀ (s : Shared) (ys : List Value), ys.length + dv.length = names.length → (∀ b o, W.base.get? b = some o → s.heap.get? b = some o) → BindsTo s (fnOf name qual params body scope dV kV doc pm an cdv ct) ⟨ys, []⟩ (names.zip (ys ++ dv)))
  (hok : defOk names sl scope = true) : FS W (k + 1) (.ref fa) (jl names.length sl.length dm b) := by
 unfold defOk at hok
 simp only [zxt, zxw, decide_eq_true_eq, zun, zxx] at hok
 refine zvt fun hq0 => ?_
 obtain ⟨⟨⟨⟨⟨⟨⟨h1, h2⟩, h3⟩, h4⟩, h5⟩, h6⟩, h7⟩, h8⟩ := hok
 refine hq0 ?_
 refine fs_def ho hcd hb hdv hbind h1 (fun i x hx => ?_) (zay h3) h4 h5 h6 h7 h8
 have := h2 i (ztn.mpr (zsl.mp hx).1)
 rw [this, hx]; rfl
noncomputable def zqm (env : Env) (sl csl : List (Option Str)) (q : Nat) (scope : Scope) : Bool :=
 decide (scope.kind = .function) && (scope.names.all fun p => decide (p.2 ≠ .cell) && (decide (p.2 ≠ .local) || decide (scope.names.lookup p.1 = some .local)) && (decide (p.2 ≠ .free) || decide (env.kindOf p.1 = some .cell))) &&
  ((zsr q).all fun i => match csl[i]? with
   | some (some x) => decide (sl[i]? = some (some x)) && decide ((x, NameKind.free) ∈ scope.names) && decide ((relabel scope env).names.lookup x = some .cell)
   | _ => true) && zgk csl
theorem za1 {q : Nat} {scope : Scope} {elt target : Expr} {ifs : List Expr} {g : DT} {t : Lo → St → Option (Bool × St)} {e : DE} (h : zqm env sl csl q scope = true)
  (ht : ∀ C, TG W n (compEnvC scope (zbj env scope.names []) C env) [C] csl target g) (hc : ∀ C, CT W n (compEnvC scope (zbj env scope.names []) C env) csl ifs t) (he : ∀ C, SE W n (compEnvC scope (zbj env scope.names []) C env) csl elt e) :
  zju W n env sl csl q scope elt target ifs g t e := by
 unfold zqm at h
 simp only [zxt, decide_eq_true_eq, zun, zxx] at h
 refine zvt fun hq0 => ?_
 obtain ⟨⟨⟨h1, h2⟩, h3⟩, h4⟩ := h
 refine hq0 ?_
 refine ⟨h1, fun p hp => (h2 p hp).1.1, fun p hp hl => ?_, fun p hp hl => ?_, fun i x hx hi => ?_, zay h4, ht, hc, he⟩
 ·exact ((h2 p hp).1.2).resolve_left fun q => q hl
 ·exact ((h2 p hp).2).resolve_left fun q => q hl
 ·have := h3 i (ztn.mpr hi)
  rw [hx] at this
  simp only [zxt, decide_eq_true_eq] at this
  exact ⟨this.1.1, this.1.2, this.2⟩
theorem zjx {i j : Nat} {x y : Str} (h1 : sl[i]? = some (some x)) (k1 : env.kindOf x = some .local ∨ env.kindOf x = some .cell) (h2 : sl[j]? = some (some y)) (k2 : env.kindOf y = some .local ∨ env.kindOf y = some .cell) :
  ∀ (k i' : Nat) (z : Str), [i, j][k]? = some i' → [x, y][k]? = some z → sl[i']? = some (some z) ∧ (env.kindOf z = some .local ∨ env.kindOf z = some .cell)
 | 0, _, _, e, f => by cases e; cases f; exact ⟨h1, k1⟩
 | 1, _, _, e, f => by cases e; cases f; exact ⟨h2, k2⟩
 | k + 2, _, _, e, f => by simp at e
theorem zfp {i j l : Nat} {x y w : Str} (h1 : sl[i]? = some (some x)) (k1 : env.kindOf x = some .local ∨ env.kindOf x = some .cell) (h2 : sl[j]? = some (some y)) (k2 : env.kindOf y = some .local ∨ env.kindOf y = some .cell)
  (h3 : sl[l]? = some (some w)) (k3 : env.kindOf w = some .local ∨ env.kindOf w = some .cell) :
  ∀ (k i' : Nat) (z : Str), [i, j, l][k]? = some i' → [x, y, w][k]? = some z → sl[i']? = some (some z) ∧ (env.kindOf z = some .local ∨ env.kindOf z = some .cell)
 | 0, _, _, e, f => by cases e; cases f; exact ⟨h1, k1⟩
 | 1, _, _, e, f => by cases e; cases f; exact ⟨h2, k2⟩
 | 2, _, _, e, f => by cases e; cases f; exact ⟨h3, k3⟩
 | k + 3, _, _, e, f => by simp at e
theorem ys1 {l : List Value} (h : l.length = 1) : ∃ a, l = [a] := List.length_eq_one_iff.mp h
theorem ys2 {l : List Value} (h : l.length = 2) : ∃ a b, l = [a, b] := by
 refine zvt fun hq0 => ?_
 obtain ⟨a, t, rfl⟩ := zuo h
 obtain ⟨b, rfl⟩ := ys1 (zw8.inj h)
 refine hq0 ?_
 exact ⟨a, b, rfl⟩
theorem ys3 {l : List Value} (h : l.length = 3) : ∃ a b c, l = [a, b, c] := by
 refine zvt fun hq0 => ?_
 obtain ⟨a, t, rfl⟩ := zuo h
 obtain ⟨b, c, rfl⟩ := ys2 (zw8.inj h)
 refine hq0 ?_
 exact ⟨a, b, c, rfl⟩
theorem ys4 {l : List Value} (h : l.length = 4) : ∃ a b c d, l = [a, b, c, d] := by
 refine zvt fun hq0 => ?_
 obtain ⟨a, t, rfl⟩ := zuo h
 obtain ⟨b, c, d, rfl⟩ := ys3 (zw8.inj h)
 refine hq0 ?_
 exact ⟨a, b, c, d, rfl⟩
end
end Mine
namespace Mine
section
variable {W : Wd} {n : Nat} {env : Env} {sl : List (Option Str)} {A : Around}
noncomputable def m.pop (o : MV) (args : List MV) (H : St) : Option (MV × St) := jq o fun i => aNil args (y4 H[i]? fun l => l[l.length - 1]?.bind fun v => if small l.length then some (v, H.set i (.list (l.take (l.length - 1)))) else none)
theorem cm_pop : CM W "list.pop" m.pop := by
 intro A φ o args H s v H' y ys hb hA hu S ro rs
 refine jq.i hb fun i ei h1 => aNil.i h1 fun en h2 => y4.i h2 fun l hl h3 => ?_
 subst ei en
 obtain ⟨v', hv, h4⟩ := zvx.mp h3
 refine ja h4 fun hz h5 => ?_
 refine inj2 ?_ h5
 rw [rs.nil_inv]
 obtain ⟨a, vs, m, rfl, ha, hg, rl⟩ := S.list_of hl ro
 have hz' : l.length ≤ 1000000 := by simpa [small] using hz
 have hlen : l.length = vs.size := rl.length.trans zxi
 obtain ⟨y, hy, ry⟩ := rl.get hv
 rw [hlen, zxk] at hy
 refine Copied.pop_at hg hy (fun h' hs e => ?_) (by rw [sizeLine_eq]; lia)
 have E : EP W φ φ (H.set _ (.list (l.take (l.length - 1)))) [] s { s with heap := h', toks := s.toks } := ze8 (t := s.toks) S hl ha hs (fun imm => ⟨rfl, _, _, e, by
  rw [Array.toList_pop, List.dropLast_eq_take, ← rl.length]
  exact (rl.mono zsw imm).take _⟩) ⟨_, e⟩
 exact ⟨φ, E, ry.post E.post⟩
noncomputable def b.min (args : List MV) (H : St) : Option (MV × St) := (x7 args).bind fun l => zk5 l fun a r => zbw r fun b => some (.int (if b < a then b else a), H)
theorem zqo : CB W (.builtin "min") b.min := by
 intro A φ args H s v H' ys hb hA hu S r
 obtain ⟨l, h, h1⟩ := zvx.mp hb
 refine zk5.i h1 fun a r1 ea h2 => zbw.i h2 fun b eb h3 => inj2 ?_ h3
 ·rw [zgs h, ea, eb] at r
  obtain ⟨_, _, rfl, q, q'⟩ := r.two_inv
  obtain ⟨t, rfl⟩ := q.int_inv
  obtain ⟨u, rfl⟩ := q'.int_inv
  refine min_two_ints hA fun h' tk hk => ⟨φ, ur S hk, ?_⟩
  by_cases hab : b < a
  ·rw [if_pos hab, if_pos hab]; exact .int ..
  ·rw [if_neg hab, if_neg hab]; exact .int ..
end
end Mine
namespace Mine
noncomputable section
noncomputable def ev {α : Type} (lt : Nat → Nat → Bool) : KasT α → α
 | .ret a => a
 | .ask i j k => ev lt (k (lt i j))
noncomputable def zlz {α : Type} (n : Nat) (good : α → Bool) : KasT α → Bool
 | .ret a => good a
 | .ask i j k => decide (i < n) && (decide (j < n) && (zlz n good (k true) && zlz n good (k false)))
noncomputable def lenOk (n : Nat) (p : Array Nat) : Bool := zwz p.size n
end
theorem zni {α : Type} {n : Nat} {good : α → Bool} {lt : Nat → Nat → Bool} {cmp : Nat → Nat → (Bool → Shared → Prop) → Shared → Prop} {s : Shared} {Q : α → Shared → Prop}
  (hc : ∀ i j (C : Bool → Shared → Prop), i < n → j < n → C (lt i j) s → cmp i j C s) : ∀ t : KasT α, zlz n good t = true → Q (ev lt t) s → t.kasWp cmp Q s
 | .ret a, _, h => h
 | .ask i j k, ok, h => by
  unfold zlz at ok
  simp only [zxt, decide_eq_true_eq] at ok
  show cmp i j (fun b s' => (k b).kasWp cmp Q s') s
  refine hc i j _ ok.1 ok.2.1 (zni (good := good) hc (k (lt i j)) ?_ h)
  cases lt i j
  ·exact ok.2.2.2
  ·exact ok.2.2.1
theorem zqd : ∀ n, 2 ≤ n → n ≤ 6 → zlz n (lenOk n) (kas_sort n) = true
 | 2, _, _ => by kernel_rfl
 | 3, _, _ => by kernel_rfl
 | 4, _, _ => by kernel_rfl
 | 5, _, _ => by kernel_rfl
 | 6, _, _ => by kernel_rfl
 | n + 7, _, h => absurd h (by lia)
 | 0, h, _ => absurd h (by decide)
 | 1, h, _ => absurd h (by decide)
noncomputable def zkr (fin : Bool) : List Int → List Int → Bool
 | a :: x, b :: y => if a = b then zkr fin x y else decide (a < b)
 | _, _ => fin
noncomputable def zgp (a b : List Int) : Bool := zkr (decide (a.length < b.length)) a b
section
variable {prog : Program} {w : World} {A : Around} {s : Shared} {E : Value → Shared → Prop}
theorem one_lt {b : Bool} {x y : Int} {t u : Tok} {Q : Bool → Shared → Prop} (h : Q (decide (x < y)) s) : wpAny (model prog w) A (oneLt' b (.int x t) (.int y u)) Q E s := by
 cases b
 ·exact kat_one _ _ (PySem.P.lt_int (show PySem.W.BoolBack Q (.bool (decide (x < y))) s from h))
 ·exact oneLt_int h
theorem lex_ok {fin : Bool} {Q : Bool → Shared → Prop} : ∀ {a b : List Int} {xs ys : List Value} (i : Nat), IntsAre xs a → IntsAre ys b → Q (zkr fin a b) s → KatLex prog w A true fin Q (xs.zip ys) i s := by
 intro a
 induction a with
 | nil => intro b xs ys i hx hy h; cases hx; exact kat_nil h
 | cons x a ih =>
  intro b xs ys i hx hy h
  cases hx with | cons _ _ hx =>
  cases b with
  | nil => cases hy; rw [List.zip_nil_right]; exact kat_nil h
  | cons y b =>
  cases hy with | cons _ _ hy =>
  rw [zt6]
  refine kat_cons (wpAny_eqBool_int ?_)
  by_cases e : x = y
  ·rw [show (x == y) = true by rw [e]; exact beq_self_eq_true _]
   exact kat_yes (ih (i + 1) hx hy ((if_pos e : zkr fin (x :: a) (y :: b) = _) ▸ h))
  ·rw [show (x == y) = false by exact beq_eq_false_iff_ne.mpr e]
   exact kat_no (one_lt ((if_neg e : zkr fin (x :: a) (y :: b) = _) ▸ h))
noncomputable def zjr (tup : Bool) (h : Heap) (k : Value) (z : List Int) : Prop :=
 if tup = true then ∃ a o xs n, k = .ref a ∧ h.get? a = some o ∧ o.cls = .type "tuple" ∧ o.data = .seq xs n ∧ z ≠ [] ∧ IntsAre xs.toList z else ∃ i t, k = .int i t ∧ z = [i]
noncomputable def g8 (tup : Bool) (h : Heap) : List Value → List (List Int) → Prop
 | [], [] => True
 | k :: ks, z :: zs => zjr tup h k z ∧ g8 tup h ks zs
 | _, _ => False
theorem key_lt {tup : Bool} {x y : Value} {a b : List Int} {Q : Bool → Shared → Prop} (hx : zjr tup s.heap x a) (hy : zjr tup s.heap y b) (h : Q (zgp a b) s) :
  wpAny (model prog w) A (keyLt' (if tup = true then tuples' true else oneType') x y) Q E s := by
 cases tup with
 | true =>
  obtain ⟨_, _, xs, _, rfl, g1, c1, d1, _, I1⟩ := hx
  obtain ⟨_, _, ys, _, rfl, g2, c2, d2, _, I2⟩ := hy
  refine kat_lt g1 d1 g2 d2 (lex_ok 0 I1 I2 ?_)
  rw [← zxi, ← zxi, I1.length, I2.length]
  exact h
 | false =>
  obtain ⟨i, t, rfl, rfl⟩ := hx
  obtain ⟨j, u, rfl, rfl⟩ := hy
  refine kat_lt_int ?_
  have e : zgp [i] [j] = decide (i < j) := by
   unfold zgp zkr zkr
   by_cases q : i = j
   ·rw [if_pos q, q]; simp
   ·rw [if_neg q]
  rw [← e]; exact h
theorem zie : ∀ {ks : List Value} {zs : List (List Int)}, g8 false s.heap ks zs → ∃ ns, IntsAre ks ns
 | [], [], _ => ⟨[], .nil⟩
 | _ :: _, _ :: _, ⟨⟨i, t, e, _⟩, r⟩ => by
  obtain ⟨ns, I⟩ := zie r
  rw [e]
  exact ⟨i :: ns, .cons _ _ I⟩
theorem zn6 : ∀ {ks : List Value} {zs : List (List Int)}, g8 true s.heap ks zs → ∃ fs, KatTups s.heap ks fs ∧ fs.length = ks.length ∧ ∀ v ∈ fs, ∃ i t, v = .int i t := by
 intro ks
 induction ks with
 | nil => intro zs K; cases zs with
  | nil => exact ⟨[], .nil, rfl, fun _ h => nomatch h⟩
  | cons => exact K.elim
 | cons k ks ih =>
  intro zs K
  cases zs with
  | nil => exact K.elim
  | cons z0 zs =>
  obtain ⟨⟨a, o, xs, n, e, g, c, d, z, I⟩, r⟩ := K
  obtain ⟨fs, T, l, h⟩ := ih r
  obtain ⟨i, t, e2⟩ : ∃ i t, xs[0]? = some (.int i t) := by
   rw [← zxk]
   generalize xs.toList = l at I
   cases I with
   | nil => exact (z rfl).elim
   | cons i t I => exact ⟨_, _, rfl⟩
  rw [e]
  refine ⟨.int i t :: fs, .cons g c d e2 T, by rw [ztd, ztd, l], fun v hv => ?_⟩
  rcases zss.mp hv with rfl | hv
  ·exact ⟨_, _, rfl⟩
  ·exact h v hv
theorem zid {tup : Bool} {ks : List Value} {zs : List (List Int)} {Q : SortKind → Shared → Prop} (K : g8 tup s.heap ks zs) (h2 : 2 ≤ ks.length) (h : Q (if tup = true then tuples' true else oneType') s) :
  wpAny (model prog w) A (keyKind' ks.toArray) Q E s := by
 cases tup with
 | true =>
  obtain ⟨fs, T, l, hf⟩ := zn6 K
  exact kat_kind (T := .type "int") T (by lia) (fun v hv => by obtain ⟨i, t, rfl⟩ := hf v hv; exact Looks.of_pure rfl) (by decide) h
 | false =>
  obtain ⟨ns, I⟩ := zie K
  rw [ksk_kind (keys := ks.toArray) (kz := ns) I (by rw [ztb]; exact h2)]
  exact wpAny_pure h
end
end Mine
namespace Mine
noncomputable section
noncomputable def srt (zs : List (List Int)) : List Nat := (ev (fun i j => zgp (zs.getD i []) (zs.getD j [])) (kas_sort zs.length)).toList
end
theorem g8.len {tup : Bool} {h : Heap} : ∀ {ks : List Value} {zs : List (List Int)}, g8 tup h ks zs → ks.length = zs.length
 | [], [], _ => rfl
 | _ :: _, _ :: _, ⟨_, r⟩ => by rw [ztd, ztd, r.len]
theorem g8.at {tup : Bool} {h : Heap} : ∀ {ks : List Value} {zs : List (List Int)}, g8 tup h ks zs → ∀ {i : Nat}, i < ks.length → zjr tup h (ks.getD i .none) (zs.getD i [])
 | [], [], _, i, hi => absurd hi (zxd i)
 | _ :: _, _ :: _, ⟨k, r⟩, 0, hi => k
 | _ :: _, _ :: _, ⟨k, r⟩, i + 1, hi => r.at (Nat.lt_of_succ_lt_succ hi)
theorem g8.snoc {tup : Bool} {h : Heap} {k : Value} {z : List Int} (q : zjr tup h k z) : ∀ {ks : List Value} {zs : List (List Int)}, g8 tup h ks zs → g8 tup h (ks ++ [k]) (zs ++ [z])
 | [], [], _ => ⟨q, trivial⟩
 | _ :: _, _ :: _, ⟨k, r⟩ => ⟨k, r.snoc q⟩
theorem g8.rev {tup : Bool} {h : Heap} : ∀ {ks : List Value} {zs : List (List Int)}, g8 tup h ks zs → g8 tup h ks.reverse zs.reverse
 | [], [], _ => trivial
 | _ :: _, _ :: _, ⟨k, r⟩ => by rw [zul, zul]; exact r.rev.snoc k
section
variable {prog : Program} {w : World} {A : Around} {s : Shared} {E : Value → Shared → Prop}
theorem zl6 {tup : Bool} {ks vs : List Value} {zs : List (List Int)} (K : g8 tup s.heap ks zs) (hl : ks.length = vs.length) (h2 : 2 ≤ vs.length) (h6 : vs.length ≤ 6) :
  wpAny (model prog w) A ((sortRuns').run (SortSt.mk' (if tup = true then tuples' true else oneType') (ks.toArray.zip vs.toArray) #[] 7 none))
   (fun r s' => s' = s ∧ failedOf r.2 = none ∧ (arrOf r.2).map (·.2) = ztp ((srt zs).map fun i => vs.getD i .none) ∧ (srt zs).length = vs.length) E s := by
 have hz : zs.length = vs.length := K.len.symm.trans hl
 have ok := zqd vs.length h2 h6
 refine kat_run (Q := fun st s' => s' = s ∧ failedOf st = none ∧ (arrOf st).map (·.2) = ztp ((srt zs).map fun i => vs.getD i .none) ∧ (srt zs).length = vs.length) (G := fun p s' => p.toList = srt zs ∧ s' = s) hl h2 (by lia)
  (fun p st s' a1 a2 a3 ⟨e, e'⟩ => ?_) (zni (lt := fun i j => zgp (zs.getD i []) (zs.getD j [])) (fun i j C hi hj hC => ?_) _ ok ⟨?_, rfl⟩)
 ·refine ⟨e', a3, ?_, ?_⟩
  ·rw [← e]; exact kat_snds hl a2
  ·rw [← e, zxi, a1]
 ·exact key_lt (K.at (by lia)) (K.at (by lia)) hC
 ·unfold srt; rw [hz]
theorem zlf {tup : Bool} {a : Addr} {vs : List Value} {zs : List (List Int)} {n : Nat} {P : PySem.Fin → Shared → Prop} (ho : s.heap.get? a = some (seqObj "list" vs.toArray n))
  (K : ∀ h', (∀ b o, b ≠ a → s.heap.get? b = some o → h'.get? b = some o) → g8 tup h' vs zs) (h2 : 2 ≤ vs.length) (h6 : vs.length ≤ 6)
  (h : (srt zs).length = vs.length → P (.done (.ret .none)) { s with heap := sortedHeap s.heap a vs (ztp ((srt zs).map fun i => vs.getD i .none)) }) :
  wpAny (model prog w) A (Builtin.«list.sort» ⟨[.ref a], []⟩) P E s := by
 rw [list_sort_plain]
 have ha : a < s.heap.objs.size := zwm ho
 refine wpAny_bind (listItems_at ho rfl ?_)
 refine wpAny_bind (listUpdate_at ho rfl ?_ (by rw [ztb, sizeLine_eq]; lia) (zwv _))
 obtain ⟨e1, ho1⟩ : ∃ e1, (s.heap.update a (zws fun _ => #[])).get? a = some (seqObj "list" #[] e1) := ⟨_, get?_update_seq ho (fun _ => #[])⟩
 refine wpAny_bind (seqEpoch_at ho1 rfl ?_)
 refine wpAny_bind (wpAny_newTuple ?_ (by show vs.length ≤ _; rw [sizeLine_eq]; lia))
 refine wpAny_bind (wpAny_newList ?_ (zwv _))
 refine wpAny_holding ?_
 have s1 := zwn.update s.heap a (zws fun _ => (#[] : Array Value))
 have K' := K (((s.heap.update a (zws fun _ => #[])).push (seqObj "tuple" vs.toArray 0)).push (seqObj "list" #[] 0)) fun b o hb e => zwk _ (zwk _ ((s1.2 b hb).trans e))
 have ho6 : (((s.heap.update a (zws fun _ => #[])).push (seqObj "tuple" vs.toArray 0)).push (seqObj "list" #[] 0)).get? a = some (seqObj "list" #[] e1) := zwk _ (zwk _ ho1)
 show wpAny (model prog w) A _ P E { s with heap := ((s.heap.update a (zws fun _ => #[])).push (seqObj "tuple" vs.toArray 0)).push (seqObj "list" #[] 0) }
 dsimp only
 have hn2 : ¬ vs.toArray.size < 2 := by rw [ztb]; lia
 rw [if_neg hn2, if_neg hn2]
 refine wpAny_bind (zid K' h2 ?_)
 refine wpAny_bind (wpAny_mono (zl6 K' rfl h2 h6) ?_ fun _ _ x => x)
 rintro ⟨⟨⟩, st⟩ s' ⟨rfl, hf, hout, hl⟩
 dsimp only
 rw [hout]
 refine wpAny_bind (seqEpoch_at ho6 rfl ?_)
 refine wpAny_bind (listUpdate_at ho6 rfl ?_ (zwv _) (by rw [ztb, zsk, hl, sizeLine_eq]; lia))
 rw [hf]
 simp only [bne_self_eq_false, zxu, if_false]
 exact wpAny_pure (h hl)
end
end Mine
namespace Mine
noncomputable section
noncomputable def zo9 (tup : Bool) (v : MV) : Option (List Int) := (uo v fun i => if tup = true then none else some [i]).or (ziw v fun k => zk5 k fun _ _ => if tup = true then x7 k else none)
noncomputable def zdo (tup : Bool) : List MV → Option (List (List Int))
 | [] => some []
 | v :: l => (zo9 tup v).bind fun z => (zdo tup l).map (z :: ·)
end
theorem key_at {base : Heap} {φ : wz} {h : Heap} {tup : Bool} {v : MV} {y : Value} {z : List Int} (e : zo9 tup v = some z) (r : RV base φ h v y) (W : Wd) (hW : W.base = base) : zjr tup h y z := by
 subst hW
 rcases zvy.mp e with e | ⟨-, e⟩
 ·refine uo.i e fun i ei e => zlt e fun ht e => inj1 ?_ e
  subst ei
  obtain ⟨t, rfl⟩ := r.int_inv
  have ht : tup = false := by simpa using ht
  subst ht
  exact ⟨_, _, rfl, rfl⟩
 ·refine ziw.i e fun k ek e1 => zk5.i e1 fun v' l el e2 => ja e2 fun ht e3 => ?_
  subst ek ht
  obtain ⟨a, vs, rfl, ⟨o, g, c, n, d⟩, rl⟩ := r.tup_inv
  refine ⟨a, o, vs.toArray, n, rfl, g, c, d, fun q => ?_, by simpa using zed e3 rl⟩
  rw [q, el] at e3
  refine uo.i e3 fun i _ e => ?_
  obtain ⟨_, _, q⟩ := zvv.mp e; cases q
theorem zhi {W : Wd} {φ : wz} {h : Heap} {tup : Bool} : ∀ {l : List MV} {vs : List Value} {zs : List (List Int)}, zdo tup l = some zs → RVs W.base φ h l vs → g8 tup h vs zs
 | [], vs, zs, e, r => by rw [r.nil_inv]; refine inj1 ?_ e; trivial
 | v :: l, vs, zs, e, r => by
  obtain ⟨y, ys, rfl, q, r⟩ := r.cons_inv
  obtain ⟨z, hz, e⟩ := zvx.mp e
  obtain ⟨zs, e2, rfl⟩ := zvv.mp e
  exact ⟨key_at hz q W rfl, zhi e2 r⟩
theorem zns {h : Heap} {a : Addr} {xs : Array Value} {n : Nat} (vs : List Value) (out : Array Value) (g : h.get? a = some (seqObj "list" xs n)) : ∃ c, (sortedHeap h a vs out).get? a = some (lst out c) := by
 obtain ⟨e1, ho1⟩ : ∃ e1, (h.update a (zws fun _ => #[])).get? a = some (seqObj "list" #[] e1) := ⟨_, get?_update_seq g (fun _ => #[])⟩
 exact ⟨_, get?_update_seq (zwk _ (zwk _ ho1)) fun _ => out⟩
theorem zjz {h : Heap} {a b : Addr} {o : Obj} (vs : List Value) (out : Array Value) (hb : b ≠ a) (g : h.get? b = some o) : (sortedHeap h a vs out).get? b = some o := by
 have s1 := zwn.update h a (zws fun _ => (#[] : Array Value))
 have s2 := zwn.update (((h.update a (zws fun _ => #[])).push (seqObj "tuple" vs.toArray 0)).push (seqObj "list" #[] 0)) a (zws fun _ => out)
 exact (s2.2 b hb).trans (zwk _ (zwk _ ((s1.2 b hb).trans g)))
section
variable {prog : Program} {w : World} {A : Around} {s : Shared} {E : Value → Shared → Prop}
theorem zle {a : Addr} {vs : List Value} {n : Nat} {P : PySem.Fin → Shared → Prop} (ho : s.heap.get? a = some (seqObj "list" vs.toArray n)) (h2 : vs.length < 2)
  (h : P (.done (.ret .none)) { s with heap := sortedHeap s.heap a vs vs.toArray }) :
  wpAny (model prog w) A (Builtin.«list.sort» ⟨[.ref a], []⟩) P E s := by
 rw [list_sort_plain]
 refine wpAny_bind (listItems_at ho rfl ?_)
 refine wpAny_bind (listUpdate_at ho rfl ?_ (by rw [ztb, sizeLine_eq]; lia) (zwv _))
 obtain ⟨e1, ho1⟩ : ∃ e1, (s.heap.update a (zws fun _ => #[])).get? a = some (seqObj "list" #[] e1) := ⟨_, get?_update_seq ho (fun _ => #[])⟩
 refine wpAny_bind (seqEpoch_at ho1 rfl ?_)
 refine wpAny_bind (wpAny_newTuple ?_ (by show vs.length ≤ _; rw [sizeLine_eq]; lia))
 refine wpAny_bind (wpAny_newList ?_ (zwv _))
 refine wpAny_holding ?_
 have ho6 : (((s.heap.update a (zws fun _ => #[])).push (seqObj "tuple" vs.toArray 0)).push (seqObj "list" #[] 0)).get? a = some (seqObj "list" #[] e1) := zwk _ (zwk _ ho1)
 show wpAny (model prog w) A _ P E { s with heap := ((s.heap.update a (zws fun _ => #[])).push (seqObj "tuple" vs.toArray 0)).push (seqObj "list" #[] 0) }
 dsimp only
 have hn2 : vs.toArray.size < 2 := by rw [ztb]; assumption
 rw [if_pos hn2, if_pos hn2]
 refine wpAny_bind (wpAny_pure ?_)
 rw [StateT.run_pure]
 refine wpAny_bind (wpAny_pure ?_)
 dsimp only
 have hout : (arrOf (SortSt.mk' general' (vs.toArray.zip vs.toArray) #[] 7 none)).map (·.2) = vs.toArray := by
  show (vs.toArray.zip vs.toArray).map (·.2) = vs.toArray
  apply zxl.mp
  simp [zup]
 rw [hout]
 refine wpAny_bind (seqEpoch_at ho6 rfl ?_)
 refine wpAny_bind (listUpdate_at ho6 rfl ?_ (zwv _) (by rw [ztb, sizeLine_eq]; lia))
 simp only [bne_self_eq_false, zxu, if_false]
 exact wpAny_pure h
theorem zfr {l : Addr} {vs : List Value} {out : Array Value} {Q : Value → Shared → Prop} (hl : s.heap.IsList l vs.toArray) (h6 : vs.length ≤ 6)
  (hs : ∀ (A : Around) (s1 : Shared) a n (P : PySem.Fin → Shared → Prop) (E : Value → Shared → Prop), s1.heap.get? a = some (seqObj "list" vs.toArray n) → (∀ b o, s.heap.get? b = some o → b ≠ a ∧ s1.heap.get? b = some o) →
   P (.done (.ret .none)) { s1 with heap := sortedHeap s1.heap a vs out } → wpAny (model prog w) A (Builtin.«list.sort» ⟨[.ref a], []⟩) P E s1)
  (h : ∀ h' c, (∀ b o, s.heap.get? b = some o → h'.get? b = some o) → h'.get? (s.heap.objs.size + 1) = some (lst out c) → Q (.ref (s.heap.objs.size + 1)) { s with heap := h' }) :
  wpAny (model prog w) A (call (.builtin "sorted") [.ref l]) Q E s := by
 refine Calls.call_function_entry kind_sorted plain_sorted entry_sorted (args_sorted1 _) ?_
 unfold Builtin.«sorted»
 refine wpAny_bind (m := checkCount "sorted" 1 1 _) (wpAny_pure ?_)
 refine wpAny_bind (collect_list hl ?_ (by rw [sizeLine_eq]; lia))
 refine wpAny_bind (wpAny_newList ?_ (by rw [sizeLine_eq]; lia))
 have hsz : ((s.heap.push (seqObj "list" #[] 0)).update s.heap.objs.size (zws (· ++ vs.toArray))).objs.size = s.heap.objs.size + 1 := by
  rw [zwq, size_push']
 have hoL : (((s.heap.push (seqObj "list" #[] 0)).update s.heap.objs.size (zws (· ++ vs.toArray))).push (seqObj "list" vs.toArray 0)).get? (s.heap.objs.size + 1) = some (seqObj "list" vs.toArray 0) := by
  rw [← hsz]; exact zwl _ rfl
 have keep : ∀ b o, s.heap.get? b = some o → b ≠ s.heap.objs.size + 1 ∧ (((s.heap.push (seqObj "list" #[] 0)).update s.heap.objs.size (zws (· ++ vs.toArray))).push (seqObj "list" vs.toArray 0)).get? b = some o := fun b o q => by
  have hlt : b < s.heap.objs.size := zwm q
  rw [zwp _ _ _ (by rw [hsz]; exact zwu (zw4 hlt)), zwr _ _ _ _ (zwu hlt), zwp _ _ _ (zwu hlt)]
  exact ⟨zwu (zw4 hlt), q⟩
 show wpAny _ _ _ _ _ { s with heap := ((s.heap.push (seqObj "list" #[] 0)).update s.heap.objs.size (zws (· ++ vs.toArray))).push (seqObj "list" vs.toArray 0) }
 rw [hsz]
 obtain ⟨c, hc⟩ := zns vs out hoL
 refine wpAny_bind (wpAny_holding (wpAny_call_entry slot_list_sort ⟨_, hoL, rfl⟩ entry_list_sort (hs _ _ _ _ _ _ hoL keep ⟨_, rfl, ?_⟩) (args_list_sort _)))
 exact wpAny_pure ⟨_, rfl, h _ c (fun b o q => zjz vs out (keep b o q).1 (keep b o q).2) hc⟩
end
noncomputable section
noncomputable def zoz (zs : List (List Int)) (l : List MV) : List MV := (srt zs).map fun i => l.getD i .none
noncomputable def b.sorted (args : List MV) (H : St) : Option (MV × St) := zbw args fun v => jq v fun i => y4 H[i]? fun l => if l.length < 2 then some (.ref H.length, H ++ [.list l]) else if l.length ≤ 6 then (zdo true l).map fun zs => (.ref H.length, H ++ [.list (zoz zs l)]) else none
end
theorem RVs.perm {base : Heap} {φ : wz} {h : Heap} {l : List MV} {vs : List Value} (r : RVs base φ h l vs) : ∀ p : List Nat, RVs base φ h (p.map fun i => l.getD i .none) (p.map fun i => vs.getD i .none)
 | [] => .nil
 | i :: p => by
  refine .cons ?_ (r.perm p)
  show RV base φ h (l.getD i .none) (vs.getD i .none)
  cases e : l[i]? with
  | none =>
   have e2 : vs[i]? = none := by rw [ztk] at e ⊢; rw [← r.length]; exact e
   rw [zsz, zsz, e, e2]; exact .none
  | some m =>
   obtain ⟨y, e2, q⟩ := r.get e
   rw [zsz, zsz, e, e2]; exact q
theorem zos {W : Wd} : CB W (.builtin "sorted") b.sorted := by
 intro A φ args H s v H' ys hb hA hu S r
 refine zbw.i hb fun v1 ev h1 => jq.i h1 fun i ei hb2 => y4.i hb2 fun l hl hb3 => ?_
 subst ev ei
 obtain ⟨_, rfl, q⟩ := r.one_inv
 obtain ⟨a, vs, m, rfl, ha, hg, rl⟩ := S.list_of hl q
 have hlen := rl.length
 have hL : s.heap.IsList a vs.toList.toArray := by rw [zxj]; exact ⟨_, hg, rfl, _, rfl⟩
 by_cases h2 : l.length < 2
 ·rw [if_pos h2] at hb3
  refine inj2 ?_ hb3
  refine zfr (out := vs) hL (by lia) (fun A s1 a n P E g k hP => zle g (by lia) (by rw [zxj]; exact hP)) fun h' c k e => ?_
  exact .of (zas (t := s.toks) S k (jp (zwy _)) e rl)
 rw [if_neg h2] at hb3
 refine ja hb3 fun h6 hb4 => ?_
 obtain ⟨zs, hz, e⟩ := zvv.mp hb4
 cases e
 refine zfr (out := ztp ((srt zs).map fun i => vs.toList.getD i .none)) hL (by lia) (fun A s1 a n P E g k hP => zlf (tup := true) (zs := zs) g (fun h' k' => zhi hz (rl.mono zsw fun b o e _ => k' b o (k b o e).1 (k b o e).2)) (by lia) (by lia) fun _ => hP) fun h' c k e => ?_
 exact .of (zas (t := s.toks) S k (jp (zwy _)) e (rl.perm _))
end Mine
namespace Mine
noncomputable def zsd (N : List (Addr × Obj)) (φ : wz) (h : Heap) : Prop := ∀ p ∈ N, h.get? p.1 = some p.2 ∧ p.1 ∉ φ.map (·.2)
theorem ju.out {φ φ' : wz} {T : List Addr} {h h' : Heap} (P : ju φ φ' T h h') {a : Addr} {o : Obj} (g : h.get? a = some o) (ha : a ∉ φ.map (·.2)) : a ∉ φ'.map (·.2) := fun q => by
 obtain ⟨p, hp, rfl⟩ := zso.mp q
 rcases P.fresh p hp with r | r
 ·exact ha (zs5 r)
 ·rw [g] at r; cases r
theorem zsd.post {N : List (Addr × Obj)} {φ φ' : wz} {T : List Addr} {h h' : Heap} (X : zsd N φ h) (P : ju φ φ' T h h') (hT : ∀ p ∈ N, p.1 ∉ T) : zsd N φ' h' := fun p hp =>
 ⟨P.keep _ _ (X p hp).1 (hT p hp) (X p hp).2, P.out (X p hp).1 (X p hp).2⟩
section
variable {W : Wd}
structure zo7 (W : Wd) (k : Nat) (fv : Value) (g : MV → St → Option (MV × St)) (φ0 : wz) (N : List (Addr × Obj)) : Prop where
 run : ∀ A φ x H s v H' y, g x H = some (v, H') → zal k A → φ0 <+: φ → zsd N φ s.heap → Sim W φ H s.heap → RV W.base φ s.heap x y →
  wpAny (model W.prog W.w) A (call fv [y]) (QE W φ H' s v) NoE s
structure KI (W : Wd) (φ0 : wz) (N : List (Addr × Obj)) (kS : Addr) (φ : wz) (H : St) (h : Heap) : Prop where
 sim : Sim W φ H h
 pre : φ0 <+: φ
 held : zsd N φ h
 kout : kS ∉ φ.map (·.2)
 kbase : W.base.get? kS = none
 kN : ∀ p ∈ N, p.1 ≠ kS
noncomputable def zbm (g : MV → St → Option (MV × St)) : List MV → St → Option (List MV × St)
 | [], H => some ([], H)
 | v :: l, H => bnd (g v H) fun k H => bnd (zbm g l H) fun ks H => some (k :: ks, H)
theorem KI.call {φ0 φ φ' : wz} {N : List (Addr × Obj)} {kS : Addr} {H H' : St} {s s' : Shared} {o : Obj} (I : KI W φ0 N kS φ H s.heap) (E : EP W φ φ' H' [] s s') (g : s.heap.get? kS = some o) : KI W φ0 N kS φ' H' s'.heap ∧ s'.heap.get? kS = some o :=
 ⟨⟨E.sim, I.pre.trans E.post.ext, I.held.post E.post fun _ _ => nofun, E.post.out g I.kout, I.kbase, I.kN⟩, E.post.keep _ _ g nofun I.kout⟩
theorem zhf {φ : wz} {H : St} {h h' : Heap} {a : Addr} (S : Sim W φ H h) (ha : a ∉ φ.map (·.2)) (hb : W.base.get? a = none) (hs : zwn a h h') (hf : ∀ o, h.get? a = some o → qo o = false) (hz : ∃ o, h'.get? a = some o) :
  Sim W φ H h' ∧ ju φ φ [a] h h' := by
 have P : ju φ φ [a] h h' := zdm hs (.inl (.head _)) hf hz
 refine ⟨S.keep P (fun b q => by rw [zsq.mp q]; exact ⟨ha, hb⟩) fun b o e q => (hs.2 b fun r => ha (r ▸ q)).trans e, P⟩
theorem KI.push {φ0 φ : wz} {N : List (Addr × Obj)} {kS : Addr} {H : St} {h h' : Heap} {xs : Array Value} {e : Nat} (I : KI W φ0 N kS φ H h) (g : h.get? kS = some (seqObj "list" xs e)) (hs : zwn kS h h') (hz : ∃ o, h'.get? kS = some o) :
  KI W φ0 N kS φ H h' ∧ ju φ φ [kS] h h' := by
 obtain ⟨S, P⟩ := zhf I.sim I.kout I.kbase hs (fun o q => by rw [g] at q; cases q; rfl) hz
 exact ⟨⟨S, I.pre, I.held.post P fun p hp q => I.kN p hp (zsq.mp q), I.kout, I.kbase, I.kN⟩, P⟩
theorem zn7 {A : Around} {E : Value → Shared → Prop} {k : Nat} {fv : Value} {g : MV → St → Option (MV × St)} {φ0 : wz} {N : List (Addr × Obj)} {kS : Addr} {body : Value → PUnit → Sem (ForInStep PUnit)} (K : zo7 W k fv g φ0 N) (R : zal k A)
  (hb : ∀ (y : Value) (ks : List Value) (s : Shared) (C : Shared → Prop), ks.length < 64 → wpAny (model W.prog W.w) A (call fv [y]) (fun z s1 => ∃ e, s1.heap.get? kS = some (seqObj "list" ks.toArray e) ∧ C { s1 with heap := s1.heap.update kS (zws (·.push z)) }) NoE s →
   wpAny (model W.prog W.w) A (body y ⟨⟩) (fun r s' => r = .yield ⟨⟩ ∧ C s') E s) :
  ∀ (l : List MV) {xs ks : List Value} {got kl : List MV} {φ : wz} {H H' : St} {s : Shared} {e : Nat}, zbm g l H = some (kl, H') → ks.length + l.length < 64 → KI W φ0 N kS φ H s.heap → RVs W.base φ s.heap l xs → RVs W.base φ s.heap got ks →
   s.heap.get? kS = some (seqObj "list" ks.toArray e) →
   wpAny (model W.prog W.w) A (forIn xs PUnit.unit body) (fun _ s' => ∃ φ' ks' e', KI W φ0 N kS φ' H' s'.heap ∧ ju φ φ' [kS] s.heap s'.heap ∧ zhv s s' ∧ s'.heap.get? kS = some (seqObj "list" (ztp ks') e') ∧ RVs W.base φ' s'.heap (got ++ kl) ks' ∧ ks'.length = ks.length + l.length) E s := by
 intro l
 induction l with
 | nil =>
  intro xs ks got kl φ H H' s e hr hl I rx rk gk
  rw [rx.nil_inv, List.forIn_nil]
  cases hr
  exact wpAny_pure ⟨φ, ks, e, I, .refl .., .refl s, gk, by rw [zuq]; exact rk, rfl⟩
 | cons v l ih =>
  intro xs ks got kl φ H H' s e hr hl I rx rk gk
  obtain ⟨y, ys, rfl, q, rx⟩ := rx.cons_inv
  obtain ⟨z, H1, h1, h2⟩ := wn hr
  obtain ⟨zs, H2, h3, h4⟩ := wn h2
  cases h4
  rw [ztd] at hl
  rw [zu5]
  refine wpAny_bind (wpAny_mono (hb y ks s (fun s' => ∃ φ1 y1 e1, KI W φ0 N kS φ1 H1 s'.heap ∧ ju φ φ1 [kS] s.heap s'.heap ∧ zhv s s' ∧ s'.heap.get? kS = some (seqObj "list" (ztp (ks ++ [y1])) e1) ∧ RV W.base φ1 s'.heap z y1) (by lia)
   (wpAny_mono (K.run A φ v H s z H1 y h1 R I.pre I.held I.sim q) (fun y1 s1 ⟨φ1, E1, r1⟩ => ?_) fun _ _ x => x)) (fun r s2 hq => ?_) fun _ _ x => x)
  ·obtain ⟨I1, g1⟩ := I.call E1 gk
   have s1' := zwn.update s1.heap kS (zws (·.push y1))
   have ea : (ztp ks).push y1 = ztp (ks ++ [y1]) := by simp
   obtain ⟨c, hc⟩ : ∃ c, (s1.heap.update kS (zws (·.push y1))).get? kS = some (seqObj "list" (ztp (ks ++ [y1])) c) := ⟨_, by rw [← ea]; exact get?_update_seq g1 (·.push y1)⟩
   obtain ⟨I2, P2⟩ := I1.push g1 s1' ⟨_, hc⟩
   exact ⟨e, g1, φ1, y1, c, I2, (E1.post.weaken fun _ h => nomatch h).trans P2, E1.same.trans ⟨_, s1.toks, rfl⟩, hc, r1.post P2⟩
  ·obtain ⟨rfl, φ1, y1, e1, I1, P1, S1, g1, r1⟩ := hq
   show wpAny _ A (forIn ys PUnit.unit body) _ E s2
   refine wpAny_mono (ih (got := got ++ [z]) (ks := ks ++ [y1]) h3 (by rw [zs1, ztt]; lia) I1 (rx.post P1) ((rk.post P1).append (.cons r1 .nil)) g1) (fun _ s3 h => ?_) fun _ _ x => x
   obtain ⟨φ3, ks3, e3, I3, P3, S3, g3, r3, l3⟩ := h
   exact ⟨φ3, ks3, e3, I3, P1.trans P3, S1.trans S3, g3, by rw [zs7] at r3; exact r3, by rw [l3, zs1, ztt, ztd]; lia⟩
end
end Mine
namespace Mine
noncomputable section
noncomputable def sortA {α : Type} (d : α) (b : Bool) (zs : List (List Int)) (l : List α) : List α :=
 if l.length < 2 then l else if b = true then ((srt zs.reverse).map fun i => l.reverse.getD i d).reverse else (srt zs).map fun i => l.getD i d
end
theorem RVs.sortA {base : Heap} {φ : wz} {h : Heap} {l : List MV} {vs : List Value} (r : RVs base φ h l vs) (b : Bool) (zs : List (List Int)) : RVs base φ h (sortA .none b zs l) (sortA .none b zs vs) := by
 unfold Mine.sortA
 rw [r.length]
 by_cases h2 : vs.length < 2
 ·rw [if_pos h2, if_pos h2]; exact r
 ·rw [if_neg h2, if_neg h2]
  cases b with
  | true => exact (r.reverse.perm _).reverse
  | false => exact r.perm _
section
variable {W : Wd} {A : Around} {E : Value → Shared → Prop} {s : Shared} {P : PySem.Fin → Shared → Prop} {φ : wz} {H : St} {kS a : Addr} {b : Bool} {e1 : Nat}
theorem zc0 {st : SortSt} {xs : Array Value} {e : Nat} {out : List Value} (S : Sim W φ H s.heap) (hk1 : kS ∉ φ.map (·.2)) (hk2 : W.base.get? kS = none) (gk : s.heap.get? kS = some (seqObj "list" xs e)) (hx : xs.size ≤ 64)
  (ha1 : a ∉ φ.map (·.2)) (ha2 : W.base.get? a = none) (ga : s.heap.get? a = some (seqObj "list" #[] e1)) (hka : kS ≠ a) (hf : failedOf st = none)
  (ho : (if b = true then ((arrOf st).map (·.2)).reverse else (arrOf st).map (·.2)) = out.toArray) (hl : out.length ≤ 64)
  (h : ∀ h' c, ju φ φ [kS, a] s.heap h' → Sim W φ H h' → h'.get? a = some (lst out.toArray c) → P (.done (.ret .none)) { s with heap := h' }) :
  wpAny (model W.prog W.w) A (ksk_tail a b e1 (.ref kS) st) P E s := by
 have s1 := zwn.update s.heap kS (zws fun _ => (#[] : Array Value))
 refine zvt fun hq0 => ?_
 obtain ⟨c1, g1⟩ : ∃ c, (s.heap.update kS (zws fun _ => (#[] : Array Value))).get? kS = some (seqObj "list" #[] c) := ⟨_, get?_update_seq gk fun _ => #[]⟩
 obtain ⟨S1, P1⟩ := zhf S hk1 hk2 s1 (fun o q => by rw [gk] at q; cases q; rfl) ⟨_, g1⟩
 have ga1 : (s.heap.update kS (zws fun _ => (#[] : Array Value))).get? a = some (seqObj "list" #[] e1) := (s1.2 a hka.symm).trans ga
 have s2 := zwn.update (s.heap.update kS (zws fun _ => (#[] : Array Value))) a (zws fun _ => out.toArray)
 obtain ⟨c2, g2⟩ : ∃ c, ((s.heap.update kS (zws fun _ => (#[] : Array Value))).update a (zws fun _ => out.toArray)).get? a = some (seqObj "list" out.toArray c) := ⟨_, get?_update_seq ga1 fun _ => out.toArray⟩
 obtain ⟨S2, P2⟩ := zhf S1 ha1 ha2 s2 (fun o q => by rw [ga1] at q; cases q; rfl) ⟨_, g2⟩
 refine hq0 ?_
 unfold ksk_tail
 try dsimp only
 refine wpAny_bind (listUpdate_at gk rfl ?_ (by rw [sizeLine_eq]; lia) (zwv _))
 refine wpAny_bind (wpAny_letGo ?_)
 refine wpAny_bind (seqEpoch_at ga1 rfl ?_)
 rw [ho]
 refine wpAny_bind (listUpdate_at ga1 rfl ?_ (zwv _) (by rw [ztb, sizeLine_eq]; lia))
 rw [hf]
 simp only [bne_self_eq_false, zxu, if_false]
 exact wpAny_pure (h _ c2 ((P1.weaken fun _ q => by rw [zsq.mp q]; exact .head _).trans (P2.weaken fun _ q => by rw [zsq.mp q]; exact .tail _ (.head _))) S2 g2)
theorem zmh : ∀ {ks vs : List Value}, ks.length = vs.length → (ks.toArray.zip vs.toArray).reverse = ks.reverse.toArray.zip vs.reverse.toArray := by
 intro ks vs h
 apply zxl.mp
 simp only [Array.toList_reverse, Array.toList_zip]
 rw [zu7, zu7, List.reverse_zipWith h]
theorem zls {tup : Bool} {ks vs : List Value} {zs : List (List Int)} {e : Nat} (K : g8 tup s.heap ks zs) (hl : ks.length = vs.length) (h6 : vs.length ≤ 6)
  (S : Sim W φ H s.heap) (hk1 : kS ∉ φ.map (·.2)) (hk2 : W.base.get? kS = none) (gk : s.heap.get? kS = some (seqObj "list" ks.toArray e))
  (ha1 : a ∉ φ.map (·.2)) (ha2 : W.base.get? a = none) (ga : s.heap.get? a = some (seqObj "list" #[] e1)) (hka : kS ≠ a)
  (h : ∀ h' c, ju φ φ [kS, a] s.heap h' → Sim W φ H h' → h'.get? a = some (lst (sortA .none b zs vs).toArray c) → P (.done (.ret .none)) { s with heap := h' }) :
  wpAny (model W.prog W.w) A (ksk_end a b vs.toArray e1 (.ref kS) ks.toArray) P E s := by
 have step : ∀ t : Sem PySem.Fin, wpAny (model W.prog W.w) A t P E s → wpAny (model W.prog W.w) A (if b = true then (do let _ ← rule "list.sort.reverse"; t) else t) P E s := by
  intro t ht
  split
  ·exact wpAny_bind (wpAny_rule ht)
  ·exact ht
 unfold ksk_end
 try dsimp only
 refine step _ ?_
 have hzl : zs.length = vs.length := K.len.symm.trans hl
 by_cases h2 : vs.length < 2
 ·have h2' : vs.toArray.size < 2 := by rw [ztb]; exact h2
  rw [if_pos h2', if_pos h2']
  refine wpAny_bind (wpAny_pure ?_)
  rw [StateT.run_pure]
  refine wpAny_bind (wpAny_pure ?_)
  try dsimp only
  have e : sortA .none b zs vs = vs := by unfold sortA; rw [if_pos h2]
  rw [e] at h
  refine zc0 S hk1 hk2 gk (by rw [ztb]; lia) ha1 ha2 ga hka rfl ?_ (by lia) h
  have hsnd : (ks.toArray.zip vs.toArray).map (·.2) = vs.toArray := by
   apply zxl.mp
   simp [zup, hl]
  cases b with
  | false => exact hsnd
  | true =>
   rw [if_pos rfl]
   show (((if true = true then (ks.toArray.zip vs.toArray).reverse else ks.toArray.zip vs.toArray)).map (·.2)).reverse = vs.toArray
   rw [if_pos rfl, zmh hl]
   apply zxl.mp
   simp [zup, hl]
 ·have h2' : ¬ vs.toArray.size < 2 := by rw [ztb]; exact h2
  rw [if_neg h2', if_neg h2']
  refine wpAny_bind (zid K (by lia) ?_)
  have e : sortA .none b zs vs = if b = true then ((srt zs.reverse).map fun i => vs.reverse.getD i .none).reverse else (srt zs).map fun i => vs.getD i .none := by unfold sortA; rw [if_neg h2]
  rw [e] at h
  cases b with
  | false =>
   simp only [zxu, if_false] at h ⊢
   refine wpAny_bind (wpAny_mono (zl6 K hl (by lia) h6) ?_ fun _ _ x => x)
   rintro ⟨⟨⟩, st⟩ s' ⟨rfl, hf, hout, hsl⟩
   dsimp only
   exact zc0 S hk1 hk2 gk (by rw [ztb]; lia) ha1 ha2 ga hka hf (by rw [if_neg (by decide)]; exact hout) (by rw [zsk]; lia) h
  | true =>
   simp only [if_true] at h ⊢
   rw [zmh hl]
   refine wpAny_bind (wpAny_mono (zl6 (ks := ks.reverse) (vs := vs.reverse) K.rev (by simp [hl]) (by simp; lia) (by simp; assumption)) ?_ fun _ _ x => x)
   rintro ⟨⟨⟩, st⟩ s' ⟨rfl, hf, hout, hsl⟩
   dsimp only
   refine zc0 S hk1 hk2 gk (by rw [ztb]; lia) ha1 ha2 ga hka hf ?_ ?_ h
   ·rw [if_pos rfl, hout]; simp
   ·rw [zub] at hsl; simp; lia
theorem zft {tup : Bool} {k : Nat} {fv : Value} {g : MV → St → Option (MV × St)} {N : List (Addr × Obj)} {l kl : List MV} {vs : List Value} {zs : List (List Int)} (K : zo7 W k fv g φ N) (R : zal k A) (hN : (a, seqObj "list" #[] e1) ∈ N)
  (I : KI W φ N kS φ H s.heap) (gk : s.heap.get? kS = some (seqObj "list" #[] 0)) (ha2 : W.base.get? a = none) (hr : zbm g l H = some (kl, H)) (hz : zdo tup kl = some zs) (rl : RVs W.base φ s.heap l vs) (h6 : l.length ≤ 6)
  (h : ∀ h' tk c, ju φ φ [kS, a] s.heap h' → Sim W φ H h' → h'.get? a = some (lst (sortA .none b zs vs).toArray c) → P (.done (.ret .none)) { s with heap := h', toks := tk }) :
  wpAny (model W.prog W.w) A (ksk_rest a fv b vs.toArray e1 (.ref kS)) P E s := by
 have hlen := rl.length
 unfold ksk_rest
 refine wpAny_bind (wpAny_rule ?_)
 first
  | rw [List.forIn_toArray]
  | (rw [← zxp]; simp only [List.toList_toArray])
  | rw [← zxp]
 refine wpAny_bind (wpAny_mono (zn7 (ks := []) (got := []) K R (fun y ks s1 C hks hc => ?_) l hr (by simp; lia) I rl .nil gk) (fun _ s1 hq => ?_) fun _ _ x => x)
 ·refine wpAny_bind (wpAny_attempt (wpAny_mono hc (fun z s2 ⟨e, g2, hC⟩ => ?_) fun _ _ hF => hF.elim))
  try dsimp only
  refine wpAny_bind (listUpdate_at g2 rfl ?_ (by rw [ztb, sizeLine_eq]; lia) (zw1 (Nat.le_of_eq (Array.size_push ..)) (by rw [ztb, sizeLine_eq]; lia)))
  exact wpAny_pure ⟨rfl, hC⟩
 ·obtain ⟨φ', ks', e', I', P', ⟨h1, t1, rfl⟩, gk', rk, lk⟩ := hq
  have hφ : φ' = φ := by
   have h1 := I'.sim.len; have h2 := I.sim.len
   exact (P'.ext.eq_of_length (by lia)).symm
  subst hφ
  try dsimp only
  refine wpAny_bind (listItems_at gk' rfl ?_)
  have ga := (I'.held _ hN)
  rw [List.nil_append] at rk
  refine zls (s := { s with heap := h1, toks := t1 }) (zhi hz rk) (by rw [lk, zu8]; lia) (by lia) I'.sim I'.kout I'.kbase gk' ga.2 ha2 ga.1 (fun q => I'.kN _ hN q.symm) fun h' c Pq Sq gq => h h' t1 c ?_ Sq gq
  exact (P'.weaken fun _ q => by rw [zsq.mp q]; exact .head _).trans Pq
end
end Mine
namespace Mine
noncomputable section
noncomputable def zqz (g : MV → St → Option (MV × St)) (l : List MV) (H : St) : Option (List MV) := (zbm g l H).bind fun p => open Classical in if p.2 = H then some p.1 else none
noncomputable def xy (b tup : Bool) (g : MV → St → Option (MV × St)) (l : List MV) (H : St) : Option (List MV) := if l.length ≤ 6 then (zqz g l H).bind fun kl => (zdo tup kl).map fun zs => sortA .none b zs l else none
noncomputable def zbc (Df : DF) (f : DE) : DE := fun lo H => bnd (f lo H) fun v H => jq v fun i => y4 H[i]? fun l => (xy false true (fun x H => Df [x] H) l H).map fun l' => (.ref H.length, H ++ [.list l'])
end
theorem zn8 {g : MV → St → Option (MV × St)} {l kl : List MV} {H : St} (h : zqz g l H = some kl) : zbm g l H = some (kl, H) := by
 obtain ⟨⟨k2, H2⟩, e, h⟩ := zvx.mp h
 refine ja h fun e2 h => ?_
 cases h
 have e2 : H2 = H := e2
 rw [e, e2]
theorem zej {b tup : Bool} {g : MV → St → Option (MV × St)} {l l' : List MV} {H : St} (h : xy b tup g l H = some l') :
  l.length ≤ 6 ∧ ∃ kl zs, zbm g l H = some (kl, H) ∧ zdo tup kl = some zs ∧ l' = sortA .none b zs l := by
 refine ja h fun h6 h => ?_
 obtain ⟨kl, e, h⟩ := zvx.mp h
 obtain ⟨zs, hz, e2⟩ := zvv.mp h
 exact ⟨h6, kl, zs, zn8 e, hz, e2.symm⟩
section
variable {W : Wd} {n : Nat} {env : Env} {sl : List (Option Str)} {A : Around}
theorem zp0 {k : Nat} {fv : Value} {Df : DF} {φ0 : wz} {N : List (Addr × Obj)} (F : FS W k fv Df) : zo7 W k fv (fun x H => Df [x] H) φ0 N :=
 ⟨fun A φ x H s v H' y e R _ _ S r => F.call e R S (.cons r .nil)⟩
theorem zks {b : Bool} {s : Shared} {a : Addr} {fv : Value} {vs : List Value} {m : Nat} {P : PySem.Fin → Shared → Prop} {E : Value → Shared → Prop} (ho : s.heap.get? a = some (seqObj "list" vs.toArray m)) (h6 : vs.length ≤ 6)
  (h : ∀ h' e1, s.heap.objs.size ≤ h'.objs.size → (∀ x o, x ≠ a → s.heap.get? x = some o → h'.get? x = some o) → h'.get? a = some (seqObj "list" #[] e1) → h'.get? s.heap.objs.size = some (seqObj "tuple" vs.toArray 0) →
   h'.get? (s.heap.objs.size + 1) = some (seqObj "list" #[] 0) → wpAny (model W.prog W.w) A (ksk_rest a fv b vs.toArray e1 (.ref (s.heap.objs.size + 1))) P E { s with heap := h' }) :
  wpAny (model W.prog W.w) A (ksk_tree a fv b) P E s := by
 have ha : a < s.heap.objs.size := zwm ho
 have s1 := zwn.update s.heap a (zws fun _ => (#[] : Array Value))
 obtain ⟨e1, ho1⟩ : ∃ e1, (s.heap.update a (zws fun _ => (#[] : Array Value))).get? a = some (seqObj "list" #[] e1) := ⟨_, get?_update_seq ho fun _ => #[]⟩
 have hz : (s.heap.update a (zws fun _ => (#[] : Array Value))).objs.size = s.heap.objs.size := zwq ..
 have hkS : ((s.heap.update a (zws fun _ => (#[] : Array Value))).push (seqObj "tuple" vs.toArray 0)).objs.size = s.heap.objs.size + 1 := by rw [size_push', hz]
 unfold ksk_tree
 refine wpAny_bind (listItems_at ho rfl ?_)
 refine wpAny_bind (listUpdate_at ho rfl ?_ (by rw [ztb, sizeLine_eq]; lia) (zwv _))
 refine wpAny_bind (seqEpoch_at ho1 rfl ?_)
 refine wpAny_bind (wpAny_newTuple ?_ (by show vs.length ≤ _; rw [sizeLine_eq]; lia))
 refine wpAny_bind (wpAny_newList ?_ (zwv _))
 refine wpAny_holding ?_
 have := h (((s.heap.update a (zws fun _ => (#[] : Array Value))).push (seqObj "tuple" vs.toArray 0)).push (seqObj "list" #[] 0)) e1 ?_ ?_ ?_ ?_ ?_
 ·rw [← hkS] at this; exact this
 ·rw [size_push', hkS]; lia
 ·exact fun x o hx e => zwk _ (zwk _ ((s1.2 x hx).trans e))
 ·exact zwk _ (zwk _ ho1)
 ·refine zwk _ ?_
  rw [← hz]; exact zwl _ rfl
 ·rw [← hkS]; exact zwl _ rfl
theorem zi0 {k : Nat} {g : Str} {fa : Addr} {Df : DF} {e : Expr} {p pos p2 kp : Pos} {f : DE} (G : Fn W g fa) (F : FS W k (.ref fa) Df) (B : Bl W "sorted" (.builtin "sorted")) (he : SE W n env sl e f) (hk : k + 1 ≤ n)
  (hx : env.kindOf g = some .globalImplicit) (hdb : (g == ("__debug__" : Str)) = false) (hx2 : env.kindOf "sorted" = some .globalImplicit) (hs : starEach [e] env = [(false, eval e env)])
  (hev : eval (.Call (.Name "sorted" p) [e] [⟨some "key", .Name g p2, kp⟩] pos) env = (do callWith pos (← eval (.Name "sorted" p) env) [] (backTo pos (starEach [e] env)) (backToKw pos (keywordEach [⟨some "key", .Name g p2, kp⟩] env)))) :
  SE W n env sl (.Call (.Name "sorted" p) [e] [⟨some "key", .Name g p2, kp⟩] pos) (zbc Df f) := by
 intro A φ lo H s v H' hf R S L
 obtain ⟨v1, H1, h1, h2⟩ := wn hf
 rw [hev]
 refine wpAny_bind (zk3 S L B.glob B.boot B.ne hx2 B.db ?_)
 refine callWith_kw (args_cons (wpAny_mono (he A φ lo H s v1 H1 h1 R S L) (fun y s1 ⟨φ1, E1, r1⟩ => ?_) fun _ _ x => x) hs) (by rw [hs]; rfl) (by rw [hs]; rfl)
 refine args_nil (kws_cons (zdq E1.sim (L.post0 E1.post) G.glob hx hdb (kws_nil ?_)))
 show wpAny (model W.prog W.w) A (call (.builtin "sorted") [y] [(Str.ofString "key", .ref fa)]) _ _ s1
 refine jq.i h2 fun i ei h3 => y4.i h3 fun l hi h4 => ?_
 subst ei
 obtain ⟨l', hl', e⟩ := zvv.mp h4
 cases e
 obtain ⟨h6, kl, zs, hr, hz, rfl⟩ := zej hl'
 have S1 := E1.sim
 obtain ⟨a, vs, m, rfl, ha, hg, rl⟩ := S1.list_of hi r1
 have hlen := rl.length
 have hL : s1.heap.IsList a vs.toList.toArray := by rw [zxj]; exact ⟨_, hg, rfl, _, rfl⟩
 refine call_function_entry_kw kind_sorted plain_sorted entry_sorted (ksk_s1 _ _) ?_
 unfold Builtin.«sorted»
 refine wpAny_bind (m := checkCount "sorted" 1 1 _) (wpAny_pure ?_)
 refine wpAny_bind (collect_list hL ?_ (by rw [sizeLine_eq]; lia))
 refine wpAny_bind (wpAny_newList ?_ (by rw [sizeLine_eq]; lia))
 have hsz : ((s1.heap.push (seqObj "list" #[] 0)).update s1.heap.objs.size (zws (· ++ vs.toList.toArray))).objs.size = s1.heap.objs.size + 1 := by
  rw [zwq, size_push']
 have hoL : (((s1.heap.push (seqObj "list" #[] 0)).update s1.heap.objs.size (zws (· ++ vs.toList.toArray))).push (seqObj "list" vs.toList.toArray 0)).get? (s1.heap.objs.size + 1) = some (seqObj "list" vs.toList.toArray 0) := by
  rw [← hsz]; exact zwl _ rfl
 have keep : ∀ b o, s1.heap.get? b = some o → (((s1.heap.push (seqObj "list" #[] 0)).update s1.heap.objs.size (zws (· ++ vs.toList.toArray))).push (seqObj "list" vs.toList.toArray 0)).get? b = some o := fun b o q => by
  have hlt : b < s1.heap.objs.size := zwm q
  rw [zwp _ _ _ (by rw [hsz]; exact zwu (zw4 hlt)), zwr _ _ _ _ (zwu hlt), zwp _ _ _ (zwu hlt)]
  exact q
 show wpAny _ _ _ _ _ { s1 with heap := ((s1.heap.push (seqObj "list" #[] 0)).update s1.heap.objs.size (zws (· ++ vs.toList.toArray))).push (seqObj "list" vs.toList.toArray 0) }
 rw [hsz]
 generalize ((s1.heap.push (seqObj "list" #[] 0)).update s1.heap.objs.size (zws (· ++ vs.toList.toArray))).push (seqObj "list" vs.toList.toArray 0) = h2 at hoL keep
 have hz2 : s1.heap.objs.size + 1 < h2.objs.size := zwm hoL
 refine wpAny_bind (wpAny_holding (wpAny_call_entry_kw slot_list_sort ⟨_, hoL, rfl⟩ entry_list_sort ?_ (ksk_l1 _ _)))
 show wpAny (model W.prog W.w) A.in1.in1 (Builtin.«list.sort» ⟨[.ref (s1.heap.objs.size + 1)], [(Str.ofString "key", .ref fa)]⟩) _ _ _
 rw [ksk_t1]
 refine zks (W := W) (s := { s1 with heap := h2 }) hoL (by rw [← hlen]; exact h6) fun h3 e1 hle k3 g3 gt gk => ?_
 have old : ∀ b o, s1.heap.get? b = some o → h3.get? b = some o := fun b o q => k3 b o (fun q2 => by have h9 := zwm q; rw [q2] at h9; exact absurd h9 (zw7.mpr (zwy _))) (keep b o q)
 have P3 : ju φ1 φ1 [] s1.heap h3 := zbu old
 have S3 : Sim W φ1 H1 h3 := S1.keep (T := []) P3 (fun _ q => nomatch q) fun b o q _ => old b o q
 have fr : ∀ {x : Addr}, s1.heap.objs.size ≤ x → x ∉ φ1.map (·.2) ∧ W.base.get? x = none := fun {x} hx => by
  have hn := jp (h := s1.heap) hx
  refine ⟨fun q => ?_, ?_⟩
  ·obtain ⟨p, hp, rfl⟩ := zso.mp q
   obtain ⟨o, ho, _⟩ := S1.carrier hp
   rw [hn] at ho; cases ho
  ·cases q : W.base.get? x with
   | none => rfl
   | some o => have := S1.base _ _ q; rw [hn] at this; cases this
 have fa1 := fr (zwy s1.heap.objs.size)
 have fk := fr (x := h2.objs.size + 1) (by lia)
 refine zft (N := [(s1.heap.objs.size + 1, seqObj "list" #[] e1)]) (zp0 F) (R := ?_) (.head _) ⟨S3, zsw, fun p hp => ?_, fk.1, fk.2, fun p hp => ?_⟩ gk fa1.2 hr hz (rl.post P3) h6 fun h4 tk c P4 S4 g4 => ⟨_, rfl, ?_⟩
 ·have := R.2.1; have := R.2.2
  exact ⟨R.1, by show A.depth + k ≤ 600; lia, by show A.units + 1 + 1 + 20 * k ≤ 8000; lia⟩
 ·rw [zsq.mp hp]; exact ⟨g3, fa1.1⟩
 ·rw [zsq.mp hp]; show s1.heap.objs.size + 1 ≠ h2.objs.size + 1; lia
 ·refine wpAny_pure ⟨_, rfl, ?_⟩
  have k4 : ∀ b o, s1.heap.get? b = some o → b ∉ φ1.map (·.2) → h4.get? b = some o := fun b o q hb => by
   have := zwm q
   exact P4.keep b o (old b o q) (fun hm => by
    rcases zss.mp hm with rfl | hm
    ·exact absurd (Nat.lt_trans this (zw4 (zxc hz2))) (zwx _)
    ·have h9 := zsq.mp hm; rw [h9] at this; exact absurd this (zw7.mpr (zwy _))) hb
  have P5 : ju φ1 φ1 [] s1.heap h4 := ⟨zsw, fun _ hp => .inl hp, fun b o q _ hb => k4 b o q hb, fun b o q hf => P4.imm b o (old b o q) hf, fun b o q => P4.alive b o (old b o q)⟩
  have hor : OR W φ1 h4 (.list (sortA .none false zs l)) (s1.heap.objs.size + 1) (s1.heap.objs.size + 1) := ⟨rfl, _, c, g4, (rl.post P5).sortA false zs⟩
  have hn1 : s1.heap.get? (s1.heap.objs.size + 1) = none := jp (zwy _)
  have P6 : ju φ1 (φ1 ++ [(s1.heap.objs.size + 1, s1.heap.objs.size + 1)]) [] s1.heap h4 := ⟨ztj .., fun p hp => by
   rcases zs0.mp hp with q | q
   ·exact .inl q
   ·rw [zsq.mp q]; exact .inr hn1, P5.keep, P5.imm, P5.alive⟩
  refine ⟨φ1 ++ [(s1.heap.objs.size + 1, s1.heap.objs.size + 1)], ⟨S4.new fa1.1 fa1.2 hor, E1.post.trans P6, E1.same.trans ⟨h4, tk, rfl⟩⟩, .ref _ _ (s1.heap.objs.size + 1) ?_⟩
  ·rw [← S4.len]; simp
end
end Mine
namespace Mine
noncomputable def zl2 (φ φ' : wz) : Prop := ∀ (i : Nat) (a d : Addr), φ[i]? = some (a, d) → ∃ d', φ'[i]? = some (a, d')
section
variable {base : Heap} {φ φ' : wz} {h h' : Heap}
theorem RV.alike (e : zl2 φ φ') (k : ∀ a o, h.get? a = some o → qo o = true → h'.get? a = some o) {v : MV} {x : Value} (r : RV base φ h v x) : RV base φ' h' v x :=
 RV.rec (motive_1 := fun v x _ => RV base φ' h' v x) (motive_2 := fun l xs _ => RVs base φ' h' l xs) .none .bool .int (fun i a d q => by obtain ⟨d', q'⟩ := e i a d q; exact .ref i a d' q') (fun l a vs q _ r => .tup l a vs (zfk k q) r)
  .frz (fun a b c r t u v q => .rng a b c r t u v (k _ _ q rfl)) .nil (fun _ _ q r => .cons q r) r
theorem RVs.alike (e : zl2 φ φ') (k : ∀ a o, h.get? a = some o → qo o = true → h'.get? a = some o) {v : List MV} : ∀ {x : List Value}, RVs base φ h v x → RVs base φ' h' v x := by
 induction v with
 | nil => intro x r; rw [r.nil_inv]; exact .nil
 | cons m v ih => intro x r; obtain ⟨y, ys, rfl, q, r⟩ := r.cons_inv; exact .cons (q.alike e k) (ih r)
theorem OR.alike {W : Wd} (e : zl2 φ φ') (k : ∀ a o, h.get? a = some o → qo o = true → h'.get? a = some o) {o : MO} {a d : Addr} (hd : ∀ x, h.get? d = some x → h'.get? d = some x) (q : OR W φ h o a d) : OR W φ' h' o a d := by
 cases o with
 | list l =>
  obtain ⟨rfl, vs, n, h1, h2⟩ := q
  exact ⟨rfl, vs, n, hd _ h1, h2.alike e k⟩
 | obj c l =>
  cases hc : W.cls c with
  | some C =>
   simp only [OR, hc] at q ⊢
   obtain ⟨h0, h1, h2, m, h3, h4⟩ := q
   refine ⟨k _ _ h0 rfl, h1, h2, m, zqi h3 hd, h4.1, fun i x hx => ?_, h4.2.2⟩
   have := h4.2.1 i x hx
   cases hl : l[i]? with
   | none => rw [hl] at this; exact this
   | some v =>
    rw [hl] at this
    obtain ⟨y, e1, r⟩ := this
    exact ⟨y, e1, r.alike e k⟩
  | none =>
   simp only [OR, hc] at q ⊢
   obtain ⟨h0, kvs, h1, h2, h3⟩ := q
   exact ⟨h0, kvs, h1.at hd, h2, h3.alike e k⟩
 | junk => obtain ⟨x, h1, h2⟩ := q; exact ⟨x, k _ _ h1 h2, h2⟩
theorem zit {j : Nat} {a d d' : Addr} (hj : φ[j]? = some (a, d)) : zl2 φ (φ.set j (a, d')) := fun i x y q => by
 rw [zs8]
 by_cases e : j = i
 ·subst e
  rw [hj] at q; refine inj2 ?_ q
  rw [if_pos rfl, if_pos (zsl.mp hj).1]
  exact ⟨d', rfl⟩
 ·rw [if_neg e]; exact ⟨y, q⟩
theorem zkb {j : Nat} {a d d' : Addr} (hj : φ[j]? = some (a, d)) : zl2 (φ.set j (a, d')) φ := fun i x y q => by
 rw [zs8] at q
 by_cases e : j = i
 ·subst e
  rw [if_pos rfl, if_pos (zsl.mp hj).1] at q
  refine inj2 ?_ q; exact ⟨d, hj⟩
 ·rw [if_neg e] at q; exact ⟨y, q⟩
theorem zh7 {α : Type} {l : List α} (nd : l.Nodup) {x : α} (hx : x ∉ l) : ∀ j : Nat, (l.set j x).Nodup := by
 induction l with
 | nil => intro j; exact nd
 | cons y l ih =>
  intro j
  obtain ⟨h1, h2⟩ := zs4.mp nd
  cases j with
  | zero => exact zs4.mpr ⟨fun q => hx (.tail _ q), h2⟩
  | succ j =>
   refine zs4.mpr ⟨fun q => ?_, ih h2 (fun q => hx (.tail _ q)) j⟩
   rcases zur q with q | q
   ·exact h1 q
   ·exact hx (q ▸ .head _)
end
section
variable {W : Wd} {n : Nat} {env : Env} {sl : List (Option Str)} {A : Around} {φ : wz} {H : St} {h h' : Heap}
theorem Sim.aside (S : Sim W φ H h) {j : Nat} {a T : Addr} {x : Obj} (hj : φ[j]? = some (a, a)) (ha : ∀ o, h.get? a = some o → qo o = false) (hk : ∀ b o, b ≠ a → h.get? b = some o → h'.get? b = some o)
  (hT : T ∉ φ.map (·.2)) (hTb : W.base.get? T = none) (gT : h'.get? T = some x) (hx : qo x = true) : Sim W (φ.set j (a, T)) (H.set j .junk) h' := by
 have hlt := (zsl.mp hj).1
 have imm : ∀ b o, h.get? b = some o → qo o = true → h'.get? b = some o := fun b o q hf => hk b o (fun e => by subst e; rw [ha o q] at hf; cases hf) q
 refine ⟨fun b o q => hk b o (fun e => ?_) (S.base b o q), by rw [zsx, zsx]; exact S.len, ?_, fun p hp => ?_, fun i o q => ?_⟩
 ·have := S.out (a, a) (zsm hj)
  rw [← e, q] at this; cases this
 ·rw [zt7]; exact zh7 S.nodup hT j
 ·rcases zur hp with q | q
  ·exact S.out p q
  ·subst q; exact hTb
 ·by_cases e : j = i
  ·subst e
   rw [zsy (S.len ▸ hlt)] at q
   refine inj1 ?_ q
   exact ⟨a, T, zsy hlt, x, gT, hx⟩
  ·rw [zsn e] at q
   obtain ⟨a', d', e1, o1⟩ := S.obj i o q
   refine ⟨a', d', by rw [zsn e]; exact e1, o1.alike (zit hj) imm fun y hy => hk d' y (fun e2 => ?_) hy⟩
   subst e2
   refine e (qm S.nodup (a := d') ?_ ?_)
   ·rw [zsu, hj]; rfl
   ·rw [zsu, e1]; rfl
theorem Sim.again (S0 : Sim W φ H h) {j : Nat} {a T : Addr} {o : MO} (hj : φ[j]? = some (a, a)) (S : Sim W (φ.set j (a, T)) (H.set j .junk) h') (q : OR W φ h' o a a) : Sim W φ (H.set j o) h' := by
 have hlt := (zsl.mp hj).1
 refine ⟨S.base, by rw [zsx]; exact S0.len, S0.nodup, S0.out, fun i x e => ?_⟩
 by_cases e2 : j = i
 ·subst e2
  rw [zsy (S0.len ▸ hlt)] at e
  refine inj1 ?_ e
  exact ⟨a, a, hj, q⟩
 ·rw [zsn e2] at e
  obtain ⟨a', d', e1, q'⟩ := S.obj i x (by rw [zsn e2]; exact e)
  rw [zsn e2] at e1
  exact ⟨a', d', e1, q'.alike (zkb hj) (fun _ _ q _ => q) fun _ q => q⟩
structure Bm (W : Wd) (c : Nat) (C : Addr) (x : Str) (fa : Addr) : Prop where
 cls : W.cls c = some C
 plain : plainGet W.K C x = true
 hasd : hasDictIn W.K C = true
 find : findIn W.K (.ref C) x = some (some (.ref fa))
 get : specialIn W.K (.ref fa) "__get__" = some (some (.builtin "function.__get__"))
 set : takesIn W.K (.ref fa) = some false
 copied : copiedNames.contains x = false
 fn : typeIn W.K (.ref fa) = some (.type "function")
 nf : x ∉ W.names c
theorem zn4 {x : Str} {es : Array DictEntry} {ep : Nat} {o : Obj} (hd : o.data = .dict es ep) (hs : StrKeys es) (hn : nsFind es x = none) : lookIn x o = some none := by
 unfold lookIn
 rw [hd]
 dsimp only
 unfold nsFind findBy at hn
 rw [← zxn] at hn
 have hf : es.toList.find? (·.key.isStr x) = none := by
  cases q : es.toList.find? (·.key.isStr x) with
  | none => rfl
  | some e => have hn' : (es.toList.find? (fun e => e.key.isStr x)).map (·.val) = none := hn; rw [q] at hn'; cases hn'
 rw [hf]
 have : es.toList.any (·.refKey) = false := by
  rw [List.any_eq_false]
  intro e he
  obtain ⟨n, t, hk⟩ := hs e (zxm.mp he)
  simp [DictEntry.refKey, hk]
 dsimp only
 rw [this]; rfl
theorem zhp {c : Nat} {C : Addr} {x : Str} {fa : Addr} (B : Bm W c C x fa) {s : Shared} {i : Nat} {l : List MV} {y : Value} {ex : Bool} {Q : Value → Shared → Prop} {E : Value → Shared → Prop}
  (S : Sim W φ H s.heap) (hi : H[i]? = some (.obj c l)) (r : RV W.base φ s.heap (.ref i) y)
  (q : ∀ a d, y = .ref a → φ[i]? = some (a, d) → Q (.ref s.heap.objs.size) { s with heap := s.heap.push (methodObj (.ref fa) (.ref a)), toks := s.toks + 1 }) : wpAny (model W.prog W.w) A (getAttr y x ex) Q E s := by
 refine zvt fun hq0 => ?_
 obtain ⟨a, d, rfl, ha, o⟩ := S.obj_of hi r
 obtain ⟨m, I, fm, g1, n1, n2⟩ := zgt B.cls o
 have X := W.KX.keeps S.base
 simp only [OR, B.cls] at o
 obtain ⟨h0, h1, h2, m', ⟨od, es, ep, e1, e2, e3, e4, e5⟩, h4⟩ := o
 have hl : lookIn x od = some none := zn4 e2 e3 ((e5 x).trans (h4.2.2 x B.nf))
 refine hq0 ?_
 refine get_bind (od := some od) X ⟨h0, rfl, rfl, e1⟩ (plainGet_of B.plain).1 (findObj_fn B.hasd B.find B.get B.set B.copied hl) (plainGet_of B.plain).2 ?_
 exact wpAny_call (fn_get (s := { s with toks := s.toks + 1 }) X B.fn (handed_on rfl (q a d rfl ha)))
theorem zj4 {k i : Nat} {fa a d qa : Addr} {Df : DF} {φ0 : wz} {N : List (Addr × Obj)} (F : FS W k (.ref fa) Df) (hi : φ0[i]? = some (a, d)) (hN : (qa, methodObj (.ref fa) (.ref a)) ∈ N) : zo7 W k (.ref qa) (fun x H => Df [.ref i, x] H) φ0 N := by
 refine ⟨fun A φ x H s v H' y e R hp hh S r => ?_⟩
 refine wpAny_call (method_call (hh _ hN).1 ?_)
 refine codeAny_mono (F A φ [.ref i, x] H s v H' [.ref a, y] e R S (.cons (.ref _ _ d (xg hp hi)) (.cons r .nil))) fun r s' ⟨y, φ', h1, h2, h3⟩ => ?_
 subst h1
 exact ⟨φ', h2, h3⟩
end
end Mine
namespace Mine
noncomputable section
noncomputable def ze6 (c : Nat) (Df : DF) (f fo : DE) : DE := fun lo H => bnd (f lo H) fun v H => if zjq v H then bnd (fo lo H) fun u H => if zo4 c u H then (jq v fun j => jq u fun i => y4 H[j]? fun l => (xy true false (fun x H => Df [.ref i, x] H) l (H.set j .junk)).map fun l' => (.none, H.set j (.list l'))) else none else none
end
section
variable {W : Wd} {n : Nat} {env : Env} {sl : List (Option Str)} {A : Around}
theorem zrb {k c i j : Nat} {fa qa x d : Addr} {Df : DF} {φ : wz} {H : St} {s : Shared} {l l' fl : List MV} {y : Value} {Q : Value → Shared → Prop} {E : Value → Shared → Prop} (F : FS W k (.ref fa) Df) (R : zal (k + 1) A)
  (S : Sim W φ H s.heap) (hj : H[j]? = some (.list l)) (hi : H[i]? = some (.obj c fl)) (r : RV W.base φ s.heap (.ref j) y) (hx : φ[i]? = some (x, d)) (gq : s.heap.get? qa = some (methodObj (.ref fa) (.ref x))) (hq : qa ∉ φ.map (·.2))
  (hl : xy true false (fun x H => Df [.ref i, x] H) l (H.set j .junk) = some l') (q : ∀ s', EP W φ φ (H.set j (.list l')) [] s s' → Q .none s') :
  wpAny (model W.prog W.w) A (call (.builtin "list.sort") [y] [(Str.ofString "key", .ref qa), (Str.ofString "reverse", .bool true)]) Q E s := by
 refine zvt fun hq0 => ?_
 obtain ⟨h6, kl, zs, hr, hz, rfl⟩ := zej hl
 obtain ⟨a, vs, m, rfl, ha, hg, rl⟩ := S.list_of hj r
 have hlen := rl.length
 have hji : j ≠ i := fun e => by subst e; rw [hj] at hi; cases hi
 have ha2 : W.base.get? a = none := S.out (a, a) (zsm ha)
 have ham : a ∈ φ.map (·.2) := zso.mpr ⟨(a, a), zsm ha, rfl⟩
 have fr : ∀ {z : Addr}, s.heap.objs.size ≤ z → s.heap.get? z = none ∧ z ∉ φ.map (·.2) ∧ W.base.get? z = none := fun {z} hz => by
  have hn := jp (h := s.heap) hz
  refine ⟨hn, fun q => ?_, ?_⟩
  ·obtain ⟨p, hp, rfl⟩ := zso.mp q
   obtain ⟨o, ho, _⟩ := S.carrier hp
   rw [hn] at ho; cases ho
  ·cases q : W.base.get? z with
   | none => rfl
   | some o => have := S.base _ _ q; rw [hn] at this; cases this
 have hg' : s.heap.get? a = some (seqObj "list" vs.toList.toArray m) := by rw [zxj]; exact hg
 refine hq0 ?_
 refine wpAny_call_entry_kw slot_list_sort ⟨_, hg, rfl⟩ entry_list_sort ?_ (ksk_l2 _ _ _)
 show wpAny (model W.prog W.w) A.in1 (Builtin.«list.sort» ⟨[.ref a], [(Str.ofString "key", .ref qa), (Str.ofString "reverse", .bool true)]⟩) _ _ _
 rw [ksk_t2]
 refine zks (W := W) hg' (by rw [← hlen]; exact h6) fun h3 e1 hle k3 g3 gt gk => ?_
 have fT := fr (zwt s.heap.objs.size)
 have fk := fr (zwy s.heap.objs.size)
 have na : ∀ {z : Addr}, s.heap.get? z = none → z ≠ a := fun hn e => by rw [e, hg] at hn; cases hn
 have unf : ∀ o, s.heap.get? a = some o → qo o = false := fun o e => by rw [hg] at e; refine inj1 ?_ e; rfl
 have imm3 : ∀ b o, s.heap.get? b = some o → qo o = true → h3.get? b = some o := fun b o q hf => k3 b o (fun e => by subst e; rw [unf o q] at hf; cases hf) q
 have S3 : Sim W (φ.set j (a, s.heap.objs.size)) (H.set j .junk) h3 := S.aside ha unf k3 fT.2.1 fT.2.2 gt rfl
 have mem0 : ∀ {z : Addr}, z ∈ (φ.set j (a, s.heap.objs.size)).map (·.2) → z ∈ φ.map (·.2) ∨ z = s.heap.objs.size := fun {z} hm => by
  obtain ⟨p, hp, rfl⟩ := zso.mp hm
  rcases zur hp with q | q
  ·exact .inl (zs5 q)
  ·rw [q]; exact .inr rfl
 have a0 : a ∉ (φ.set j (a, s.heap.objs.size)).map (·.2) := fun hm => by
  obtain ⟨t, ht, e⟩ := zs6.mp hm
  rw [zsk, zsx] at ht
  have e' : ((φ.set j (a, s.heap.objs.size)).map (·.2))[t]? = some a := by rw [zsv (by rw [zsk, zsx]; exact ht), e]
  rw [zsu, zs8] at e'
  by_cases q : j = t
  ·subst q
   rw [if_pos rfl, if_pos ht] at e'
   have : s.heap.objs.size = a := zvu.inj e'
   exact na fT.1 this
  ·rw [if_neg q] at e'
   refine q (qm S.nodup (a := a) ?_ ?_)
   ·rw [zsu, ha]; rfl
   ·rw [zsu]; exact e'
 have kqa : qa ≠ s.heap.objs.size + 1 := fun e => by rw [e, fk.1] at gq; cases gq
 have qT : qa ≠ s.heap.objs.size := fun e => by rw [e, fT.1] at gq; cases gq
 refine zft (N := [(a, seqObj "list" #[] e1), (qa, methodObj (.ref fa) (.ref x))]) (zj4 F (i := i) (a := x) (d := d) (by rw [zsn hji]; exact hx) (.tail _ (.head _))) (R := ?_) (.head _) ⟨S3, zsw, fun p hp => ?_, fun hm => ?_, fk.2.2, fun p hp => ?_⟩ gk ha2 hr hz
  (rl.alike (zit ha) imm3) h6 fun h4 tk c4 P4 S4 g4 => ⟨_, rfl, q _ ?_⟩
 ·have := R.2.1; have := R.2.2
  exact ⟨R.1, by show A.depth + k ≤ 600; lia, by show A.units + 1 + 20 * k ≤ 8000; lia⟩
 ·rcases zss.mp hp with rfl | hp
  ·exact ⟨g3, a0⟩
  ·rw [zsq.mp hp]
   refine ⟨k3 _ _ (fun e => ?_) gq, fun hm => ?_⟩
   ·have e' : qa = a := e
    rw [e', hg] at gq
    have := congrArg Obj.cls (zvu.inj gq)
    injection this with h9
    exact absurd h9 (by decide)
   ·rcases mem0 hm with q | q
    ·exact hq q
    ·exact qT q
 ·rcases mem0 hm with q | q
  ·exact fk.2.1 q
  ·exact absurd q (Nat.ne_of_gt (zw0 _))
 ·rcases zss.mp hp with rfl | hp
  ·exact fun e => na fk.1 e.symm
  ·rw [zsq.mp hp]; exact kqa
 ·have k4 : ∀ b o, s.heap.get? b = some o → b ∉ φ.map (·.2) → h4.get? b = some o := fun b o q hb => by
   refine P4.keep b o (k3 b o (fun e => hb (e ▸ ham)) q) (fun hm => ?_) fun hm => ?_
   ·rcases zss.mp hm with e | hm
    ·rw [e, fk.1] at q; cases q
    ·exact hb (zsq.mp hm ▸ ham)
   ·rcases mem0 hm with q2 | q2
    ·exact hb q2
    ·rw [q2, fT.1] at q; cases q
  have imm4 : ∀ b o, s.heap.get? b = some o → qo o = true → h4.get? b = some o := fun b o q hf => P4.imm b o (imm3 b o q hf) hf
  have P5 : ju φ φ [] s.heap h4 := ⟨zsw, fun _ hp => .inl hp, fun b o q _ hb => k4 b o q hb, imm4, fun b o q => by
   by_cases e : b = a
   ·rw [e]; exact ⟨_, g4⟩
   ·exact P4.alive b o (k3 b o e q)⟩
  exact ⟨S.again ha S4 ⟨rfl, _, c4, g4, (rl.post P5).sortA true zs⟩, P5, ⟨h4, tk, rfl⟩⟩
theorem znt {k c : Nat} {C fa : Addr} {Df : DF} {x : Str} {e eo : Expr} {apos opos pos kp kp2 : Pos} {kk : Nat} {cp : Pos} {f fo : DE} {pl : Sem Bool} (B : Bm W c C x fa) (F : FS W k (.ref fa) Df) (he : SE W n env sl e f) (ho : SE W n env sl eo fo) (hk : k + 1 ≤ n)
  (hs : eval (.Attribute eo x opos) env = (do
   let o ← eval eo env
   standAt opos.atName
   let r ← holding [o] (getAttr o x true)
   letTemporaryGo eo o r
   pure r))
  (hm : eval (.Call (.Attribute e "sort" apos) [] [⟨some "key", .Attribute eo x opos, kp⟩, ⟨some "reverse", .Constant (.bool true) kk cp, kp2⟩] pos) env = (do
   let ov ← eval e env
   standAt apos.atName
   let (f, first) ← holding [ov] (getMethod ov "sort" pl)
   callWith pos f first (backTo pos (starEach [] env)) (backToKw pos (keywordEach [⟨some "key", .Attribute eo x opos, kp⟩, ⟨some "reverse", .Constant (.bool true) kk cp, kp2⟩] env)))) :
  SE W n env sl (.Call (.Attribute e "sort" apos) [] [⟨some "key", .Attribute eo x opos, kp⟩, ⟨some "reverse", .Constant (.bool true) kk cp, kp2⟩] pos) (ze6 c Df f fo) := by
 intro A φ lo H s v H' hf R S L
 obtain ⟨v1, H1, h1, h2⟩ := wn hf
 refine ja h2 fun hv h2 => ?_
 obtain ⟨v2, H2, h3, h4⟩ := wn h2
 refine ja h4 fun hob h4 => ?_
 rw [hm]
 refine wpAny_bind (wpAny_mono (he A φ lo H s v1 H1 h1 R S L) (fun y s1 hq => wpAny_bind (wpAny_standAt (wpAny_bind (wpAny_holding ?_)))) fun _ _ x => x)
 obtain ⟨φ1, E1, r1⟩ := hq
 obtain ⟨j, l0, rfl, hj0⟩ := zgr hv
 obtain ⟨a, ws, m, rfl, ha', hg, rl⟩ := E1.sim.list_of hj0 r1
 refine getMethod_builtin ⟨_, hg, rfl⟩ zxg slot_list_sort (by kernel_rfl) (fun b e => by cases e; exact ⟨_, hg, rfl⟩) ?_
 refine callWith_builtin_kwB (by rfl) (by rfl) (evalArgs_kw2_nil (by rfl) ?_)
 refine kws_cons (Attribute_any_ (wpAny_mono (ho A φ1 lo H1 s1 v2 H2 h3 R E1.sim (L.post0 E1.post)) (fun u s2 ⟨φ2, E2, r2⟩ => ?_) fun _ _ x => x) hs)
 obtain ⟨i, fl, rfl, hi⟩ := zig hob
 refine zhp B E2.sim hi r2 fun x1 d1 e1 hx1 => ?_
 subst e1
 refine kws_cons (wpAny_pure (kws_nil ?_))
 show wpAny (model W.prog W.w) A (call (.builtin "list.sort") [.ref a] [(Str.ofString "key", .ref s2.heap.objs.size), (Str.ofString "reverse", .bool true)]) _ _ _
 refine y4.i (o := H2[j]?) h4 fun l hj h7 => ?_
 ·have h4 := h7
  obtain ⟨l', hl', e⟩ := zvv.mp h4
  cases e
  have E3 : EP W φ2 φ2 H2 [] s2 { s2 with heap := s2.heap.push (methodObj (.ref fa) (.ref x1)), toks := s2.toks + 1 } := ur E2.sim fun b o e => zwk _ e
  have hnq := ui s2.heap
  refine zrb (qa := s2.heap.objs.size) (x := x1) (d := d1) F (R.le hk) E3.sim hj hi (r1.post (E2.post.trans E3.post)) hx1 (zwl _ rfl) (fun hm => ?_) hl' fun s' E4 => ⟨φ2, ((E1.trans E2).trans E3).trans E4, .none⟩
  obtain ⟨p, hp, e⟩ := zso.mp hm
  obtain ⟨o, ho, _⟩ := E2.sim.carrier hp
  rw [e, hnq] at ho; cases ho
end
end Mine
namespace Mine
section
variable {W : Wd} {n : Nat} {env : Env} {sl csl : List (Option Str)}
theorem zl {i : Nat} {x : Str} {pos : Pos} (hx : sl[i]? = some (some x) := by rfl) (hk : env.kindOf x = some .local ∨ env.kindOf x = some .cell := by first | exact .inl (by rfl) | exact .inr (by rfl)) (hd : (x == ("__debug__" : Str)) = false := by rfl) : SE W n env sl (.Name x pos) (zd i) := se_loc hx hk hd
theorem zt {T : List Addr} {i : Nat} {x : Str} {pos : Pos} (hx : sl[i]? = some (some x) := by rfl) (hk : env.kindOf x = some .local := by rfl) (hT : env.locals ∈ T := by exact .head _) : TG W n env T sl (.Name x pos) (zy i) := tn_loc hx hk hT
theorem zb {g : Str} {p pos : Pos} {es : List Expr} {fs : List DE} {fv : Value} {b : List MV → St → Option (MV × St)} (G : Bl W g fv) (hb : CB W fv b) (ha : SA W n env sl es fs) (hs : zf5 es env := by exact zax (by rfl)) (hst : es.any isStarred = false := by rfl) (hx : env.kindOf g = some .globalImplicit := by rfl) :
  SE W n env sl (.Call (.Name g p) es [] pos) (z4 b fs) := se_bl G hb ha hs hst hx
theorem zf {k : Nat} {g : Str} {fa : Addr} {Df : DF} {p pos : Pos} {es : List Expr} {fs : List DE} (G : Fn W g fa) (F : FS W k (.ref fa) Df) (ha : SA W n env sl es fs) (hs : zf5 es env := by exact zax (by rfl)) (hk : k ≤ n := by decide) (hx : env.kindOf g = some .globalImplicit := by rfl) (hdb : (g == ("__debug__" : Str)) = false := by rfl) :
  SE W n env sl (.Call (.Name g p) es [] pos) (we Df fs) := se_fn G F ha hs hk hx hdb
theorem zm {k c : Nat} {C N : Addr} {x : Str} {fa : Addr} {Df : DF} {e : Expr} {apos pos : Pos} {es : List Expr} {f : DE} {fs : List DE} {pl : Sem Bool} (G : Mt W c C N x fa) (F : FS W k (.ref fa) Df) (he : SE W n env sl e f) (ha : SA W n env sl es fs) (hs : zf5 es env := by first | exact zfj | exact zax (by rfl)) (hk : k ≤ n := by decide)
  (hm : eval (.Call (.Attribute e x apos) es [] pos) env = (do
   let ov ← eval e env
   standAt apos.atName
   let (f, first) ← holding [ov] (getMethod ov x pl)
   callWith pos f first (backTo pos (starEach es env)) []) := by rfl) : SE W n env sl (.Call (.Attribute e x apos) es [] pos) (z5 c Df f fs) := se_mt G F he ha hs hk hm
theorem za {c k : Nat} {C N : Addr} {x : Str} {e : Expr} {pos : Pos} {f : DE} (K : Cls W c C N) (he : SE W n env sl e f) (hx : (W.names c)[k]? = some x := by rfl)
  (hs : eval (.Attribute e x pos) env = (do
   let o ← eval e env
   standAt pos.atName
   let r ← holding [o] (getAttr o x true)
   letTemporaryGo e o r
   pure r) := by rfl) : SE W n env sl (.Attribute e x pos) (zp c k f) := zrk K hx he hs
theorem zs {e i : Expr} {pos : Pos} {f g : DE} (he : SE W n env sl e f) (hi : SE W n env sl i g)
  (hs : ∀ o k t, ∃ ops, subscripted i false (.ref o) (.int k t) = operate ops (getItem (.ref o) (.int k t)) := by exact fun _ _ _ => ⟨_, by rfl⟩) : SE W n env sl (.Subscript e i pos) (wd f g) := se_sub he hi hs
theorem zg {t value : Expr} {pos : Pos} {f : DE} {g : DT} (hv : SE W n env sl value f) (ht : TG W n env (kq env) sl t g) (hs : swapsWithSole [t] value pos.line env = pure false := by rfl) (hw : swappedStores [t] value env = pure none := by rfl)
  (he : (assignEach [t] env).map (·.2) = [assign t env] := by rfl) : SS W n env sl (.Assign [t] value pos) (zq f g) := znr hv ht hs hw he
theorem zx {e : Expr} {pos : Pos} {f : DE} (he : SE W n env sl e f) (hi : interactive env = false := by rfl) (hs : swapsWith e none pos.line env = pure false := by rfl) : SS W n env sl (.Expr e pos) (wh f) := zq7 he hi hs
theorem zc {op : CmpOp} {l r : Expr} {pos : Pos} {f g : DE} (hl : SE W n env sl l f) (hr : SE W n env sl r g) (hm : behindInMarks op r = false := by rfl) : ST W n env sl (.Compare l [op] [r] pos) (z9 op f g) := st_cmp hl hr hm
theorem ze {op : CmpOp} {l r : Expr} {pos : Pos} {f g : DE} (hl : SE W n env sl l f) (hr : SE W n env sl r g) (hm : behindInMarks op r = false := by rfl) : SE W n env sl (.Compare l [op] [r] pos) (zch op f g) := se_cmp hl hr hm
theorem zr {target iter : Expr} {body : List Stmt} {pos : Pos} {f : DE} {g : DT} {b : DS} (hi : SE W n env sl iter f) (ht : TG W n env (kq env) sl target g) (hb : SB W n env sl body b)
  (hs : ∀ x, foldedSetIterable iter env x = pure x := by exact fun _ => by rfl) : SS W n env sl (.For target iter body [] pos) (u9 f g b) := ss_for hi ht hb hs
theorem zv {e : Expr} {f : DE} (hx : SE W n env sl e f) (he : isTrue e env (eval e env) = (do let v ← eval e env; standAt e.pos; holding [v] (truthy v)) := by rfl) : ST W n env sl e (qd f) := st_val hx he
theorem zn {e : Expr} {r : List Expr} {f : DE} {fs : List DE} (he : SE W n env sl e f) (hr : SA W n env sl r fs) (hs : starEach (e :: r) env = (false, eval e env) :: starEach r env := by rfl) : SA W n env sl (e :: r) (f :: fs) := zmt he hr hs
theorem zo {e : Expr} {f : DE} (he : SE W n env sl e f) (hs : starEach (e :: []) env = (false, eval e env) :: starEach [] env := by rfl) : SA W n env sl [e] [f] := zmt he y7 hs
theorem zk {bid : String} {x : Str} {e : Expr} {apos pos : Pos} {es : List Expr} {f : DE} {fs : List DE} {pl : Sem Bool} {b : MV → List MV → St → Option (MV × St)} (hb : CM W bid b) (slot : Slot "list" x bid) (hty : typeOf (.builtin bid) = pure (.type "method_descriptor"))
  (he : SE W n env sl e f) (ha : SA W n env sl es fs) (hst : es.any isStarred = false := by rfl) (hs : ∀ e r, es = e :: r → starEach (e :: r) env = (false, eval e env) :: starEach r env := by first | exact zfj | exact zax (by rfl))
  (hm : eval (.Call (.Attribute e x apos) es [] pos) env = (do
   let ov ← eval e env
   standAt apos.atName
   let (f, first) ← holding [ov] (getMethod ov x pl)
   callWith pos f first (backTo pos (starEach es env)) []) := by rfl) : SE W n env sl (.Call (.Attribute e x apos) es [] pos) (yj b f fs) := zpj hb slot hty he ha hst hs hm
theorem zu {T : List Addr} {c k : Nat} {C N : Addr} {x : Str} {e : Expr} {pos : Pos} {f : DE} (K : Cls W c C N) (he : SE W n env sl e f) (hx : (W.names c)[k]? = some x := by rfl) : TG W n env T sl (.Attribute e x pos) (wm c k f) := zq2 K hx he
end
end Mine
namespace Mine
noncomputable def zeh (x : Option Res) (P Q : Lo → St → Prop) (R : MV → Lo → St → Prop) : Prop := match x with
 | some (.next, lo, H) => P lo H
 | some (.cont, lo, H) => P lo H
 | some (.brk, lo, H) => Q lo H
 | some (.ret v, lo, H) => R v lo H
 | none => False
noncomputable def zl0 (x : Option Res) (P : Lo → St → Prop) (R : MV → Lo → St → Prop) : Prop := match x with
 | some (.next, lo, H) => P lo H
 | some (.ret v, lo, H) => R v lo H
 | _ => False
theorem zeh.after {x : Option Res} {P Q : Lo → St → Prop} {R : MV → Lo → St → Prop} (h : zeh x P Q R) :
  (∃ lo H, Mine.after x = some (.inl (lo, H)) ∧ P lo H) ∨ (∃ lo H, Mine.after x = some (.inr (.next, lo, H)) ∧ Q lo H) ∨ (∃ v lo H, Mine.after x = some (.inr (.ret v, lo, H)) ∧ R v lo H) := by
 rcases x with _ | ⟨_ | _ | _ | _, lo, H⟩
 ·exact h.elim
 ·exact .inl ⟨_, _, rfl, h⟩
 ·exact .inr (.inl ⟨_, _, rfl, h⟩)
 ·exact .inl ⟨_, _, rfl, h⟩
 ·exact .inr (.inr ⟨_, _, _, rfl, h⟩)
theorem zij {src : Src} {g : DT} {b : DS} {l : List MV} (P : Nat → Lo → St → Prop) {Q : Lo → St → Prop} {R : MV → Lo → St → Prop}
  (hl : ∀ i lo H, P i lo H → src H i = some l[i]?)
  (step : ∀ (i : Nat) v lo H, l[i]? = some v → P i lo H → ∃ lo1 H1, g v lo H = some (lo1, H1) ∧ zeh (b lo1 H1) (P (i + 1)) Q R) (hQ : ∀ lo H, P l.length lo H → Q lo H)
  {lo : Lo} {H : St} (h0 : P 0 lo H) : zl0 (zbl src g b (l.length + 1) 0 lo H) Q R := by
 suffices h : ∀ (k i : Nat) lo H, P i lo H → k + i = l.length + 1 → i ≤ l.length → zl0 (zbl src g b k i lo H) Q R from h _ 0 lo H h0 (by simp) (zwv _)
 intro k
 induction k with
 | zero => intro i lo H hP hk hi; lia
 | succ k ih =>
  intro i lo H hP hk hi
  simp only [zbl, hl i lo H hP]
  cases hv : l[i]? with
  | none =>
   have : i = l.length := by
    rw [ztk] at hv; lia
   exact hQ lo H (this ▸ hP)
  | some v =>
   have hlt : i < l.length := (zsl.mp hv).1
   obtain ⟨lo1, H1, e1, ht⟩ := step i v lo H hv hP
   simp only [e1, bnd_some]
   rcases ht.after with ⟨lo2, H2, e2, h2⟩ | ⟨lo2, H2, e2, h2⟩ | ⟨u, lo2, H2, e2, h2⟩
   ·rw [e2]; exact ih (i + 1) lo2 H2 h2 (by lia) hlt
   ·rw [e2]; exact h2
   ·rw [e2]; exact h2
noncomputable def zqu (g : DT) (b : DS) (r k i : Nat) : DS := zbl (zld r) g b k i
noncomputable def zmf (g : DT) (b : DS) (l : List MV) : DS := zbl (zo8 l) g b (l.length + 1) 0
theorem jb {g : DT} {b : DS} {l : List MV} (P : Nat → Lo → St → Prop) {Q : Lo → St → Prop} {R : MV → Lo → St → Prop}
  (step : ∀ (i : Nat) v lo H, l[i]? = some v → P i lo H → ∃ lo1 H1, g v lo H = some (lo1, H1) ∧ zeh (b lo1 H1) (P (i + 1)) Q R) (hQ : ∀ lo H, P l.length lo H → Q lo H)
  {lo : Lo} {H : St} (h0 : P 0 lo H) : zl0 (zmf g b l lo H) Q R := zij P (fun _ _ _ _ => rfl) step hQ h0
theorem zfm {g : DT} {b : DS} {r : Nat} {l : List MV} (P : Nat → Lo → St → Prop) {Q : Lo → St → Prop} {R : MV → Lo → St → Prop}
  (hl : ∀ i lo H, P i lo H → H[r]? = some (.list l))
  (step : ∀ (i : Nat) v lo H, l[i]? = some v → P i lo H → ∃ lo1 H1, g v lo H = some (lo1, H1) ∧ zeh (b lo1 H1) (P (i + 1)) Q R) (hQ : ∀ lo H, P l.length lo H → Q lo H)
  {lo : Lo} {H : St} (h0 : P 0 lo H) : zl0 (zqu g b r (l.length + 1) 0 lo H) Q R := zij P (fun i lo H h => by simp only [zld, hl i lo H h]) step hQ h0
theorem zjh {src : Src} {g : DT} {t : Lo → St → Option (Bool × St)} {e : DE} {l : List MV} (P : Nat → List MV → Lo → St → Prop) {Q : List MV → St → Prop}
  (hl : ∀ i acc lo H, P i acc lo H → src H i = some l[i]?)
  (step : ∀ (i : Nat) v acc lo H, l[i]? = some v → P i acc lo H → ∃ lo1 H1 c H2, g v lo H = some (lo1, H1) ∧ t lo1 H1 = some (c, H2) ∧ (if c = true then ∃ x H3, e lo1 H2 = some (x, H3) ∧ acc.length ≤ 1000000 ∧ P (i + 1) (acc ++ [x]) lo1 H3 else P (i + 1) acc lo1 H2))
  (hQ : ∀ acc lo H, P l.length acc lo H → Q acc H) {lo : Lo} {H : St} (h0 : P 0 [] lo H) : ∃ acc H', zix src g t e (l.length + 1) 0 [] lo H = some (acc, H') ∧ Q acc H' := by
 suffices h : ∀ (k i : Nat) acc lo H, P i acc lo H → k + i = l.length + 1 → i ≤ l.length → ∃ acc' H', zix src g t e k i acc lo H = some (acc', H') ∧ Q acc' H' from h _ 0 [] lo H h0 (by simp) (zwv _)
 intro k
 induction k with
 | zero => intro i acc lo H hP hk hi; lia
 | succ k ih =>
  intro i acc lo H hP hk hi
  simp only [zix, hl i acc lo H hP]
  cases hv : l[i]? with
  | none =>
   have : i = l.length := by
    rw [ztk] at hv; lia
   exact ⟨acc, H, rfl, hQ acc lo H (this ▸ hP)⟩
  | some v =>
   have hlt : i < l.length := (zsl.mp hv).1
   obtain ⟨lo1, H1, c, H2, e1, e2, hc⟩ := step i v acc lo H hv hP
   simp only [e1, e2, bnd_some]
   cases c with
   | false => exact ih (i + 1) acc lo1 H2 hc (by lia) hlt
   | true =>
    obtain ⟨x, H3, e3, hs, hP3⟩ := hc
    simp only [e3, bnd_some, if_true]
    rw [if_pos (by simpa [small] using hs)]
    exact ih (i + 1) (acc ++ [x]) lo1 H3 hP3 (by lia) hlt
theorem zne {src : Src} {g : DT} {t : Lo → St → Option (Bool × St)} {e : DE} {l : List MV} (H : St) (lo : Lo) (lof : MV → Lo) (c : MV → Bool) (f : MV → MV) (hsrc : ∀ i, src H i = some l[i]?) (hl : l.length ≤ 1000000)
  (hg : ∀ v ∈ l, ∀ lo', (lo' = lo ∨ ∃ u ∈ l, lo' = lof u) → g v lo' H = some (lof v, H)) (ht : ∀ v ∈ l, t (lof v) H = some (c v, H)) (he : ∀ v ∈ l, c v = true → e (lof v) H = some (f v, H)) :
  zix src g t e (l.length + 1) 0 [] lo H = some ((l.filter c).map f, H) := by
 obtain ⟨acc, H', h1, h2, h3⟩ := zjh (src := src) (g := g) (t := t) (e := e) (l := l) (fun i acc lo' H' => H' = H ∧ (lo' = lo ∨ ∃ u ∈ l, lo' = lof u) ∧ acc = ((l.take i).filter c).map f) (Q := fun acc H' => H' = H ∧ acc = (l.filter c).map f)
  (fun i acc lo' H' hI => by obtain ⟨h, _, _⟩ := hI; rw [h]; exact hsrc i)
  (fun i v acc lo' H' hv hI => by
   obtain ⟨h1, h2, h3⟩ := hI
   subst h1
   have hm := zsm hv
   refine ⟨lof v, H', c v, H', hg v hm lo' h2, ht v hm, ?_⟩
   have hlt : i < l.length := (zsl.mp hv).1
   cases hc : c v with
   | false =>
    rw [if_neg (by simp)]
    exact ⟨rfl, .inr ⟨v, hm, rfl⟩, by rw [h3, take_succ_filter c l i v hv, hc]; simp⟩
   | true =>
    rw [if_pos rfl]
    refine ⟨f v, H', he v hm hc, ?_, rfl, .inr ⟨v, hm, rfl⟩, by rw [h3, take_succ_filter c l i v hv, hc]; simp⟩
    rw [h3, zsk]
    have := zus c (l.take i)
    rw [zti] at this
    lia)
  (fun acc lo' H' hI => by obtain ⟨h1, _, h3⟩ := hI; exact ⟨h1, by rw [h3, zto]⟩) (lo := lo) (H := H) ⟨rfl, .inl rfl, by simp⟩
 rw [h1, h2, h3]
theorem zdn {t : Lo → St → Option (Bool × St)} {b : DS} (P : Nat → Lo → St → Prop) {Q : Lo → St → Prop} {R : MV → Lo → St → Prop}
  (step : ∀ k lo H, P k lo H → ∃ c H1, t lo H = some (c, H1) ∧ (if c = true then ∃ k', k = k' + 1 ∧ zeh (b lo H1) (fun lo H => ∃ j, j ≤ k' ∧ P j lo H) Q R else Q lo H1)) {k n : Nat} (hk : k < n) {lo : Lo} {H : St} (h0 : P k lo H) : zl0 (vm t b n lo H) Q R := by
 induction n generalizing k lo H with
 | zero => lia
 | succ n ih =>
  obtain ⟨c, H1, e1, hc⟩ := step k lo H h0
  simp only [vm, e1, bnd_some]
  cases c with
  | false => exact hc
  | true =>
   simp only [if_true] at hc ⊢
   obtain ⟨k', rfl, ht⟩ := hc
   rcases ht.after with ⟨lo2, H2, e2, h2⟩ | ⟨lo2, H2, e2, h2⟩ | ⟨u, lo2, H2, e2, h2⟩
   ·rw [e2]
    obtain ⟨j, hj, hP⟩ := h2
    exact ih (k := j) (by lia) hP
   ·rw [e2]; exact h2
   ·rw [e2]; exact h2
theorem zeh.mono {x : Option Res} {P P' Q Q' : Lo → St → Prop} {R R' : MV → Lo → St → Prop} (h : zeh x P Q R) (hP : ∀ lo H, P lo H → P' lo H) (hQ : ∀ lo H, Q lo H → Q' lo H) (hR : ∀ v lo H, R v lo H → R' v lo H) : zeh x P' Q' R' := by
 rcases x with _ | ⟨_ | _ | _ | _, lo, H⟩
 ·exact h
 ·exact hP _ _ h
 ·exact hQ _ _ h
 ·exact hP _ _ h
 ·exact hR _ _ _ h
theorem zl0.next {x : Option Res} {P : Lo → St → Prop} (h : zl0 x P fun _ _ _ => False) : ∃ lo H, x = some (.next, lo, H) ∧ P lo H := by
 rcases x with _ | ⟨_ | _ | _ | _, lo, H⟩
 ·exact h.elim
 ·exact ⟨_, _, rfl, h⟩
 ·exact h.elim
 ·exact h.elim
 ·exact h.elim
theorem zl0.both {x : Option Res} {P : Lo → St → Prop} {R : MV → Lo → St → Prop} (h : zl0 x P R) : (∃ lo H, x = some (.next, lo, H) ∧ P lo H) ∨ ∃ v lo H, x = some (.ret v, lo, H) ∧ R v lo H := by
 rcases x with _ | ⟨_ | _ | _ | _, lo, H⟩
 ·exact h.elim
 ·exact .inl ⟨_, _, rfl, h⟩
 ·exact h.elim
 ·exact h.elim
 ·exact .inr ⟨_, _, _, rfl, h⟩
end Mine
namespace Mine
noncomputable def zbs (i : Nat) : Stmt := PySem.Challenge.rw_qz0012_02.prog.main.body.getD i (.Pass default)
noncomputable def zai (i j : Nat) : Stmt := match zbs i with
 | .ClassDef _ _ _ b _ _ _ _ _ _ _ => b.getD j (.Pass default)
 | s => s
noncomputable def ub (st : Stmt) (qual : Str) (dV pm : Value) (cd : Addr) : Obj := match st with
 | .FunctionDef name args body _ _ _ scope _ _ _ => { cls := .type "function", data := .func { name := name, qualname := qual, params := args, body := .stmts body, scope := scope, globals := 3, closure := [], defaults := dV, kwdefaults := .none, pyModule := pm, code := .ref cd } }
 | _ => default
noncomputable abbrev vS (s : String) := Value.str (Str.ofString s)
noncomputable abbrev kH (P : Params) (s : String) := PyData.keyHash P (Str.ofString s)
noncomputable def ob_3 (P : Params) : Obj := { cls := zsh "dict", data := zv4 #[{ hash := kH P "__name__", key := vS "__name__" 165, val := vS "law_qz0012_02" 603 }, { hash := kH P "__doc__", key := vS "__doc__" 166, val := zsg }, { hash := kH P "__package__", key := vS "__package__" 167, val := zsg }, { hash := kH P "__loader__", key := vS "__loader__" 168, val := zsj "__main__.__loader__#opaque" }, { hash := kH P "__spec__", key := vS "__spec__" 169, val := zsg }, { hash := kH P "__annotations__", key := vS "__annotations__" 170, val := zsf 6 }, { hash := kH P "__builtins__", key := vS "__builtins__" 171, val := zsf 4 }, { hash := kH P "__file__", key := vS "__file__" 173, val := vS "/claim/cut.py" 172 }, { hash := kH P "__cached__", key := vS "__cached__" 174, val := zsg }, { hash := kH P "_wall", key := vS "_wall" 193, val := zsf 21 }, { hash := kH P "FIRST_STEP", key := vS "FIRST_STEP" 197, val := zse 1024 196 }, { hash := kH P "CoreHeap", key := vS "CoreHeap" 357, val := zsf 142 }, { hash := kH P "UNKNOWN", key := vS "UNKNOWN" 359, val := zse 0 358 }, { hash := kH P "TRUE", key := vS "TRUE" 361, val := zse 1 360 }, { hash := kH P "FALSE", key := vS "FALSE" 364, val := zse (-1) 363 }, { hash := kH P "NO_CLAUSE", key := vS "NO_CLAUSE" 367, val := zse (-1) 366 }, { hash := kH P "place_of", key := vS "place_of" 374, val := zsf 153 }, { hash := kH P "order_key", key := vS "order_key" 381, val := zsf 160 }, { hash := kH P "Trail", key := vS "Trail" 602, val := zsf 315 }, { hash := kH P "_law_pull", key := vS "_law_pull" 613, val := zsf 326 }, { hash := kH P "_law_sign", key := vS "_law_sign" 620, val := zsf 333 }, { hash := kH P "_law_lots", key := vS "_law_lots" 626, val := zsf 338 }, { hash := kH P "_law_trail", key := vS "_law_trail" 637, val := zsf 345 }, { hash := kH P "_law_goes_up", key := vS "_law_goes_up" 645, val := zsf 352 }, { hash := kH P "_law_seen", key := vS "_law_seen" 651, val := zsf 357 }, { hash := kH P "_law_is_back", key := vS "_law_is_back" 657, val := zsf 362 }, { hash := kH P "_law_noted", key := vS "_law_noted" 667, val := zsf 369 }, { hash := kH P "_law_is_detour_gone", key := vS "_law_is_detour_gone" 673, val := zsf 374 }, { hash := kH P "_law_known", key := vS "_law_known" 679, val := zsf 379 }, { hash := kH P "_law_told", key := vS "_law_told" 688, val := zsf 386 }, { hash := kH P "law", key := vS "law" 694, val := zsf 391 }] 31 }
noncomputable def ob_142 (P : Params) : Obj := { cls := zsh "type", data := Data.cls { name := Str.ofString "CoreHeap", bases := [zsh "object"], mro := [zsf 142, zsh "object"], ns := 141, qualname := Str.ofString "CoreHeap" }, slots := #[none, none, some (vS "CoreHeap" 198), some (vS "CoreHeap" 206), some (zsj "object.__new__"), some (zsi true)] }
noncomputable def ob_141 (P : Params) : Obj := { cls := zsh "dict", data := zv4 #[{ hash := kH P "__module__", key := vS "__module__" 205, val := vS "minismt.sattrail" 194 }, { hash := kH P "__firstlineno__", key := vS "__firstlineno__" 209, val := zse 6 208 }, { hash := kH P "__init__", key := vS "__init__" 218, val := zsf 36 }, { hash := kH P "many", key := vS "many" 225, val := zsf 43 }, { hash := kH P "is_held", key := vS "is_held" 233, val := zsf 50 }, { hash := kH P "is_before", key := vS "is_before" 242, val := zsf 57 }, { hash := kH P "grow", key := vS "grow" 250, val := zsf 64 }, { hash := kH P "put", key := vS "put" 259, val := zsf 71 }, { hash := kH P "rise", key := vS "rise" 269, val := zsf 78 }, { hash := kH P "better_child", key := vS "better_child" 279, val := zsf 85 }, { hash := kH P "sink", key := vS "sink" 289, val := zsf 92 }, { hash := kH P "push", key := vS "push" 297, val := zsf 99 }, { hash := kH P "pop", key := vS "pop" 306, val := zsf 106 }, { hash := kH P "pop_best", key := vS "pop_best" 315, val := zsf 113 }, { hash := kH P "bump", key := vS "bump" 323, val := zsf 120 }, { hash := kH P "decay", key := vS "decay" 330, val := zsf 127 }, { hash := kH P "rescale", key := vS "rescale" 336, val := zsf 132 }, { hash := kH P "rebuild", key := vS "rebuild" 344, val := zsf 139 }, { hash := kH P "__static_attributes__", key := vS "__static_attributes__" 350, val := zsf 140 }, { hash := kH P "__dict__", key := vS "__dict__" 352, val := zsf 143 }, { hash := kH P "__weakref__", key := vS "__weakref__" 354, val := zsf 144 }, { hash := kH P "__doc__", key := vS "__doc__" 355, val := zsg }] 4 }
noncomputable def ob_315 (P : Params) : Obj := { cls := zsh "type", data := Data.cls { name := Str.ofString "Trail", bases := [zsh "object"], mro := [zsf 315, zsh "object"], ns := 314, qualname := Str.ofString "Trail" }, slots := #[none, none, some (vS "Trail" 382), some (vS "Trail" 390), some (zsj "object.__new__"), some (zsi true)] }
noncomputable def ob_314 (P : Params) : Obj := { cls := zsh "dict", data := zv4 #[{ hash := kH P "__module__", key := vS "__module__" 389, val := vS "minismt.sattrail" 194 }, { hash := kH P "__firstlineno__", key := vS "__firstlineno__" 393, val := zse 123 392 }, { hash := kH P "__init__", key := vS "__init__" 401, val := zsf 174 }, { hash := kH P "grow", key := vS "grow" 409, val := zsf 181 }, { hash := kH P "var_count", key := vS "var_count" 416, val := zsf 188 }, { hash := kH P "value", key := vS "value" 424, val := zsf 195 }, { hash := kH P "depth", key := vS "depth" 431, val := zsf 202 }, { hash := kH P "spot_of", key := vS "spot_of" 439, val := zsf 209 }, { hash := kH P "by_spots", key := vS "by_spots" 447, val := zsf 216 }, { hash := kH P "store", key := vS "store" 458, val := zsf 223 }, { hash := kH P "watch", key := vS "watch" 467, val := zsf 230 }, { hash := kH P "unwatch", key := vS "unwatch" 475, val := zsf 237 }, { hash := kH P "height", key := vS "height" 483, val := zsf 244 }, { hash := kH P "by_heights", key := vS "by_heights" 492, val := zsf 251 }, { hash := kH P "top_level", key := vS "top_level" 500, val := zsf 258 }, { hash := kH P "place", key := vS "place" 509, val := zsf 265 }, { hash := kH P "enqueue", key := vS "enqueue" 519, val := zsf 272 }, { hash := kH P "new_level", key := vS "new_level" 526, val := zsf 279 }, { hash := kH P "cancel_until", key := vS "cancel_until" 538, val := zsf 286 }, { hash := kH P "propagate_clauses", key := vS "propagate_clauses" 547, val := zsf 293 }, { hash := kH P "visit", key := vS "visit" 561, val := zsf 300 }, { hash := kH P "moved", key := vS "moved" 571, val := zsf 307 }, { hash := kH P "is_sound", key := vS "is_sound" 577, val := zsf 312 }, { hash := kH P "__static_attributes__", key := vS "__static_attributes__" 595, val := zsf 313 }, { hash := kH P "__dict__", key := vS "__dict__" 597, val := zsf 316 }, { hash := kH P "__weakref__", key := vS "__weakref__" 599, val := zsf 317 }, { hash := kH P "__doc__", key := vS "__doc__" 600, val := zsg }] 4 }
noncomputable def ob_71 (P : Params) : Obj := ub (zai 3 5) "CoreHeap.put" zsg (vS "minismt.sattrail" 194) 70
noncomputable def ob_70 (P : Params) : Obj := { cls := zsh "code", data := zv3 #[vS "put" 251, vS "CoreHeap.put" 252, vS "/claim/cut.py" 253, zse 32 0, zse 3 0, zse 0 0, zse 0 0, zse 3 0, zsf 65, zsi true, zse 181 0, zsf 66, zsg, zsf 67, zsf 68, zsf 69, zse 257 0, zse 32 0, vS "/claim/cut.py" 258] }
noncomputable def ob_57 (P : Params) : Obj := ub (zai 3 3) "CoreHeap.is_before" zsg (vS "minismt.sattrail" 194) 56
noncomputable def ob_56 (P : Params) : Obj := { cls := zsh "code", data := zv3 #[vS "is_before" 234, vS "CoreHeap.is_before" 235, vS "/claim/cut.py" 236, zse 21 0, zse 3 0, zse 0 0, zse 0 0, zse 3 0, zsf 51, zsi true, zse 181 0, zsf 52, zsg, zsf 53, zsf 54, zsf 55, zse 240 0, zse 21 0, vS "/claim/cut.py" 241] }
noncomputable def ob_85 (P : Params) : Obj := ub (zai 3 7) "CoreHeap.better_child" zsg (vS "minismt.sattrail" 194) 84
noncomputable def ob_84 (P : Params) : Obj := { cls := zsh "code", data := zv3 #[vS "better_child" 270, vS "CoreHeap.better_child" 271, vS "/claim/cut.py" 272, zse 46 0, zse 2 0, zse 0 0, zse 0 0, zse 3 0, zsf 79, zsi true, zse 181 0, zsf 80, zsg, zsf 81, zsf 82, zsf 83, zse 277 0, zse 46 0, vS "/claim/cut.py" 278] }
noncomputable def ob_92 (P : Params) : Obj := ub (zai 3 8) "CoreHeap.sink" zsg (vS "minismt.sattrail" 194) 91
noncomputable def ob_91 (P : Params) : Obj := { cls := zsh "code", data := zv3 #[vS "sink" 280, vS "CoreHeap.sink" 281, vS "/claim/cut.py" 282, zse 55 0, zse 2 0, zse 0 0, zse 0 0, zse 3 0, zsf 86, zsi true, zse 181 0, zsf 87, zsg, zsf 88, zsf 89, zsf 90, zse 287 0, zse 55 0, vS "/claim/cut.py" 288] }
noncomputable def ob_106 (P : Params) : Obj := ub (zai 3 10) "CoreHeap.pop" zsg (vS "minismt.sattrail" 194) 105
noncomputable def ob_105 (P : Params) : Obj := { cls := zsh "code", data := zv3 #[vS "pop" 298, vS "CoreHeap.pop" 299, vS "/claim/cut.py" 300, zse 71 0, zse 1 0, zse 0 0, zse 0 0, zse 3 0, zsf 100, zsi true, zse 181 0, zsf 101, zsg, zsf 102, zsf 103, zsf 104, zse 304 0, zse 71 0, vS "/claim/cut.py" 305] }
noncomputable def ob_113 (P : Params) : Obj := ub (zai 3 11) "CoreHeap.pop_best" zsg (vS "minismt.sattrail" 194) 112
noncomputable def ob_112 (P : Params) : Obj := { cls := zsh "code", data := zv3 #[vS "pop_best" 307, vS "CoreHeap.pop_best" 308, vS "/claim/cut.py" 309, zse 82 0, zse 2 0, zse 0 0, zse 0 0, zse 3 0, zsf 107, zsi true, zse 181 0, zsf 108, zsg, zsf 109, zsf 110, zsf 111, zse 313 0, zse 82 0, vS "/claim/cut.py" 314] }
noncomputable def ob_188 (P : Params) : Obj := ub (zai 10 2) "Trail.var_count" zsg (vS "minismt.sattrail" 194) 187
noncomputable def ob_187 (P : Params) : Obj := { cls := zsh "code", data := zv3 #[vS "var_count" 410, vS "Trail.var_count" 411, vS "/claim/cut.py" 412, zse 156 0, zse 1 0, zse 0 0, zse 0 0, zse 3 0, zsf 182, zsi true, zse 181 0, zsf 183, zsg, zsf 184, zsf 185, zsf 186, zse 414 0, zse 156 0, vS "/claim/cut.py" 415] }
noncomputable def ob_386 (P : Params) : Obj := ub (zbs 22) "_law_told" zsg (vS "law_qz0012_02" 603) 385
noncomputable def ob_385 (P : Params) : Obj := { cls := zsh "code", data := zv3 #[vS "_law_told" 680, vS "_law_told" 681, vS "/claim/cut.py" 682, zse 368 0, zse 1 0, zse 0 0, zse 0 0, zse 3 0, zsf 380, zsi true, zse 181 0, zsf 381, zsg, zsf 382, zsf 383, zsf 384, zse 686 0, zse 368 0, vS "/claim/cut.py" 687] }
noncomputable def ob_195 (P : Params) : Obj := ub (zai 10 3) "Trail.value" zsg (vS "minismt.sattrail" 194) 194
noncomputable def ob_194 (P : Params) : Obj := { cls := zsh "code", data := zv3 #[vS "value" 417, vS "Trail.value" 418, vS "/claim/cut.py" 419, zse 159 0, zse 2 0, zse 0 0, zse 0 0, zse 3 0, zsf 189, zsi true, zse 181 0, zsf 190, zsg, zsf 191, zsf 192, zsf 193, zse 422 0, zse 159 0, vS "/claim/cut.py" 423] }
noncomputable def ob_153 (P : Params) : Obj := ub (zbs 8) "place_of" zsg (vS "minismt.sattrail" 194) 152
noncomputable def ob_152 (P : Params) : Obj := { cls := zsh "code", data := zv3 #[vS "place_of" 368, vS "place_of" 369, vS "/claim/cut.py" 370, zse 119 0, zse 1 0, zse 0 0, zse 0 0, zse 3 0, zsf 147, zsi true, zse 181 0, zsf 148, zsg, zsf 149, zsf 150, zsf 151, zse 372 0, zse 119 0, vS "/claim/cut.py" 373] }
noncomputable def ob_312 (P : Params) : Obj := ub (zai 10 20) "Trail.is_sound" zsg (vS "minismt.sattrail" 194) 311
noncomputable def ob_311 (P : Params) : Obj := { cls := zsh "code", data := zv3 #[vS "is_sound" 572, vS "Trail.is_sound" 573, vS "/claim/cut.py" 574, zse 289 0, zse 1 0, zse 0 0, zse 0 0, zse 3 0, zsf 308, zsi true, zse 181 0, zsf 309, zsg, zsg, zsg, zsf 310, zse 575 0, zse 289 0, vS "/claim/cut.py" 576] }
noncomputable def ob_202 (P : Params) : Obj := ub (zai 10 4) "Trail.depth" zsg (vS "minismt.sattrail" 194) 201
noncomputable def ob_201 (P : Params) : Obj := { cls := zsh "code", data := zv3 #[vS "depth" 425, vS "Trail.depth" 426, vS "/claim/cut.py" 427, zse 162 0, zse 1 0, zse 0 0, zse 0 0, zse 3 0, zsf 196, zsi true, zse 181 0, zsf 197, zsg, zsf 198, zsf 199, zsf 200, zse 429 0, zse 162 0, vS "/claim/cut.py" 430] }
noncomputable def ob_379 (P : Params) : Obj := ub (zbs 21) "_law_known" zsg (vS "law_qz0012_02" 603) 378
noncomputable def ob_378 (P : Params) : Obj := { cls := zsh "code", data := zv3 #[vS "_law_known" 674, vS "_law_known" 675, vS "/claim/cut.py" 676, zse 366 0, zse 1 0, zse 0 0, zse 0 0, zse 3 0, zsf 375, zsi true, zse 181 0, zsf 376, zsg, zsg, zsg, zsf 377, zse 677 0, zse 366 0, vS "/claim/cut.py" 678] }
noncomputable def ob_78 (P : Params) : Obj := ub (zai 3 6) "CoreHeap.rise" zsg (vS "minismt.sattrail" 194) 77
noncomputable def ob_77 (P : Params) : Obj := { cls := zsh "code", data := zv3 #[vS "rise" 260, vS "CoreHeap.rise" 261, vS "/claim/cut.py" 262, zse 36 0, zse 2 0, zse 0 0, zse 0 0, zse 3 0, zsf 72, zsi true, zse 181 0, zsf 73, zsg, zsf 74, zsf 75, zsf 76, zse 267 0, zse 36 0, vS "/claim/cut.py" 268] }
noncomputable def ob_50 (P : Params) : Obj := ub (zai 3 2) "CoreHeap.is_held" zsg (vS "minismt.sattrail" 194) 49
noncomputable def ob_49 (P : Params) : Obj := { cls := zsh "code", data := zv3 #[vS "is_held" 226, vS "CoreHeap.is_held" 227, vS "/claim/cut.py" 228, zse 18 0, zse 2 0, zse 0 0, zse 0 0, zse 3 0, zsf 44, zsi true, zse 181 0, zsf 45, zsg, zsf 46, zsf 47, zsf 48, zse 231 0, zse 18 0, vS "/claim/cut.py" 232] }
noncomputable def ob_99 (P : Params) : Obj := ub (zai 3 9) "CoreHeap.push" zsg (vS "minismt.sattrail" 194) 98
noncomputable def ob_98 (P : Params) : Obj := { cls := zsh "code", data := zv3 #[vS "push" 290, vS "CoreHeap.push" 291, vS "/claim/cut.py" 292, zse 64 0, zse 2 0, zse 0 0, zse 0 0, zse 3 0, zsf 93, zsi true, zse 181 0, zsf 94, zsg, zsf 95, zsf 96, zsf 97, zse 295 0, zse 64 0, vS "/claim/cut.py" 296] }
noncomputable def ob_286 (P : Params) : Obj := ub (zai 10 16) "Trail.cancel_until" zsg (vS "minismt.sattrail" 194) 285
noncomputable def ob_285 (P : Params) : Obj := { cls := zsh "code", data := zv3 #[vS "cancel_until" 527, vS "Trail.cancel_until" 528, vS "/claim/cut.py" 529, zse 232 0, zse 2 0, zse 0 0, zse 0 0, zse 3 0, zsf 280, zsi true, zse 181 0, zsf 281, zsg, zsf 282, zsf 283, zsf 284, zse 536 0, zse 232 0, vS "/claim/cut.py" 537] }
noncomputable def ob_369 (P : Params) : Obj := ub (zbs 19) "_law_noted" zsg (vS "law_qz0012_02" 603) 368
noncomputable def ob_368 (P : Params) : Obj := { cls := zsh "code", data := zv3 #[vS "_law_noted" 658, vS "_law_noted" 659, vS "/claim/cut.py" 660, zse 346 0, zse 3 0, zse 0 0, zse 0 0, zse 3 0, zsf 363, zsi true, zse 181 0, zsf 364, zsg, zsf 365, zsf 366, zsf 367, zse 665 0, zse 346 0, vS "/claim/cut.py" 666] }
noncomputable def ob_326 (P : Params) : Obj := ub (zbs 12) "_law_pull" zsg (vS "law_qz0012_02" 603) 325
noncomputable def ob_325 (P : Params) : Obj := { cls := zsh "code", data := zv3 #[vS "_law_pull" 605, vS "_law_pull" 606, vS "/claim/cut.py" 607, zse 308 0, zse 2 0, zse 0 0, zse 0 0, zse 3 0, zsf 320, zsi true, zse 181 0, zsf 321, zsg, zsf 322, zsf 323, zsf 324, zse 611 0, zse 308 0, vS "/claim/cut.py" 612] }
noncomputable def ob_272 (P : Params) : Obj := ub (zai 10 14) "Trail.enqueue" zsg (vS "minismt.sattrail" 194) 271
noncomputable def ob_271 (P : Params) : Obj := { cls := zsh "code", data := zv3 #[vS "enqueue" 510, vS "Trail.enqueue" 511, vS "/claim/cut.py" 512, zse 219 0, zse 3 0, zse 0 0, zse 0 0, zse 3 0, zsf 266, zsi true, zse 181 0, zsf 267, zsg, zsf 268, zsf 269, zsf 270, zse 517 0, zse 219 0, vS "/claim/cut.py" 518] }
noncomputable def ob_307 (P : Params) : Obj := ub (zai 10 19) "Trail.moved" zsg (vS "minismt.sattrail" 194) 306
noncomputable def ob_306 (P : Params) : Obj := { cls := zsh "code", data := zv3 #[vS "moved" 562, vS "Trail.moved" 563, vS "/claim/cut.py" 564, zse 281 0, zse 3 0, zse 0 0, zse 0 0, zse 3 0, zsf 301, zsi true, zse 181 0, zsf 302, zsg, zsf 303, zsf 304, zsf 305, zse 569 0, zse 281 0, vS "/claim/cut.py" 570] }
noncomputable def ob_300 (P : Params) : Obj := ub (zai 10 18) "Trail.visit" zsg (vS "minismt.sattrail" 194) 299
noncomputable def ob_299 (P : Params) : Obj := { cls := zsh "code", data := zv3 #[vS "visit" 548, vS "Trail.visit" 549, vS "/claim/cut.py" 550, zse 260 0, zse 2 0, zse 0 0, zse 0 0, zse 3 0, zsf 294, zsi true, zse 181 0, zsf 295, zsg, zsf 296, zsf 297, zsf 298, zse 559 0, zse 260 0, vS "/claim/cut.py" 560] }
noncomputable def ob_293 (P : Params) : Obj := ub (zai 10 17) "Trail.propagate_clauses" zsg (vS "minismt.sattrail" 194) 292
noncomputable def ob_292 (P : Params) : Obj := { cls := zsh "code", data := zv3 #[vS "propagate_clauses" 539, vS "Trail.propagate_clauses" 540, vS "/claim/cut.py" 541, zse 250 0, zse 1 0, zse 0 0, zse 0 0, zse 3 0, zsf 287, zsi true, zse 181 0, zsf 288, zsg, zsf 289, zsf 290, zsf 291, zse 545 0, zse 250 0, vS "/claim/cut.py" 546] }
noncomputable def ob_279 (P : Params) : Obj := ub (zai 10 15) "Trail.new_level" zsg (vS "minismt.sattrail" 194) 278
noncomputable def ob_278 (P : Params) : Obj := { cls := zsh "code", data := zv3 #[vS "new_level" 520, vS "Trail.new_level" 521, vS "/claim/cut.py" 522, zse 227 0, zse 1 0, zse 0 0, zse 0 0, zse 3 0, zsf 273, zsi true, zse 181 0, zsf 274, zsg, zsf 275, zsf 276, zsf 277, zse 524 0, zse 227 0, vS "/claim/cut.py" 525] }
noncomputable def ob_352 (P : Params) : Obj := ub (zbs 16) "_law_goes_up" zsg (vS "law_qz0012_02" 603) 351
noncomputable def ob_351 (P : Params) : Obj := { cls := zsh "code", data := zv3 #[vS "_law_goes_up" 638, vS "_law_goes_up" 639, vS "/claim/cut.py" 640, zse 330 0, zse 2 0, zse 0 0, zse 0 0, zse 3 0, zsf 346, zsi true, zse 181 0, zsf 347, zsg, zsf 348, zsf 349, zsf 350, zse 643 0, zse 330 0, vS "/claim/cut.py" 644] }
noncomputable def ob_333 (P : Params) : Obj := ub (zbs 13) "_law_sign" zsg (vS "law_qz0012_02" 603) 332
noncomputable def ob_332 (P : Params) : Obj := { cls := zsh "code", data := zv3 #[vS "_law_sign" 614, vS "_law_sign" 615, vS "/claim/cut.py" 616, zse 314 0, zse 1 0, zse 0 0, zse 0 0, zse 3 0, zsf 327, zsi true, zse 181 0, zsf 328, zsg, zsf 329, zsf 330, zsf 331, zse 618 0, zse 314 0, vS "/claim/cut.py" 619] }
noncomputable def ob_120 (P : Params) : Obj := ub (zai 3 12) "CoreHeap.bump" zsg (vS "minismt.sattrail" 194) 119
noncomputable def ob_119 (P : Params) : Obj := { cls := zsh "code", data := zv3 #[vS "bump" 316, vS "CoreHeap.bump" 317, vS "/claim/cut.py" 318, zse 88 0, zse 2 0, zse 0 0, zse 0 0, zse 3 0, zsf 114, zsi true, zse 181 0, zsf 115, zsg, zsf 116, zsf 117, zsf 118, zse 321 0, zse 88 0, vS "/claim/cut.py" 322] }
noncomputable def ob_357 (P : Params) : Obj := ub (zbs 17) "_law_seen" zsg (vS "law_qz0012_02" 603) 356
noncomputable def ob_356 (P : Params) : Obj := { cls := zsh "code", data := zv3 #[vS "_law_seen" 646, vS "_law_seen" 647, vS "/claim/cut.py" 648, zse 334 0, zse 1 0, zse 0 0, zse 0 0, zse 3 0, zsf 353, zsi true, zse 181 0, zsf 354, zsg, zsg, zsg, zsf 355, zse 649 0, zse 334 0, vS "/claim/cut.py" 650] }
noncomputable def ob_362 (P : Params) : Obj := ub (zbs 18) "_law_is_back" zsg (vS "law_qz0012_02" 603) 361
noncomputable def ob_361 (P : Params) : Obj := { cls := zsh "code", data := zv3 #[vS "_law_is_back" 652, vS "_law_is_back" 653, vS "/claim/cut.py" 654, zse 336 0, zse 4 0, zse 0 0, zse 0 0, zse 3 0, zsf 358, zsi true, zse 181 0, zsf 359, zsg, zsg, zsg, zsf 360, zse 655 0, zse 336 0, vS "/claim/cut.py" 656] }
noncomputable def ob_374 (P : Params) : Obj := ub (zbs 20) "_law_is_detour_gone" zsg (vS "law_qz0012_02" 603) 373
noncomputable def ob_373 (P : Params) : Obj := { cls := zsh "code", data := zv3 #[vS "_law_is_detour_gone" 668, vS "_law_is_detour_gone" 669, vS "/claim/cut.py" 670, zse 349 0, zse 3 0, zse 0 0, zse 0 0, zse 3 0, zsf 370, zsi true, zse 181 0, zsf 371, zsg, zsg, zsg, zsf 372, zse 671 0, zse 349 0, vS "/claim/cut.py" 672] }
noncomputable def ob_230 (P : Params) : Obj := ub (zai 10 8) "Trail.watch" zsg (vS "minismt.sattrail" 194) 229
noncomputable def ob_229 (P : Params) : Obj := { cls := zsh "code", data := zv3 #[vS "watch" 459, vS "Trail.watch" 460, vS "/claim/cut.py" 461, zse 181 0, zse 2 0, zse 0 0, zse 0 0, zse 3 0, zsf 224, zsi true, zse 181 0, zsf 225, zsg, zsf 226, zsf 227, zsf 228, zse 465 0, zse 181 0, vS "/claim/cut.py" 466] }
noncomputable def ob_244 (P : Params) : Obj := ub (zai 10 10) "Trail.height" zsg (vS "minismt.sattrail" 194) 243
noncomputable def ob_243 (P : Params) : Obj := { cls := zsh "code", data := zv3 #[vS "height" 476, vS "Trail.height" 477, vS "/claim/cut.py" 478, zse 189 0, zse 2 0, zse 0 0, zse 0 0, zse 3 0, zsf 238, zsi true, zse 181 0, zsf 239, zsg, zsf 240, zsf 241, zsf 242, zse 481 0, zse 189 0, vS "/claim/cut.py" 482] }
noncomputable def ob_160 (P : Params) : Obj := ub (zbs 9) "order_key" zsg (vS "minismt.sattrail" 194) 159
noncomputable def ob_159 (P : Params) : Obj := { cls := zsh "code", data := zv3 #[vS "order_key" 375, vS "order_key" 376, vS "/claim/cut.py" 377, zse 121 0, zse 1 0, zse 0 0, zse 0 0, zse 3 0, zsf 154, zsi true, zse 181 0, zsf 155, zsg, zsf 156, zsf 157, zsf 158, zse 379 0, zse 121 0, vS "/claim/cut.py" 380] }
noncomputable def ob_251 (P : Params) : Obj := ub (zai 10 11) "Trail.by_heights" zsg (vS "minismt.sattrail" 194) 250
noncomputable def ob_250 (P : Params) : Obj := { cls := zsh "code", data := zv3 #[vS "by_heights" 484, vS "Trail.by_heights" 485, vS "/claim/cut.py" 486, zse 194 0, zse 2 0, zse 0 0, zse 0 0, zse 3 0, zsf 245, zsi true, zse 181 0, zsf 246, zsg, zsf 247, zsf 248, zsf 249, zse 490 0, zse 194 0, vS "/claim/cut.py" 491] }
noncomputable def ob_265 (P : Params) : Obj := ub (zai 10 13) "Trail.place" zsg (vS "minismt.sattrail" 194) 264
noncomputable def ob_264 (P : Params) : Obj := { cls := zsh "code", data := zv3 #[vS "place" 501, vS "Trail.place" 502, vS "/claim/cut.py" 503, zse 202 0, zse 2 0, zse 0 0, zse 0 0, zse 3 0, zsf 259, zsi true, zse 181 0, zsf 260, zsg, zsf 261, zsf 262, zsf 263, zse 507 0, zse 202 0, vS "/claim/cut.py" 508] }
noncomputable def ob_223 (P : Params) : Obj := ub (zai 10 7) "Trail.store" zsg (vS "minismt.sattrail" 194) 222
noncomputable def ob_222 (P : Params) : Obj := { cls := zsh "code", data := zv3 #[vS "store" 448, vS "Trail.store" 449, vS "/claim/cut.py" 450, zse 171 0, zse 4 0, zse 0 0, zse 0 0, zse 3 0, zsf 217, zsi true, zse 181 0, zsf 218, zsg, zsf 219, zsf 220, zsf 221, zse 456 0, zse 171 0, vS "/claim/cut.py" 457] }
noncomputable def ob_43 (P : Params) : Obj := ub (zai 3 1) "CoreHeap.many" zsg (vS "minismt.sattrail" 194) 42
noncomputable def ob_42 (P : Params) : Obj := { cls := zsh "code", data := zv3 #[vS "many" 219, vS "CoreHeap.many" 220, vS "/claim/cut.py" 221, zse 15 0, zse 1 0, zse 0 0, zse 0 0, zse 3 0, zsf 37, zsi true, zse 181 0, zsf 38, zsg, zsf 39, zsf 40, zsf 41, zse 223 0, zse 15 0, vS "/claim/cut.py" 224] }
noncomputable def ob_64 (P : Params) : Obj := ub (zai 3 4) "CoreHeap.grow" zsg (vS "minismt.sattrail" 194) 63
noncomputable def ob_63 (P : Params) : Obj := { cls := zsh "code", data := zv3 #[vS "grow" 243, vS "CoreHeap.grow" 244, vS "/claim/cut.py" 245, zse 26 0, zse 2 0, zse 0 0, zse 0 0, zse 3 0, zsf 58, zsi true, zse 181 0, zsf 59, zsg, zsf 60, zsf 61, zsf 62, zse 248 0, zse 26 0, vS "/claim/cut.py" 249] }
noncomputable def ob_181 (P : Params) : Obj := ub (zai 10 1) "Trail.grow" zsg (vS "minismt.sattrail" 194) 180
noncomputable def ob_180 (P : Params) : Obj := { cls := zsh "code", data := zv3 #[vS "grow" 402, vS "Trail.grow" 403, vS "/claim/cut.py" 404, zse 144 0, zse 1 0, zse 0 0, zse 0 0, zse 3 0, zsf 175, zsi true, zse 181 0, zsf 176, zsg, zsf 177, zsf 178, zsf 179, zse 407 0, zse 144 0, vS "/claim/cut.py" 408] }
noncomputable def ob_29 (P : Params) : Obj := { cls := zsh "tuple", data := Data.seq #[zse 1000000000000 210] }
noncomputable def ob_36 (P : Params) : Obj := ub (zai 3 0) "CoreHeap.__init__" (zsf 29) (vS "minismt.sattrail" 194) 35
noncomputable def ob_35 (P : Params) : Obj := { cls := zsh "code", data := zv3 #[vS "__init__" 211, vS "CoreHeap.__init__" 212, vS "/claim/cut.py" 213, zse 8 0, zse 2 0, zse 0 0, zse 0 0, zse 3 0, zsf 30, zsi true, zse 181 0, zsf 31, zsg, zsf 32, zsf 33, zsf 34, zse 216 0, zse 8 0, vS "/claim/cut.py" 217] }
noncomputable def ob_174 (P : Params) : Obj := ub (zai 10 0) "Trail.__init__" zsg (vS "minismt.sattrail" 194) 173
noncomputable def ob_173 (P : Params) : Obj := { cls := zsh "code", data := zv3 #[vS "__init__" 394, vS "Trail.__init__" 395, vS "/claim/cut.py" 396, zse 125 0, zse 2 0, zse 0 0, zse 0 0, zse 3 0, zsf 168, zsi true, zse 181 0, zsf 169, zsg, zsf 170, zsf 171, zsf 172, zse 399 0, zse 125 0, vS "/claim/cut.py" 400] }
noncomputable def ob_345 (P : Params) : Obj := ub (zbs 15) "_law_trail" zsg (vS "law_qz0012_02" 603) 344
noncomputable def ob_344 (P : Params) : Obj := { cls := zsh "code", data := zv3 #[vS "_law_trail" 627, vS "_law_trail" 628, vS "/claim/cut.py" 629, zse 323 0, zse 2 0, zse 0 0, zse 0 0, zse 3 0, zsf 339, zsi true, zse 181 0, zsf 340, zsg, zsf 341, zsf 342, zsf 343, zse 635 0, zse 323 0, vS "/claim/cut.py" 636] }
noncomputable def ob_338 (P : Params) : Obj := ub (zbs 14) "_law_lots" zsg (vS "law_qz0012_02" 603) 337
noncomputable def ob_337 (P : Params) : Obj := { cls := zsh "code", data := zv3 #[vS "_law_lots" 621, vS "_law_lots" 622, vS "/claim/cut.py" 623, zse 316 0, zse 2 0, zse 0 0, zse 0 0, zse 3 0, zsf 334, zsi true, zse 181 0, zsf 335, zsg, zsg, zsg, zsf 336, zse 624 0, zse 316 0, vS "/claim/cut.py" 625] }
noncomputable def ob_391 (P : Params) : Obj := ub (zbs 23) "law" zsg (vS "law_qz0012_02" 603) 390
noncomputable def ob_390 (P : Params) : Obj := { cls := zsh "code", data := zv3 #[vS "law" 689, vS "law" 690, vS "/claim/cut.py" 691, zse 373 0, zse 1 0, zse 0 0, zse 0 0, zse 3 0, zsf 387, zsi true, zse 181 0, zsf 388, zsg, zsg, zsg, zsf 389, zse 692 0, zse 373 0, vS "/claim/cut.py" 693] }
noncomputable def K0 (P : Params) : Frag := [(3, ob_3 P), (142, ob_142 P), (141, ob_141 P), (315, ob_315 P), (314, ob_314 P), (71, ob_71 P), (70, ob_70 P), (57, ob_57 P), (56, ob_56 P), (85, ob_85 P), (84, ob_84 P), (92, ob_92 P), (91, ob_91 P), (106, ob_106 P), (105, ob_105 P), (113, ob_113 P), (112, ob_112 P), (188, ob_188 P), (187, ob_187 P), (386, ob_386 P), (385, ob_385 P), (195, ob_195 P), (194, ob_194 P), (153, ob_153 P), (152, ob_152 P), (312, ob_312 P), (311, ob_311 P), (202, ob_202 P), (201, ob_201 P), (379, ob_379 P), (378, ob_378 P), (78, ob_78 P), (77, ob_77 P), (50, ob_50 P), (49, ob_49 P), (99, ob_99 P), (98, ob_98 P), (286, ob_286 P), (285, ob_285 P), (369, ob_369 P), (368, ob_368 P), (326, ob_326 P), (325, ob_325 P), (272, ob_272 P), (271, ob_271 P), (307, ob_307 P), (306, ob_306 P), (300, ob_300 P), (299, ob_299 P), (293, ob_293 P), (292, ob_292 P), (279, ob_279 P), (278, ob_278 P), (352, ob_352 P), (351, ob_351 P), (333, ob_333 P), (332, ob_332 P), (120, ob_120 P), (119, ob_119 P), (357, ob_357 P), (356, ob_356 P), (362, ob_362 P), (361, ob_361 P), (374, ob_374 P), (373, ob_373 P), (230, ob_230 P), (229, ob_229 P), (244, ob_244 P), (243, ob_243 P), (160, ob_160 P), (159, ob_159 P), (251, ob_251 P), (250, ob_250 P), (265, ob_265 P), (264, ob_264 P), (223, ob_223 P), (222, ob_222 P), (43, ob_43 P), (42, ob_42 P), (64, ob_64 P), (63, ob_63 P), (181, ob_181 P), (180, ob_180 P), (29, ob_29 P), (36, ob_36 P), (35, ob_35 P), (174, ob_174 P), (173, ob_173 P), (345, ob_345 P), (344, ob_344 P), (338, ob_338 P), (337, ob_337 P), (391, ob_391 P), (390, ob_390 P)]
noncomputable def ads : List Addr := [3, 142, 141, 315, 314, 71, 70, 57, 56, 85, 84, 92, 91, 106, 105, 113, 112, 188, 187, 386, 385, 195, 194, 153, 152, 312, 311, 202, 201, 379, 378, 78, 77, 50, 49, 99, 98, 286, 285, 369, 368, 326, 325, 272, 271, 307, 306, 300, 299, 293, 292, 279, 278, 352, 351, 333, 332, 120, 119, 357, 356, 362, 361, 374, 373, 230, 229, 244, 243, 160, 159, 251, 250, 265, 264, 223, 222, 43, 42, 64, 63, 181, 180, 29, 36, 35, 174, 173, 345, 344, 338, 337, 391, 390]
set_option genInjectivity false in
structure Par where
 w : World
 base : Heap
 mg : Str → Option Value
 mb : Str → Option Value
 p : Program
 loose : List Str
 KX : (K0 w.params).In base
 T : TopRead p loose mg mb base
noncomputable def qh : Nat → List Str
 | 0 => ["limit", "step", "activity", "heap", "place"]
 | 1 => ["hook", "assigns", "levels", "reasons", "spots", "phases", "watches", "heap", "trail", "starts", "head", "told", "clauses", "steps", "droppable", "activities", "learnt_count"]
 | _ => ["cells", "pull"]
noncomputable def cls1 : Nat → Option Addr
 | 0 => some 142
 | 1 => some 315
 | _ => none
noncomputable def W1 (p : Par) : Wd := { prog := PySem.Challenge.rw_qz0012_02.row.prog, w := p.w, base := p.base, K := K0 p.w.params, mg := p.mg, mb := p.mb, p := p.p, loose := p.loose, KX := p.KX, T := p.T, names := qh, cls := cls1 }
theorem dic2 (p : Par) : Dic (W1 p) 2 := ⟨rfl, by show (qh 2).Nodup; decide, by show (qh 2).length ≤ 1000; decide⟩
theorem jg (p : Par) : Cls (W1 p) 0 142 141 := by
 refine ⟨rfl, ⟨_, _, _, _, _, _, _, _, _, _, _, _, _, _, rfl⟩, by kernel_rfl, by kernel_rfl, by kernel_rfl, by kernel_rfl, ?_, by show (qh 0).Nodup; decide, by show (qh 0).length ≤ 1000; decide⟩
 intro x hx
 have hx : x ∈ (["limit", "step", "activity", "heap", "place"] : List Str) := hx
 simp only [zss, zu9, or_false] at hx
 rcases hx with rfl | rfl | rfl | rfl | rfl
 all_goals exact ⟨by kernel_rfl, by rw [typeLookup_type, builtinLookup_eq_fast]; kernel_rfl⟩
theorem ye (p : Par) : Cls (W1 p) 1 315 314 := by
 refine ⟨rfl, ⟨_, _, _, _, _, _, _, _, _, _, _, _, _, _, rfl⟩, by kernel_rfl, by kernel_rfl, by kernel_rfl, by kernel_rfl, ?_, by show (qh 1).Nodup; decide, by show (qh 1).length ≤ 1000; decide⟩
 intro x hx
 have hx : x ∈ (["hook", "assigns", "levels", "reasons", "spots", "phases", "watches", "heap", "trail", "starts", "head", "told", "clauses", "steps", "droppable", "activities", "learnt_count"] : List Str) := hx
 simp only [zss, zu9, or_false] at hx
 rcases hx with rfl | rfl | rfl | rfl | rfl | rfl | rfl | rfl | rfl | rfl | rfl | rfl | rfl | rfl | rfl | rfl | rfl
 all_goals exact ⟨by kernel_rfl, by rw [typeLookup_type, builtinLookup_eq_fast]; kernel_rfl⟩
theorem vr (p : Par) : nsIn (W1 p).K mainGlobals "FALSE" = some (some (.int (-1) 363)) := by kernel_rfl
theorem zho (p : Par) : nsIn (W1 p).K mainGlobals "FIRST_STEP" = some (some (.int (1024) 196)) := by kernel_rfl
theorem g7 (p : Par) : nsIn (W1 p).K mainGlobals "NO_CLAUSE" = some (some (.int (-1) 366)) := by kernel_rfl
theorem zje (p : Par) : nsIn (W1 p).K mainGlobals "TRUE" = some (some (.int (1) 360)) := by kernel_rfl
theorem xi (p : Par) : nsIn (W1 p).K mainGlobals "UNKNOWN" = some (some (.int (0) 358)) := by kernel_rfl
theorem vh (p : Par) : Bl (W1 p) "abs" (.builtin "abs") := ⟨by kernel_rfl, by decide +kernel, by decide, by decide, .inl ⟨_, rfl⟩⟩
theorem qs (p : Par) : Bl (W1 p) "len" (.builtin "len") := ⟨by kernel_rfl, by decide +kernel, by decide, by decide, .inl ⟨_, rfl⟩⟩
theorem znh (p : Par) : Bl (W1 p) "list" (.type "list") := ⟨by kernel_rfl, by decide +kernel, by decide, by decide, .inr ⟨_, rfl⟩⟩
theorem zqq (p : Par) : Bl (W1 p) "min" (.builtin "min") := ⟨by kernel_rfl, by decide +kernel, by decide, by decide, .inl ⟨_, rfl⟩⟩
theorem je (p : Par) : Bl (W1 p) "range" (.type "range") := ⟨by kernel_rfl, by decide +kernel, by decide, by decide, .inr ⟨_, rfl⟩⟩
theorem zir (p : Par) : Bl (W1 p) "sorted" (.builtin "sorted") := ⟨by kernel_rfl, by decide +kernel, by decide, by decide, .inl ⟨_, rfl⟩⟩
theorem zj2 (p : Par) : Mk (W1 p) "CoreHeap" 142 := ⟨by kernel_rfl, by kernel_rfl, by decide⟩
theorem zpu (p : Par) : Mk (W1 p) "Trail" 315 := ⟨by kernel_rfl, by kernel_rfl, by decide⟩
theorem zap (p : Par) : Fn (W1 p) "_law_goes_up" 352 := ⟨by kernel_rfl, _, _, (rfl : (K0 p.w.params).lookup 352 = some _), rfl⟩
theorem zct (p : Par) : Fn (W1 p) "_law_is_back" 362 := ⟨by kernel_rfl, _, _, (rfl : (K0 p.w.params).lookup 362 = some _), rfl⟩
theorem zck (p : Par) : Fn (W1 p) "_law_is_detour_gone" 374 := ⟨by kernel_rfl, _, _, (rfl : (K0 p.w.params).lookup 374 = some _), rfl⟩
theorem zep (p : Par) : Fn (W1 p) "_law_known" 379 := ⟨by kernel_rfl, _, _, (rfl : (K0 p.w.params).lookup 379 = some _), rfl⟩
theorem zj6 (p : Par) : Fn (W1 p) "_law_lots" 338 := ⟨by kernel_rfl, _, _, (rfl : (K0 p.w.params).lookup 338 = some _), rfl⟩
theorem zb7 (p : Par) : Fn (W1 p) "_law_noted" 369 := ⟨by kernel_rfl, _, _, (rfl : (K0 p.w.params).lookup 369 = some _), rfl⟩
theorem qq (p : Par) : Fn (W1 p) "_law_pull" 326 := ⟨by kernel_rfl, _, _, (rfl : (K0 p.w.params).lookup 326 = some _), rfl⟩
theorem zc7 (p : Par) : Fn (W1 p) "_law_seen" 357 := ⟨by kernel_rfl, _, _, (rfl : (K0 p.w.params).lookup 357 = some _), rfl⟩
theorem zc6 (p : Par) : Fn (W1 p) "_law_sign" 333 := ⟨by kernel_rfl, _, _, (rfl : (K0 p.w.params).lookup 333 = some _), rfl⟩
theorem zfx (p : Par) : Fn (W1 p) "_law_told" 386 := ⟨by kernel_rfl, _, _, (rfl : (K0 p.w.params).lookup 386 = some _), rfl⟩
theorem zeo (p : Par) : Fn (W1 p) "_law_trail" 345 := ⟨by kernel_rfl, _, _, (rfl : (K0 p.w.params).lookup 345 = some _), rfl⟩
theorem zi4 (p : Par) : Fn (W1 p) "order_key" 160 := ⟨by kernel_rfl, _, _, (rfl : (K0 p.w.params).lookup 160 = some _), rfl⟩
theorem ve (p : Par) : Fn (W1 p) "place_of" 153 := ⟨by kernel_rfl, _, _, (rfl : (K0 p.w.params).lookup 153 = some _), rfl⟩
theorem za5 (p : Par) : Mt (W1 p) 0 142 141 "better_child" 85 := ⟨jg p, by kernel_rfl, ⟨_, _, (rfl : (K0 p.w.params).lookup 85 = some _), rfl, rfl⟩, ⟨none, by rw [typeLookup_type, builtinLookup_eq_fast]; kernel_rfl⟩, by show ("better_child" : Str) ∉ qh 0; decide⟩
theorem zic (p : Par) : Mt (W1 p) 0 142 141 "bump" 120 := ⟨jg p, by kernel_rfl, ⟨_, _, (rfl : (K0 p.w.params).lookup 120 = some _), rfl, rfl⟩, ⟨none, by rw [typeLookup_type, builtinLookup_eq_fast]; kernel_rfl⟩, by show ("bump" : Str) ∉ qh 0; decide⟩
theorem zn3 (p : Par) : Mt (W1 p) 0 142 141 "grow" 64 := ⟨jg p, by kernel_rfl, ⟨_, _, (rfl : (K0 p.w.params).lookup 64 = some _), rfl, rfl⟩, ⟨none, by rw [typeLookup_type, builtinLookup_eq_fast]; kernel_rfl⟩, by show ("grow" : Str) ∉ qh 0; decide⟩
theorem zan (p : Par) : Mt (W1 p) 0 142 141 "is_before" 57 := ⟨jg p, by kernel_rfl, ⟨_, _, (rfl : (K0 p.w.params).lookup 57 = some _), rfl, rfl⟩, ⟨none, by rw [typeLookup_type, builtinLookup_eq_fast]; kernel_rfl⟩, by show ("is_before" : Str) ∉ qh 0; decide⟩
theorem zb4 (p : Par) : Mt (W1 p) 0 142 141 "is_held" 50 := ⟨jg p, by kernel_rfl, ⟨_, _, (rfl : (K0 p.w.params).lookup 50 = some _), rfl, rfl⟩, ⟨none, by rw [typeLookup_type, builtinLookup_eq_fast]; kernel_rfl⟩, by show ("is_held" : Str) ∉ qh 0; decide⟩
theorem zib (p : Par) : Mt (W1 p) 0 142 141 "many" 43 := ⟨jg p, by kernel_rfl, ⟨_, _, (rfl : (K0 p.w.params).lookup 43 = some _), rfl, rfl⟩, ⟨none, by rw [typeLookup_type, builtinLookup_eq_fast]; kernel_rfl⟩, by show ("many" : Str) ∉ qh 0; decide⟩
theorem zkq (p : Par) : Mt (W1 p) 0 142 141 "pop" 106 := ⟨jg p, by kernel_rfl, ⟨_, _, (rfl : (K0 p.w.params).lookup 106 = some _), rfl, rfl⟩, ⟨none, by rw [typeLookup_type, builtinLookup_eq_fast]; kernel_rfl⟩, by show ("pop" : Str) ∉ qh 0; decide⟩
theorem xh (p : Par) : Mt (W1 p) 0 142 141 "pop_best" 113 := ⟨jg p, by kernel_rfl, ⟨_, _, (rfl : (K0 p.w.params).lookup 113 = some _), rfl, rfl⟩, ⟨none, by rw [typeLookup_type, builtinLookup_eq_fast]; kernel_rfl⟩, by show ("pop_best" : Str) ∉ qh 0; decide⟩
theorem zia (p : Par) : Mt (W1 p) 0 142 141 "push" 99 := ⟨jg p, by kernel_rfl, ⟨_, _, (rfl : (K0 p.w.params).lookup 99 = some _), rfl, rfl⟩, ⟨none, by rw [typeLookup_type, builtinLookup_eq_fast]; kernel_rfl⟩, by show ("push" : Str) ∉ qh 0; decide⟩
theorem zdc (p : Par) : Mt (W1 p) 0 142 141 "put" 71 := ⟨jg p, by kernel_rfl, ⟨_, _, (rfl : (K0 p.w.params).lookup 71 = some _), rfl, rfl⟩, ⟨none, by rw [typeLookup_type, builtinLookup_eq_fast]; kernel_rfl⟩, by show ("put" : Str) ∉ qh 0; decide⟩
theorem zh9 (p : Par) : Mt (W1 p) 0 142 141 "rise" 78 := ⟨jg p, by kernel_rfl, ⟨_, _, (rfl : (K0 p.w.params).lookup 78 = some _), rfl, rfl⟩, ⟨none, by rw [typeLookup_type, builtinLookup_eq_fast]; kernel_rfl⟩, by show ("rise" : Str) ∉ qh 0; decide⟩
theorem zn2 (p : Par) : Mt (W1 p) 0 142 141 "sink" 92 := ⟨jg p, by kernel_rfl, ⟨_, _, (rfl : (K0 p.w.params).lookup 92 = some _), rfl, rfl⟩, ⟨none, by rw [typeLookup_type, builtinLookup_eq_fast]; kernel_rfl⟩, by show ("sink" : Str) ∉ qh 0; decide⟩
theorem zf3 (p : Par) : Mt (W1 p) 1 315 314 "by_heights" 251 := ⟨ye p, by kernel_rfl, ⟨_, _, (rfl : (K0 p.w.params).lookup 251 = some _), rfl, rfl⟩, ⟨none, by rw [typeLookup_type, builtinLookup_eq_fast]; kernel_rfl⟩, by show ("by_heights" : Str) ∉ qh 1; decide⟩
theorem qv (p : Par) : Mt (W1 p) 1 315 314 "cancel_until" 286 := ⟨ye p, by kernel_rfl, ⟨_, _, (rfl : (K0 p.w.params).lookup 286 = some _), rfl, rfl⟩, ⟨none, by rw [typeLookup_type, builtinLookup_eq_fast]; kernel_rfl⟩, by show ("cancel_until" : Str) ∉ qh 1; decide⟩
theorem jn (p : Par) : Mt (W1 p) 1 315 314 "depth" 202 := ⟨ye p, by kernel_rfl, ⟨_, _, (rfl : (K0 p.w.params).lookup 202 = some _), rfl, rfl⟩, ⟨none, by rw [typeLookup_type, builtinLookup_eq_fast]; kernel_rfl⟩, by show ("depth" : Str) ∉ qh 1; decide⟩
theorem zaa (p : Par) : Mt (W1 p) 1 315 314 "enqueue" 272 := ⟨ye p, by kernel_rfl, ⟨_, _, (rfl : (K0 p.w.params).lookup 272 = some _), rfl, rfl⟩, ⟨none, by rw [typeLookup_type, builtinLookup_eq_fast]; kernel_rfl⟩, by show ("enqueue" : Str) ∉ qh 1; decide⟩
theorem zn1 (p : Par) : Mt (W1 p) 1 315 314 "grow" 181 := ⟨ye p, by kernel_rfl, ⟨_, _, (rfl : (K0 p.w.params).lookup 181 = some _), rfl, rfl⟩, ⟨none, by rw [typeLookup_type, builtinLookup_eq_fast]; kernel_rfl⟩, by show ("grow" : Str) ∉ qh 1; decide⟩
theorem zbf (p : Par) : Mt (W1 p) 1 315 314 "is_sound" 312 := ⟨ye p, by kernel_rfl, ⟨_, _, (rfl : (K0 p.w.params).lookup 312 = some _), rfl, rfl⟩, ⟨none, by rw [typeLookup_type, builtinLookup_eq_fast]; kernel_rfl⟩, by show ("is_sound" : Str) ∉ qh 1; decide⟩
theorem zlq (p : Par) : Mt (W1 p) 1 315 314 "moved" 307 := ⟨ye p, by kernel_rfl, ⟨_, _, (rfl : (K0 p.w.params).lookup 307 = some _), rfl, rfl⟩, ⟨none, by rw [typeLookup_type, builtinLookup_eq_fast]; kernel_rfl⟩, by show ("moved" : Str) ∉ qh 1; decide⟩
theorem zgb (p : Par) : Mt (W1 p) 1 315 314 "new_level" 279 := ⟨ye p, by kernel_rfl, ⟨_, _, (rfl : (K0 p.w.params).lookup 279 = some _), rfl, rfl⟩, ⟨none, by rw [typeLookup_type, builtinLookup_eq_fast]; kernel_rfl⟩, by show ("new_level" : Str) ∉ qh 1; decide⟩
theorem zlp (p : Par) : Mt (W1 p) 1 315 314 "place" 265 := ⟨ye p, by kernel_rfl, ⟨_, _, (rfl : (K0 p.w.params).lookup 265 = some _), rfl, rfl⟩, ⟨none, by rw [typeLookup_type, builtinLookup_eq_fast]; kernel_rfl⟩, by show ("place" : Str) ∉ qh 1; decide⟩
theorem vn (p : Par) : Mt (W1 p) 1 315 314 "propagate_clauses" 293 := ⟨ye p, by kernel_rfl, ⟨_, _, (rfl : (K0 p.w.params).lookup 293 = some _), rfl, rfl⟩, ⟨none, by rw [typeLookup_type, builtinLookup_eq_fast]; kernel_rfl⟩, by show ("propagate_clauses" : Str) ∉ qh 1; decide⟩
theorem zlo (p : Par) : Mt (W1 p) 1 315 314 "store" 223 := ⟨ye p, by kernel_rfl, ⟨_, _, (rfl : (K0 p.w.params).lookup 223 = some _), rfl, rfl⟩, ⟨none, by rw [typeLookup_type, builtinLookup_eq_fast]; kernel_rfl⟩, by show ("store" : Str) ∉ qh 1; decide⟩
theorem kt (p : Par) : Mt (W1 p) 1 315 314 "value" 195 := ⟨ye p, by kernel_rfl, ⟨_, _, (rfl : (K0 p.w.params).lookup 195 = some _), rfl, rfl⟩, ⟨none, by rw [typeLookup_type, builtinLookup_eq_fast]; kernel_rfl⟩, by show ("value" : Str) ∉ qh 1; decide⟩
theorem zam (p : Par) : Mt (W1 p) 1 315 314 "var_count" 188 := ⟨ye p, by kernel_rfl, ⟨_, _, (rfl : (K0 p.w.params).lookup 188 = some _), rfl, rfl⟩, ⟨none, by rw [typeLookup_type, builtinLookup_eq_fast]; kernel_rfl⟩, by show ("var_count" : Str) ∉ qh 1; decide⟩
theorem zln (p : Par) : Mt (W1 p) 1 315 314 "visit" 300 := ⟨ye p, by kernel_rfl, ⟨_, _, (rfl : (K0 p.w.params).lookup 300 = some _), rfl, rfl⟩, ⟨none, by rw [typeLookup_type, builtinLookup_eq_fast]; kernel_rfl⟩, by show ("visit" : Str) ∉ qh 1; decide⟩
theorem zlm (p : Par) : Mt (W1 p) 1 315 314 "watch" 230 := ⟨ye p, by kernel_rfl, ⟨_, _, (rfl : (K0 p.w.params).lookup 230 = some _), rfl, rfl⟩, ⟨none, by rw [typeLookup_type, builtinLookup_eq_fast]; kernel_rfl⟩, by show ("watch" : Str) ∉ qh 1; decide⟩
theorem zka (p : Par) : Bm (W1 p) 1 315 "height" 244 := ⟨rfl, by kernel_rfl, by kernel_rfl, by kernel_rfl, by kernel_rfl, by kernel_rfl, by decide +kernel, by kernel_rfl, by show ("height" : Str) ∉ qh 1; decide⟩
noncomputable def zcv : DS :=
 (zw (zq (zd 2) (y9 (zp 0 3 (zd 0)) (zd 1)))
 (zw (zq (zd 1) (y9 (zp 0 4 (zd 0)) (zd 2)))
 z3))
noncomputable def yp : DF := jl 3 3 [] zcv
theorem jo (p : Par) : FS (W1 p) 1 (.ref 71) yp := by
 refine yg (names := ["self", "spot", "var"]) (sl := [some "self", some "spot", some "var"]) (dm := []) (dv := []) (rfl : (K0 p.w.params).lookup 71 = some _) (by kernel_rfl) (fun L => ?_) (fun _ _ => .nil) (fun s ys hl hb => by obtain ⟨a, b, c, rfl⟩ := ys3 hl; exact zv5 rfl) (by kernel_rfl)
 unfold zcv
 exact (zi (zg zl (j5 (za (jg p) zl) zl))
 (zi (zg zl (j5 (za (jg p) zl) zl))
 z6))
noncomputable def xo : DS :=
 (zw (yt (z9 .NotEq (wd (zp 0 2 (zd 0)) (zd 1)) (wd (zp 0 2 (zd 0)) (zd 2))) (zw (qb (zch .Gt (wd (zp 0 2 (zd 0)) (zd 1)) (wd (zp 0 2 (zd 0)) (zd 2))))
 z3) z3)
 (zw (qb (zch .Lt (zd 1) (zd 2)))
 z3))
noncomputable def wr : DF := jl 3 3 [] xo
theorem js (p : Par) : FS (W1 p) 1 (.ref 57) wr := by
 refine yg (names := ["self", "one", "other"]) (sl := [some "self", some "one", some "other"]) (dm := []) (dv := []) (rfl : (K0 p.w.params).lookup 57 = some _) (by kernel_rfl) (fun L => ?_) (fun _ _ => .nil) (fun s ys hl hb => by obtain ⟨a, b, c, rfl⟩ := ys3 hl; exact zv5 rfl) (by kernel_rfl)
 unfold xo
 exact (zi (qx (zc (zs (za (jg p) zl) zl) (zs (za (jg p) zl) zl)) (zi (yk (ze (zs (za (jg p) zl) zl) (zs (za (jg p) zl) zl)))
 z6) z6)
 (zi (yk (ze zl zl))
 z6))
noncomputable def qn : DS :=
 (zw (zq (wo o.add (wo o.mul (zh (.int 2)) (zd 1)) (zh (.int 1))) (zy 2))
 (zw (yt (z9 .GtE (zd 2) (z4 b.len [(zp 0 3 (zd 0))])) (zw (qb (uf (zh (.int 1))))
 z3) z3)
 (zw (zq (wo o.add (zd 2) (zh (.int 1))) (zy 3))
 (zw (yt (km (z9 .Lt (zd 3) (z4 b.len [(zp 0 3 (zd 0))])) (km (qd (z5 0 wr (zd 0) [(wd (zp 0 3 (zd 0)) (zd 3)), (wd (zp 0 3 (zd 0)) (zd 2))])) zg8)) (zw (qb (zd 3))
 z3) z3)
 (zw (qb (zd 2))
 z3)))))
noncomputable def yi : DF := jl 2 4 [] qn
theorem un (p : Par) : FS (W1 p) 2 (.ref 85) yi := by
 refine yg (names := ["self", "spot"]) (sl := [some "self", some "spot", some "left", some "right"]) (dm := []) (dv := []) (rfl : (K0 p.w.params).lookup 85 = some _) (by kernel_rfl) (fun L => ?_) (fun _ _ => .nil) (fun s ys hl hb => by obtain ⟨a, b, rfl⟩ := ys2 hl; exact zv5 rfl) (by kernel_rfl)
 unfold qn
 exact (zi (zg (yl gh (yl zco z8 zl) z8) zt)
 (zi (qx (zc zl (zb (qs p) qr (zo (za (jg p) zl)))) (zi (yk (xf z8))
 z6) z6)
 (zi (zg (yl gh zl z8) zt)
 (zi (qx (zar (zc zl (zb (qs p) qr (zo (za (jg p) zl)))) (zar (zv (zm (zan p) (js p) zl (zn (zs (za (jg p) zl) zl) (zo (zs (za (jg p) zl) zl))))) xe)) (zi (yk zl)
 z6) z6)
 (zi (yk zl)
 z6)))))
noncomputable def xb : DS :=
 (zw (wh (z5 0 yp (zd 0) [(zd 1), (wd (zp 0 3 (zd 0)) (zd 3))]))
 (zw (zq (zd 3) (zy 1))
 (zw (zq (z5 0 yi (zd 0) [(zd 1)]) (zy 3))
 z3)))
noncomputable def xt : DS :=
 (zw (zq (wd (zp 0 3 (zd 0)) (zd 1)) (zy 2))
 (zw (zq (z5 0 yi (zd 0) [(zd 1)]) (zy 3))
 (zw (vm (km (z9 .GtE (zd 3) (zh (.int 0))) (km (qd (z5 0 wr (zd 0) [(wd (zp 0 3 (zd 0)) (zd 3)), (zd 2)])) zg8)) xb zjf)
 (zw (wh (z5 0 yp (zd 0) [(zd 1), (zd 2)]))
 z3))))
noncomputable def jr : DF := jl 2 4 [] xt
theorem zfc (p : Par) : FS (W1 p) 3 (.ref 92) jr := by
 refine yg (names := ["self", "spot"]) (sl := [some "self", some "spot", some "var", some "below"]) (dm := []) (dv := []) (rfl : (K0 p.w.params).lookup 92 = some _) (by kernel_rfl) (fun L => ?_) (fun _ _ => .nil) (fun s ys hl hb => by obtain ⟨a, b, rfl⟩ := ys2 hl; exact zv5 rfl) (by kernel_rfl)
 unfold xt
 exact (zi (zg (zs (za (jg p) zl) zl) zt)
 (zi (zg (zm (za5 p) (un p) zl (zo zl)) zt)
 (zi (zda (zar (zc zl z8) (zar (zv (zm (zan p) (js p) zl (zn (zs (za (jg p) zl) zl) (zo zl)))) xe)) (zi (zx (zm (zdc p) (jo p) zl (zn zl (zo (zs (za (jg p) zl) zl)))))
 (zi (zg zl zt)
 (zi (zg (zm (za5 p) (un p) zl (zo zl)) zt)
 z6))))
 (zi (zx (zm (zdc p) (jo p) zl (zn zl (zo zl))))
 z6))))
noncomputable def zcw : DS :=
 (zw (yt (z9 .Eq (z4 b.len [(zp 0 3 (zd 0))]) (zh (.int 0))) (zw (qb (zh (.int 0)))
 z3) z3)
 (zw (zq (wd (zp 0 3 (zd 0)) (zh (.int 0))) (zy 1))
 (zw (zq (yj m.pop (zp 0 3 (zd 0)) []) (zy 2))
 (zw (zq (uf (zh (.int 1))) (y9 (zp 0 4 (zd 0)) (zd 1)))
 (zw (yt (z9 .Gt (z4 b.len [(zp 0 3 (zd 0))]) (zh (.int 0))) (zw (wh (z5 0 yp (zd 0) [(zh (.int 0)), (zd 2)]))
 (zw (wh (z5 0 jr (zd 0) [(zh (.int 0))]))
 z3)) z3)
 (zw (qb (zd 1))
 z3))))))
noncomputable def gf : DF := jl 1 3 [] zcw
theorem zb8 (p : Par) : FS (W1 p) 4 (.ref 106) gf := by
 refine yg (names := ["self"]) (sl := [some "self", some "best", some "last"]) (dm := []) (dv := []) (rfl : (K0 p.w.params).lookup 106 = some _) (by kernel_rfl) (fun L => ?_) (fun _ _ => .nil) (fun s ys hl hb => by obtain ⟨a, rfl⟩ := ys1 hl; exact zv5 rfl) (by kernel_rfl)
 unfold zcw
 exact (zi (qx (zc (zb (qs p) qr (zo (za (jg p) zl))) z8) (zi (yk z8)
 z6) z6)
 (zi (zg (zs (za (jg p) zl) z8) zt)
 (zi (zg (zk cm_pop PySem.F.slot_list_pop PySem.F.type_list_pop (za (jg p) zl) y7) zt)
 (zi (zg (xf z8) (j5 (za (jg p) zl) zl))
 (zi (qx (zc (zb (qs p) qr (zo (za (jg p) zl))) z8) (zi (zx (zm (zdc p) (jo p) zl (zn z8 (zo zl))))
 (zi (zx (zm (zn2 p) (zfc p) zl (zo z8)))
 z6)) z6)
 (zi (yk zl)
 z6))))))
noncomputable def j6 : DS :=
 (zw (zq (z5 0 gf (zd 0) []) (zy 2))
 z3)
noncomputable def x5 : DS :=
 (zw (zq (z5 0 gf (zd 0) []) (zy 2))
 (zw (vm (km (z9 .Gt (zd 2) (zh (.int 0))) (km (z9 .NotEq (wd (zd 1) (zd 2)) (zh (.int 0))) zg8)) j6 zjf)
 (zw (qb (zd 2))
 z3)))
noncomputable def wp : DF := jl 2 3 [] x5
theorem gl (p : Par) : FS (W1 p) 5 (.ref 113) wp := by
 refine yg (names := ["self", "known"]) (sl := [some "self", some "known", some "var"]) (dm := []) (dv := []) (rfl : (K0 p.w.params).lookup 113 = some _) (by kernel_rfl) (fun L => ?_) (fun _ _ => .nil) (fun s ys hl hb => by obtain ⟨a, b, rfl⟩ := ys2 hl; exact zv5 rfl) (by kernel_rfl)
 unfold x5
 exact (zi (zg (zm (zkq p) (zb8 p) zl y7) zt)
 (zi (zda (zar (zc zl z8) (zar (zc (zs zl zl) z8) xe)) (zi (zg (zm (zkq p) (zb8 p) zl y7) zt)
 z6))
 (zi (yk zl)
 z6)))
noncomputable def za6 : DS :=
 (zw (qb (wo o.sub (z4 b.len [(zp 1 1 (zd 0))]) (zh (.int 1))))
 z3)
noncomputable def yq : DF := jl 1 1 [] za6
theorem vb (p : Par) : FS (W1 p) 1 (.ref 188) yq := by
 refine yg (names := ["self"]) (sl := [some "self"]) (dm := []) (dv := []) (rfl : (K0 p.w.params).lookup 188 = some _) (by kernel_rfl) (fun L => ?_) (fun _ _ => .nil) (fun s ys hl hb => by obtain ⟨a, rfl⟩ := ys1 hl; exact zv5 rfl) (by kernel_rfl)
 unfold za6
 exact (zi (yk (yl zbe (zb (qs p) qr (zo (za (ye p) zl))) z8))
 z6)
noncomputable def zba : DS :=
 (zw (wh (yj m.append (zd 1) [(z5 0 wp (zp 1 7 (zd 0)) [(zp 1 1 (zd 0))])]))
 z3)
noncomputable def zgy : DS :=
 (zw (zq (wv []) (zy 1))
 (zw (u9 (z4 b.range [(wo o.add (z5 1 yq (zd 0) []) (zh (.int 1)))]) (zy 2) zba)
 (zw (qb (zd 1))
 z3)))
noncomputable def ud : DF := jl 1 3 [] zgy
theorem zfw (p : Par) : FS (W1 p) 6 (.ref 386) ud := by
 refine yg (names := ["core"]) (sl := [some "core", some "found", some "lap"]) (dm := []) (dv := []) (rfl : (K0 p.w.params).lookup 386 = some _) (by kernel_rfl) (fun L => ?_) (fun _ _ => .nil) (fun s ys hl hb => by obtain ⟨a, rfl⟩ := ys1 hl; exact zv5 rfl) (by kernel_rfl)
 unfold zgy
 exact (zi (zg (qz y7) zt)
 (zi (zr (zb (je p) jd (zo (yl gh (zm (zam p) (vb p) zl y7) z8))) zt (zi (zx (zk yz zxe zxf zl (zo (zm (xh p) (gl p) (za (ye p) zl) (zo (za (ye p) zl))))))
 z6))
 (zi (yk zl)
 z6)))
noncomputable def zd3 : DS :=
 (zw (qb (zbt (z9 .Gt (zd 1) (zh (.int 0))) (wd (zp 1 1 (zd 0)) (zd 1)) (uf (wd (zp 1 1 (zd 0)) (uf (zd 1))))))
 z3)
noncomputable def wf : DF := jl 2 2 [] zd3
theorem yx (p : Par) : FS (W1 p) 1 (.ref 195) wf := by
 refine yg (names := ["self", "lit"]) (sl := [some "self", some "lit"]) (dm := []) (dv := []) (rfl : (K0 p.w.params).lookup 195 = some _) (by kernel_rfl) (fun L => ?_) (fun _ _ => .nil) (fun s ys hl hb => by obtain ⟨a, b, rfl⟩ := ys2 hl; exact zv5 rfl) (by kernel_rfl)
 unfold zd3
 exact (zi (yk (zf7 (zc zl z8) (zs (za (ye p) zl) zl) (xf (zs (za (ye p) zl) (xf zl)))))
 z6)
noncomputable def zgx : DS :=
 (zw (qb (zbt (z9 .Gt (zd 0) (zh (.int 0))) (wo o.mul (zh (.int 2)) (zd 0)) (wo o.sub (zh (.int 1)) (wo o.mul (zh (.int 2)) (zd 0)))))
 z3)
noncomputable def ku : DF := jl 1 1 [] zgx
theorem vd (p : Par) : FS (W1 p) 1 (.ref 153) ku := by
 refine yg (names := ["lit"]) (sl := [some "lit"]) (dm := []) (dv := []) (rfl : (K0 p.w.params).lookup 153 = some _) (by kernel_rfl) (fun L => ?_) (fun _ _ => .nil) (fun s ys hl hb => by obtain ⟨a, rfl⟩ := ys1 hl; exact zv5 rfl) (by kernel_rfl)
 unfold zgx
 exact (zi (yk (zf7 (zc zl z8) (yl zco z8 zl) (yl zbe z8 (yl zco z8 zl))))
 z6)
noncomputable def g6 : DS :=
 (zw (yt (km (z9 .NotEq (zd 7) (zd 6)) (km (ue (z9 .NotEq (z5 1 wf (zd 0) [(zd 7)]) (zh (.int (-1)))) (ue (z9 .Gt (wd (zp 1 4 (zd 0)) (z4 b.abs [(zd 7)])) (zd 5)) zl1)) zg8)) (zw (qb (zh (.bool false)))
 z3) z3)
 z3)
noncomputable def gw : DS :=
 (zw (zq (wd (zp 1 8 (zd 0)) (zd 5)) (zy 6))
 (zw (yt (ue (z9 .NotEq (z5 1 wf (zd 0) [(zd 6)]) (zh (.int (1)))) (ue (z9 .NotEq (wd (zp 1 4 (zd 0)) (z4 b.abs [(zd 6)])) (zd 5)) zl1)) (zw (qb (zh (.bool false)))
 z3) z3)
 (zw (zq (wd (zp 1 3 (zd 0)) (z4 b.abs [(zd 6)])) (zy 1))
 (zw (yt (z9 .NotEq (zd 1) (zh (.int (-1)))) (zw (u9 (wd (zp 1 12 (zd 0)) (zd 1)) (zy 7) g6)
 z3) z3)
 z3))))
noncomputable def jy : DS :=
 (zw (zq (z4 b.len [(gr 8 1 (wd (zp 1 6 (zd 0)) (we ku [(wd (zd 2) (zd 3))])) (zy 8) (z9 .Eq (zd 8) (zd 1)) (zd 8))]) (zy 4))
 (zw (yt (z9 .NotEq (zd 4) (zbt (z9 .Lt (zd 3) (zh (.int 2))) (zh (.int 1)) (zh (.int 0)))) (zw (qb (zh (.bool false)))
 z3) z3)
 z3))
noncomputable def jx : DS :=
 (zw (zq (wd (zp 1 12 (zd 0)) (zd 1)) (zy 2))
 (zw (yt (km (z9 .IsNot (zd 2) (zh .none)) (km (z9 .Gt (z4 b.len [(zd 2)]) (zh (.int 1))) zg8)) (zw (u9 (z4 b.range [(z4 b.len [(zd 2)])]) (zy 3) jy)
 z3) z3)
 z3))
noncomputable def zbr : DS :=
 (zw (u9 (z4 b.range [(z4 b.len [(zp 1 12 (zd 0))])]) (zy 1) jx)
 (zw (u9 (z4 b.range [(z4 b.len [(zp 1 8 (zd 0))])]) (zy 5) gw)
 (zw (qb (zch .Eq (z4 b.len [(gr 8 1 (zp 1 1 (zd 0)) (zy 8) (z9 .NotEq (zd 8) (zh (.int (0)))) (zd 8))]) (z4 b.len [(zp 1 8 (zd 0))])))
 z3)))
noncomputable def ym : DF := jl 1 8 [] zbr
theorem vq (p : Par) : FS (W1 p) 2 (.ref 312) ym := by
 refine yg (names := ["self"]) (sl := [some "self", some "number", some "lits", some "k", some "many", some "spot", some "lit", some "late"]) (dm := []) (dv := []) (rfl : (K0 p.w.params).lookup 312 = some _) (by kernel_rfl) (fun L => ?_) (fun _ _ => .nil) (fun s ys hl hb => by obtain ⟨a, rfl⟩ := ys1 hl; exact zv5 rfl) (by kernel_rfl)
 unfold zbr
 exact (zi (zr (zb (je p) jd (zo (zb (qs p) qr (zo (za (ye p) zl))))) (zl4 (by rfl) (by rfl)) (zi (zg (zs (za (ye p) zl) zl) zt)
 (zi (qx (zar (zc zl zdu) (zar (zc (zb (qs p) qr (zo zl)) z8) xe)) (zi (zr (zb (je p) jd (zo (zb (qs p) qr (zo zl)))) zt (zi (zg (zb (qs p) qr (zo (zcm (za1 (csl := [none, some "number", none, none, none, none, none, none, some "one"]) (by kernel_rfl) (fun C => zt) (fun C => (zmb (zc zl zl))) (fun C => zl)) (zs (za (ye p) zl) (zf (ve p) (vd p) (zo (zs zl zl)))) (fun _ => by rfl)))) zt)
 (zi (qx (zc zl (zf7 (zc zl z8) z8 z8)) (zi (yk up)
 z6) z6)
 z6)))
 z6) z6)
 z6)))
 (zi (zr (zb (je p) jd (zo (zb (qs p) qr (zo (za (ye p) zl))))) zt (zi (zg (zs (za (ye p) zl) zl) zt)
 (zi (qx (zav (zc (zm (kt p) (yx p) zl (zo zl)) (ww (zje p) (by rfl) (by rfl))) (zav (zc (zs (za (ye p) zl) (zb (vh p) vf (zo zl))) zl) zaq)) (zi (yk up)
 z6) z6)
 (zi (zg (zs (za (ye p) zl) (zb (vh p) vf (zo zl))) (zl4 (by rfl) (by rfl)))
 (zi (qx (zc zl (ww (g7 p) (by rfl) (by rfl))) (zi (zr (zs (za (ye p) zl) zl) zt (zi (qx (zar (zc zl zl) (zar (zav (zc (zm (kt p) (yx p) zl (zo zl)) (ww (vr p) (by rfl) (by rfl))) (zav (zc (zs (za (ye p) zl) (zb (vh p) vf (zo zl))) zl) zaq)) xe)) (zi (yk up)
 z6) z6)
 z6))
 z6) z6)
 z6)))))
 (zi (yk (ze (zb (qs p) qr (zo (zcm (za1 (csl := [none, none, none, none, none, none, none, none, some "one"]) (by kernel_rfl) (fun C => zt) (fun C => (zmb (zc zl (ww (xi p) (by rfl) (by rfl))))) (fun C => zl)) (za (ye p) zl) (fun _ => by rfl)))) (zb (qs p) qr (zo (za (ye p) zl)))))
 z6)))
noncomputable def zd6 : DS :=
 (zw (qb (z4 b.len [(zp 1 9 (zd 0))]))
 z3)
noncomputable def wg : DF := jl 1 1 [] zd6
theorem qy (p : Par) : FS (W1 p) 1 (.ref 202) wg := by
 refine yg (names := ["self"]) (sl := [some "self"]) (dm := []) (dv := []) (rfl : (K0 p.w.params).lookup 202 = some _) (by kernel_rfl) (fun L => ?_) (fun _ _ => .nil) (fun s ys hl hb => by obtain ⟨a, rfl⟩ := ys1 hl; exact zv5 rfl) (by kernel_rfl)
 unfold zd6
 exact (zi (yk (zb (qs p) qr (zo (za (ye p) zl))))
 z6)
noncomputable def zf1 : DS :=
 (zw (qb (z4 b.sorted [(gr 1 1 (zp 1 8 (zd 0)) (zy 1) zah (j0 [(z4 b.abs [(zd 1)]), (zd 1), (wd (zp 1 2 (zd 0)) (z4 b.abs [(zd 1)]))]))]))
 z3)
noncomputable def jm : DF := jl 1 1 [] zf1
theorem zen (p : Par) : FS (W1 p) 1 (.ref 379) jm := by
 refine yg (names := ["core"]) (sl := [some "core"]) (dm := []) (dv := []) (rfl : (K0 p.w.params).lookup 379 = some _) (by kernel_rfl) (fun L => ?_) (fun _ _ => .nil) (fun s ys hl hb => by obtain ⟨a, rfl⟩ := ys1 hl; exact zv5 rfl) (by kernel_rfl)
 unfold zf1
 exact (zi (yk (zb (zir p) zos (zo (zcm (za1 (csl := [some "core", some "lit"]) (by kernel_rfl) (fun C => zt) (fun C => zf8) (fun C => (zdt (zn (zb (vh p) vf (zo zl)) (zn zl (zo (zs (za (ye p) zl) (zb (vh p) vf (zo zl))))))))) (za (ye p) zl) (fun _ => by rfl)))))
 z6)
noncomputable def xc : DS :=
 (zw (zq (wo o.fdiv (wo o.sub (zd 1) (zh (.int 1))) (zh (.int 2))) (zy 3))
 (zw (yt (zbd (qd (z5 0 wr (zd 0) [(zd 2), (wd (zp 0 3 (zd 0)) (zd 3))]))) (zw zh1
 z3) z3)
 (zw (wh (z5 0 yp (zd 0) [(zd 1), (wd (zp 0 3 (zd 0)) (zd 3))]))
 (zw (zq (zd 3) (zy 1))
 z3))))
noncomputable def xu : DS :=
 (zw (zq (wd (zp 0 3 (zd 0)) (zd 1)) (zy 2))
 (zw (vm (z9 .Gt (zd 1) (zh (.int 0))) xc zjf)
 (zw (wh (z5 0 yp (zd 0) [(zd 1), (zd 2)]))
 z3)))
noncomputable def kn : DF := jl 2 4 [] xu
theorem zbn (p : Par) : FS (W1 p) 2 (.ref 78) kn := by
 refine yg (names := ["self", "spot"]) (sl := [some "self", some "spot", some "var", some "above"]) (dm := []) (dv := []) (rfl : (K0 p.w.params).lookup 78 = some _) (by kernel_rfl) (fun L => ?_) (fun _ _ => .nil) (fun s ys hl hb => by obtain ⟨a, b, rfl⟩ := ys2 hl; exact zv5 rfl) (by kernel_rfl)
 unfold xu
 exact (zi (zg (zs (za (jg p) zl) zl) zt)
 (zi (zda (zc zl z8) (zi (zg (yl zm2 (yl zbe zl z8) z8) zt)
 (zi (qx (zds (zv (zm (zan p) (js p) zl (zn zl (zo (zs (za (jg p) zl) zl)))))) (zi zjk
 z6) z6)
 (zi (zx (zm (zdc p) (jo p) zl (zn zl (zo (zs (za (jg p) zl) zl)))))
 (zi (zg zl zt)
 z6)))))
 (zi (zx (zm (zdc p) (jo p) zl (zn zl (zo zl))))
 z6)))
noncomputable def zak : DS :=
 (zw (qb (zch .GtE (wd (zp 0 4 (zd 0)) (zd 1)) (zh (.int 0))))
 z3)
noncomputable def yh : DF := jl 2 2 [] zak
theorem uh (p : Par) : FS (W1 p) 1 (.ref 50) yh := by
 refine yg (names := ["self", "var"]) (sl := [some "self", some "var"]) (dm := []) (dv := []) (rfl : (K0 p.w.params).lookup 50 = some _) (by kernel_rfl) (fun L => ?_) (fun _ _ => .nil) (fun s ys hl hb => by obtain ⟨a, b, rfl⟩ := ys2 hl; exact zv5 rfl) (by kernel_rfl)
 unfold zak
 exact (zi (yk (ze (zs (za (jg p) zl) zl) z8))
 z6)
noncomputable def zb9 : DS :=
 (zw (yt (qd (z5 0 yh (zd 0) [(zd 1)])) (zw zme
 z3) z3)
 (zw (wh (yj m.append (zp 0 3 (zd 0)) [(zd 1)]))
 (zw (zq (wo o.sub (z4 b.len [(zp 0 3 (zd 0))]) (zh (.int 1))) (y9 (zp 0 4 (zd 0)) (zd 1)))
 (zw (wh (z5 0 kn (zd 0) [(wo o.sub (z4 b.len [(zp 0 3 (zd 0))]) (zh (.int 1)))]))
 z3))))
noncomputable def gn : DF := jl 2 2 [] zb9
theorem zbo (p : Par) : FS (W1 p) 3 (.ref 99) gn := by
 refine yg (names := ["self", "var"]) (sl := [some "self", some "var"]) (dm := []) (dv := []) (rfl : (K0 p.w.params).lookup 99 = some _) (by kernel_rfl) (fun L => ?_) (fun _ _ => .nil) (fun s ys hl hb => by obtain ⟨a, b, rfl⟩ := ys2 hl; exact zv5 rfl) (by kernel_rfl)
 unfold zb9
 exact (zi (qx (zv (zm (zb4 p) (uh p) zl (zo zl))) (zi zmo
 z6) z6)
 (zi (zx (zk yz zxe zxf (za (jg p) zl) (zo zl)))
 (zi (zg (yl zbe (zb (qs p) qr (zo (za (jg p) zl))) z8) (j5 (za (jg p) zl) zl))
 (zi (zx (zm (zh9 p) (zbn p) zl (zo (yl zbe (zb (qs p) qr (zo (za (jg p) zl))) z8))))
 z6))))
noncomputable def qg : DS :=
 (zw (zq (z4 b.abs [(wd (zp 1 8 (zd 0)) (zd 4))]) (zy 5))
 (zw (zq (wd (zp 1 1 (zd 0)) (zd 5)) (y9 (zp 1 5 (zd 0)) (zd 5)))
 (zw (zq (zh (.int (0))) (y9 (zp 1 1 (zd 0)) (zd 5)))
 (zw (zq (zh (.int (-1))) (y9 (zp 1 3 (zd 0)) (zd 5)))
 (zw (wh (z5 0 gn (zp 1 7 (zd 0)) [(zd 5)]))
 z3)))))
noncomputable def xn : DS :=
 (zw (zq (wo o.sub (z5 1 wg (zd 0) []) (zd 1)) (zy 2))
 (zw (yt (z9 .LtE (zd 2) (zh (.int 0))) (zw zme
 z3) z3)
 (zw (zq (wd (zp 1 9 (zd 0)) (zd 1)) (zy 3))
 (zw (u9 (z4 b.range [(wo o.sub (z4 b.len [(zp 1 8 (zd 0))]) (zh (.int 1))), (wo o.sub (zd 3) (zh (.int 1))), (uf (zh (.int 1)))]) (zy 4) qg)
 (zw (zq (kx (zp 1 8 (zd 0)) none (some (zd 3)) none) (wm 1 8 (zd 0)))
 (zw (zq (kx (zp 1 9 (zd 0)) none (some (zd 1)) none) (wm 1 9 (zd 0)))
 (zw (zq (z4 b.min [(zp 1 10 (zd 0)), (zd 3)]) (wm 1 10 (zd 0)))
 (zw (zq (z4 b.min [(zp 1 11 (zd 0)), (zd 3)]) (wm 1 11 (zd 0)))
 (zw (yt (z9 .IsNot (zp 1 0 (zd 0)) (zh .none)) (zw (wh (fun _ _ => none))
 z3) z3)
 z3)))))))))
noncomputable def z7 : DF := jl 2 6 [] xn
theorem y3 (p : Par) : FS (W1 p) 4 (.ref 286) z7 := by
 refine yg (names := ["self", "level"]) (sl := [some "self", some "level", some "count", some "start", some "spot", some "var"]) (dm := []) (dv := []) (rfl : (K0 p.w.params).lookup 286 = some _) (by kernel_rfl) (fun L => ?_) (fun _ _ => .nil) (fun s ys hl hb => by obtain ⟨a, b, rfl⟩ := ys2 hl; exact zv5 rfl) (by kernel_rfl)
 unfold xn
 exact (zi (zg (yl zbe (zm (jn p) (qy p) zl y7) zl) zt)
 (zi (qx (zc zl z8) (zi zmo
 z6) z6)
 (zi (zg (zs (za (ye p) zl) zl) zt)
 (zi (zr (zb (je p) jd (zn (yl zbe (zb (qs p) qr (zo (za (ye p) zl))) z8) (zn (yl zbe zl z8) (zo (xf z8))))) zt (zi (zg (zb (vh p) vf (zo (zs (za (ye p) zl) zl))) zt)
 (zi (zg (zs (za (ye p) zl) zl) (j5 (za (ye p) zl) zl))
 (zi (zg (ww (xi p) (by rfl) (by rfl)) (j5 (za (ye p) zl) zl))
 (zi (zg (ww (g7 p) (by rfl) (by rfl)) (j5 (za (ye p) zl) zl))
 (zi (zx (zm (zia p) (zbo p) (za (ye p) zl) (zo zl)))
 z6))))))
 (zi (zg (zdb (za (ye p) zl) xw (ze9 zl) xw) (zu (ye p) zl))
 (zi (zg (zdb (za (ye p) zl) xw (ze9 zl) xw) (zu (ye p) zl))
 (zi (zg (zb (zqq p) zqo (zn (za (ye p) zl) (zo zl))) (zu (ye p) zl))
 (zi (zg (zb (zqq p) zqo (zn (za (ye p) zl) (zo zl))) (zu (ye p) zl))
 (zi (qx (zc (za (ye p) zl) zdu) (zi (zx zhc)
 z6) z6)
 z6)))))))))
noncomputable def zae : DS :=
 (zw (zq (zbt (z9 .Gt (zd 3) (zh (.int 0))) (zh (.int 1)) (uf (zh (.int 1)))) (y9 (zd 2) (z4 b.abs [(zd 3)])))
 z3)
noncomputable def zf0 : DS :=
 (zw (u9 (kx (zp 1 8 (zd 0)) (some (zd 1)) none none) (zy 3) zae)
 z3)
noncomputable def kj : DF := jl 3 4 [] zf0
theorem zb6 (p : Par) : FS (W1 p) 1 (.ref 369) kj := by
 refine yg (names := ["core", "many", "last"]) (sl := [some "core", some "many", some "last", some "lit"]) (dm := []) (dv := []) (rfl : (K0 p.w.params).lookup 369 = some _) (by kernel_rfl) (fun L => ?_) (fun _ _ => .nil) (fun s ys hl hb => by obtain ⟨a, b, c, rfl⟩ := ys3 hl; exact zv5 rfl) (by kernel_rfl)
 unfold zf0
 exact (zi (zr (zdb (za (ye p) zl) (ze9 zl) xw xw) zt (zi (zg (zf7 (zc zl z8) z8 (xf z8)) (j5 zl (zb (vh p) vf (zo zl))))
 z6))
 z6)
noncomputable def zg1 : DS :=
 (zw (zq (zjs 2 1 (zd 0)) (zy 2))
 (zw (zq (wo o.add (zd 2) (zh (.int 1))) (zmd 2 1 (zd 0)))
 (zw (yt (z9 .Lt (zd 2) (z4 b.len [(zjs 2 0 (zd 0))])) (zw (qb (wo o.mod (wd (zjs 2 0 (zd 0)) (zd 2)) (zd 1)))
 z3) z3)
 (zw (qb (wo o.mod (wo o.add (wo o.add (wo o.mul (zh (.int 4)) (zd 2)) (wo o.fdiv (zd 2) (zh (.int 2)))) (zh (.int 1))) (zd 1)))
 z3))))
noncomputable def wj : DF := jl 2 3 [] zg1
theorem qp (p : Par) : FS (W1 p) 1 (.ref 326) wj := by
 refine yg (names := ["hat", "many"]) (sl := [some "hat", some "many", some "pull"]) (dm := []) (dv := []) (rfl : (K0 p.w.params).lookup 326 = some _) (by kernel_rfl) (fun L => ?_) (fun _ _ => .nil) (fun s ys hl hb => by obtain ⟨a, b, rfl⟩ := ys2 hl; exact zv5 rfl) (by kernel_rfl)
 unfold zg1
 exact (zi (zg (zl5 (dic2 p) (by rfl) zl (fun _ _ => ⟨_, by rfl⟩)) zt)
 (zi (zg (yl gh zl z8) (tg_key (dic2 p) (by rfl) zl))
 (zi (qx (zc zl (zb (qs p) qr (zo (zl5 (dic2 p) (by rfl) zl (fun _ _ => ⟨_, by rfl⟩))))) (zi (yk (yl zjm (zs (zl5 (dic2 p) (by rfl) zl (fun _ _ => ⟨_, by rfl⟩)) zl) zl))
 z6) z6)
 (zi (yk (yl zjm (yl gh (yl gh (yl zco z8 zl) (yl zm2 zl z8)) z8) zl))
 z6))))
noncomputable def xr : DS :=
 (zw (zq (z4 b.abs [(zd 1)]) (zy 3))
 (zw (zq (zbt (z9 .Gt (zd 1) (zh (.int 0))) (zh (.int (1))) (zh (.int (-1)))) (y9 (zp 1 1 (zd 0)) (zd 3)))
 (zw (zq (z5 1 wg (zd 0) []) (y9 (zp 1 2 (zd 0)) (zd 3)))
 (zw (zq (zd 2) (y9 (zp 1 3 (zd 0)) (zd 3)))
 (zw (zq (z4 b.len [(zp 1 8 (zd 0))]) (y9 (zp 1 4 (zd 0)) (zd 3)))
 (zw (wh (yj m.append (zp 1 8 (zd 0)) [(zd 1)]))
 z3))))))
noncomputable def qe : DF := jl 3 4 [] xr
theorem ua (p : Par) : FS (W1 p) 2 (.ref 272) qe := by
 refine yg (names := ["self", "lit", "number"]) (sl := [some "self", some "lit", some "number", some "var"]) (dm := []) (dv := []) (rfl : (K0 p.w.params).lookup 272 = some _) (by kernel_rfl) (fun L => ?_) (fun _ _ => .nil) (fun s ys hl hb => by obtain ⟨a, b, c, rfl⟩ := ys3 hl; exact zv5 rfl) (by kernel_rfl)
 unfold xr
 exact (zi (zg (zb (vh p) vf (zo zl)) zt)
 (zi (zg (zf7 (zc zl z8) (ww (zje p) (by rfl) (by rfl)) (ww (vr p) (by rfl) (by rfl))) (j5 (za (ye p) zl) zl))
 (zi (zg (zm (jn p) (qy p) zl y7) (j5 (za (ye p) zl) zl))
 (zi (zg zl (j5 (za (ye p) zl) zl))
 (zi (zg (zb (qs p) qr (zo (za (ye p) zl))) (j5 (za (ye p) zl) zl))
 (zi (zx (zk yz zxe zxf (za (ye p) zl) (zo zl)))
 z6))))))
noncomputable def j8 : DS :=
 (zw (yt (z9 .NotEq (z5 1 wf (zd 0) [(wd (zd 2) (zd 3))]) (zh (.int (-1)))) (zw (zq (j0 [(wd (zd 2) (zd 3)), (wd (zd 2) (zh (.int 1)))]) (zd8 [(y9 (zd 2) (zh (.int 1))), (y9 (zd 2) (zd 3))]))
 (zw (wh (yj m.append (wd (zp 1 6 (zd 0)) (we ku [(wd (zd 2) (zh (.int 1)))])) [(zd 1)]))
 (zw (qb (zh (.bool true)))
 z3))) z3)
 z3)
noncomputable def xm : DS :=
 (zw (u9 (z4 b.range [(zh (.int 2)), (z4 b.len [(zd 2)])]) (zy 3) j8)
 (zw (qb (zh (.bool false)))
 z3))
noncomputable def jv : DF := jl 3 4 [] xm
theorem zgg (p : Par) : FS (W1 p) 2 (.ref 307) jv := by
 refine yg (names := ["self", "number", "lits"]) (sl := [some "self", some "number", some "lits", some "k"]) (dm := []) (dv := []) (rfl : (K0 p.w.params).lookup 307 = some _) (by kernel_rfl) (fun L => ?_) (fun _ _ => .nil) (fun s ys hl hb => by obtain ⟨a, b, c, rfl⟩ := ys3 hl; exact zv5 rfl) (by kernel_rfl)
 unfold xm
 exact (zi (zr (zb (je p) jd (zn z8 (zo (zb (qs p) qr (zo zl))))) zt (zi (qx (zc (zm (kt p) (yx p) zl (zo (zs zl zl))) (ww (vr p) (by rfl) (by rfl))) (zi (zg (zdt (zn (zs zl zl) (zo (zs zl z8)))) (zqe (zez (j5 zl z8) (zez (j5 zl zl) zi5 (by rfl)) (by rfl)) (by rfl) (by rfl)))
 (zi (zx (zk yz zxe zxf (zs (za (ye p) zl) (zf (ve p) (vd p) (zo (zs zl z8)))) (zo zl)))
 (zi (yk up)
 z6))) z6)
 z6))
 (zi (yk up)
 z6))
noncomputable def ji : DS :=
 (zw (zq (wd (zd 2) (zd 5)) (zy 6))
 (zw (zq (wd (zp 1 12 (zd 0)) (zd 6)) (zy 7))
 (zw (yt (z9 .Is (zd 7) (zh .none)) (zw zjt
 z3) z3)
 (zw (yt (z9 .Eq (wd (zd 7) (zh (.int 0))) (zd 1)) (zw (zq (j0 [(wd (zd 7) (zh (.int 1))), (zd 1)]) (zd8 [(y9 (zd 7) (zh (.int 0))), (y9 (zd 7) (zh (.int 1)))]))
 z3) z3)
 (zw (yt (km (z9 .NotEq (z5 1 wf (zd 0) [(wd (zd 7) (zh (.int 0)))]) (zh (.int (1)))) (km (qd (z5 1 jv (zd 0) [(zd 6), (zd 7)])) zg8)) (zw zjt
 z3) z3)
 (zw (wh (yj m.append (zd 3) [(zd 6)]))
 (zw (yt (z9 .Eq (z5 1 wf (zd 0) [(wd (zd 7) (zh (.int 0)))]) (zh (.int (-1)))) (zw (zq (zd 6) (zy 4))
 (zw (wh (yj m.extend (zd 3) [(kx (zd 2) (some (wo o.add (zd 5) (zh (.int 1)))) none none)]))
 (zw zh1
 z3))) z3)
 (zw (yt (z9 .Eq (z5 1 wf (zd 0) [(wd (zd 7) (zh (.int 0)))]) (zh (.int (0)))) (zw (wh (z5 1 qe (zd 0) [(wd (zd 7) (zh (.int 0))), (zd 6)]))
 z3) z3)
 z3))))))))
noncomputable def zbi : DS :=
 (zw (zbk (j0 [(wd (zp 1 6 (zd 0)) (we ku [(zd 1)])), (wv []), (zh (.int (-1)))]) [2, 3, 4])
 (zw (u9 (z4 b.range [(z4 b.len [(zd 2)])]) (zy 5) ji)
 (zw (zq (zd 3) (y9 (zp 1 6 (zd 0)) (we ku [(zd 1)])))
 (zw (qb (zd 4))
 z3))))
noncomputable def uw : DF := jl 2 8 [] zbi
theorem zgd (p : Par) : FS (W1 p) 3 (.ref 300) uw := by
 refine yg (names := ["self", "gone"]) (sl := [some "self", some "gone", some "watching", some "kept", some "conflict", some "spot", some "number", some "lits"]) (dm := []) (dv := []) (rfl : (K0 p.w.params).lookup 300 = some _) (by kernel_rfl) (fun L => ?_) (fun _ _ => .nil) (fun s ys hl hb => by obtain ⟨a, b, rfl⟩ := ys2 hl; exact zv5 rfl) (by kernel_rfl)
 unfold zbi
 exact (zi (zi6 (xs := ["watching", "kept", "conflict"]) (zdt (zn (zs (za (ye p) zl) (zf (ve p) (vd p) (zo zl))) (zn (qz y7) (zo (ww (g7 p) (by rfl) (by rfl)))))) (by rfl) (by rfl) (by rfl) (zfp (by rfl) (.inl (by rfl)) (by rfl) (.inl (by rfl)) (by rfl) (.inl (by rfl))))
 (zi (zr (zb (je p) jd (zo (zb (qs p) qr (zo zl)))) zt (zi (zg (zs zl zl) zt)
 (zi (zg (zs (za (ye p) zl) zl) zt)
 (zi (qx (zc zl zdu) (zi zi7
 z6) z6)
 (zi (qx (zc (zs zl z8) zl) (zi (zg (zdt (zn (zs zl z8) (zo zl))) (zqe (zez (j5 zl z8) (zez (j5 zl z8) zi5 (by rfl)) (by rfl)) (by rfl) (by rfl)))
 z6) z6)
 (zi (qx (zar (zc (zm (kt p) (yx p) zl (zo (zs zl z8))) (ww (zje p) (by rfl) (by rfl))) (zar (zv (zm (zlq p) (zgg p) zl (zn zl (zo zl)))) xe)) (zi zi7
 z6) z6)
 (zi (zx (zk yz zxe zxf zl (zo zl)))
 (zi (qx (zc (zm (kt p) (yx p) zl (zo (zs zl z8))) (ww (vr p) (by rfl) (by rfl))) (zi (zg zl zt)
 (zi (zx (zk zop zxh PySem.F.type_list_extend zl (zo (zdb zl (ze9 (yl gh zl z8)) xw xw))))
 (zi zjk
 z6))) z6)
 (zi (qx (zc (zm (kt p) (yx p) zl (zo (zs zl z8))) (ww (xi p) (by rfl) (by rfl))) (zi (zx (zm (zaa p) (ua p) zl (zn (zs zl z8) (zo zl))))
 z6) z6)
 z6)))))))))
 (zi (zg zl (j5 (za (ye p) zl) (zf (ve p) (vd p) (zo zl))))
 (zi (yk zl)
 z6))))
noncomputable def qt : DS :=
 (zw (zq (uf (wd (zp 1 8 (zd 0)) (zp 1 10 (zd 0)))) (zy 1))
 (zw (zq (wo o.add (zp 1 10 (zd 0)) (zh (.int 1))) (wm 1 10 (zd 0)))
 (zw (zq (z5 1 uw (zd 0) [(zd 1)]) (zy 2))
 (zw (yt (z9 .NotEq (zd 2) (zh (.int (-1)))) (zw (zq (z4 b.len [(zp 1 8 (zd 0))]) (wm 1 10 (zd 0)))
 (zw (qb (zd 2))
 z3)) z3)
 z3))))
noncomputable def uc : DS :=
 (zw (vm (z9 .Lt (zp 1 10 (zd 0)) (z4 b.len [(zp 1 8 (zd 0))])) qt zjf)
 (zw (qb (zh (.int (-1))))
 z3))
noncomputable def yd : DF := jl 1 3 [] uc
theorem j4 (p : Par) : FS (W1 p) 4 (.ref 293) yd := by
 refine yg (names := ["self"]) (sl := [some "self", some "gone", some "conflict"]) (dm := []) (dv := []) (rfl : (K0 p.w.params).lookup 293 = some _) (by kernel_rfl) (fun L => ?_) (fun _ _ => .nil) (fun s ys hl hb => by obtain ⟨a, rfl⟩ := ys1 hl; exact zv5 rfl) (by kernel_rfl)
 unfold uc
 exact (zi (zda (zc (za (ye p) zl) (zb (qs p) qr (zo (za (ye p) zl)))) (zi (zg (xf (zs (za (ye p) zl) (za (ye p) zl))) zt)
 (zi (zg (yl gh (za (ye p) zl) z8) (zu (ye p) zl))
 (zi (zg (zm (zln p) (zgd p) zl (zo zl)) zt)
 (zi (qx (zc zl (ww (g7 p) (by rfl) (by rfl))) (zi (zg (zb (qs p) qr (zo (za (ye p) zl))) (zu (ye p) zl))
 (zi (yk zl)
 z6)) z6)
 z6)))))
 (zi (yk (ww (g7 p) (by rfl) (by rfl)))
 z6))
noncomputable def za7 : DS :=
 (zw (wh (yj m.append (zp 1 9 (zd 0)) [(z4 b.len [(zp 1 8 (zd 0))])]))
 (zw (yt (z9 .IsNot (zp 1 0 (zd 0)) (zh .none)) (zw (wh (fun _ _ => none))
 z3) z3)
 z3))
noncomputable def jz : DF := jl 1 1 [] za7
theorem zea (p : Par) : FS (W1 p) 1 (.ref 279) jz := by
 refine yg (names := ["self"]) (sl := [some "self"]) (dm := []) (dv := []) (rfl : (K0 p.w.params).lookup 279 = some _) (by kernel_rfl) (fun L => ?_) (fun _ _ => .nil) (fun s ys hl hb => by obtain ⟨a, rfl⟩ := ys1 hl; exact zv5 rfl) (by kernel_rfl)
 unfold za7
 exact (zi (zx (zk yz zxe zxf (za (ye p) zl) (zo (zb (qs p) qr (zo (za (ye p) zl))))))
 (zi (qx (zc (za (ye p) zl) zdu) (zi (zx zhc)
 z6) z6)
 z6))
noncomputable def zd1 : DS :=
 (zw (wh (z5 1 jz (zd 0) []))
 (zw (wh (z5 1 qe (zd 0) [(zd 1), (uf (zh (.int 1)))]))
 (zw (qb (zch .Eq (z5 1 yd (zd 0) []) (uf (zh (.int 1)))))
 z3)))
noncomputable def yr : DF := jl 2 2 [] zd1
theorem zao (p : Par) : FS (W1 p) 5 (.ref 352) yr := by
 refine yg (names := ["core", "lit"]) (sl := [some "core", some "lit"]) (dm := []) (dv := []) (rfl : (K0 p.w.params).lookup 352 = some _) (by kernel_rfl) (fun L => ?_) (fun _ _ => .nil) (fun s ys hl hb => by obtain ⟨a, b, rfl⟩ := ys2 hl; exact zv5 rfl) (by kernel_rfl)
 unfold zd1
 exact (zi (zx (zm (zgb p) (zea p) zl y7))
 (zi (zx (zm (zaa p) (ua p) zl (zn zl (zo (xf z8)))))
 (zi (yk (ze (zm (vn p) (j4 p) zl y7) (xf z8)))
 z6)))
noncomputable def zgz : DS :=
 (zw (qb (wo o.sub (zh (.int 1)) (wo o.mul (zh (.int 2)) (we wj [(zd 0), (zh (.int 2))]))))
 z3)
noncomputable def kd : DF := jl 1 1 [] zgz
theorem zc4 (p : Par) : FS (W1 p) 2 (.ref 333) kd := by
 refine yg (names := ["hat"]) (sl := [some "hat"]) (dm := []) (dv := []) (rfl : (K0 p.w.params).lookup 333 = some _) (by kernel_rfl) (fun L => ?_) (fun _ _ => .nil) (fun s ys hl hb => by obtain ⟨a, rfl⟩ := ys1 hl; exact zv5 rfl) (by kernel_rfl)
 unfold zgz
 exact (zi (yk (yl zbe z8 (yl zco z8 (zf (qq p) (qp p) (zn zl (zo z8))))))
 z6)
noncomputable def zcd : DS :=
 (zw (zq (wo o.add (wd (zp 0 2 (zd 0)) (zd 1)) (zp 0 1 (zd 0))) (y9 (zp 0 2 (zd 0)) (zd 1)))
 (zw (yt (z9 .Gt (wd (zp 0 2 (zd 0)) (zd 1)) (zp 0 0 (zd 0))) (zw (wh (fun _ _ => none))
 z3) (zw (yt (qd (z5 0 yh (zd 0) [(zd 1)])) (zw (wh (z5 0 kn (zd 0) [(wd (zp 0 4 (zd 0)) (zd 1))]))
 z3) z3)
 z3))
 z3))
noncomputable def ql : DF := jl 2 2 [] zcd
theorem zbq (p : Par) : FS (W1 p) 3 (.ref 120) ql := by
 refine yg (names := ["self", "var"]) (sl := [some "self", some "var"]) (dm := []) (dv := []) (rfl : (K0 p.w.params).lookup 120 = some _) (by kernel_rfl) (fun L => ?_) (fun _ _ => .nil) (fun s ys hl hb => by obtain ⟨a, b, rfl⟩ := ys2 hl; exact zv5 rfl) (by kernel_rfl)
 unfold zcd
 exact (zi (zg (yl gh (zs (za (jg p) zl) zl) (za (jg p) zl)) (j5 (za (jg p) zl) zl))
 (zi (qx (zc (zs (za (jg p) zl) zl) (za (jg p) zl)) (zi (zx zhc)
 z6) (zi (qx (zv (zm (zb4 p) (uh p) zl (zo zl))) (zi (zx (zm (zh9 p) (zbn p) zl (zo (zs (za (jg p) zl) zl))))
 z6) z6)
 z6))
 z6))
noncomputable def zg0 : DS :=
 (zw (qb (gr 1 1 (zp 1 8 (zd 0)) (zy 1) zah (j0 [(zd 1), (wd (zp 1 2 (zd 0)) (z4 b.abs [(zd 1)])), (wd (zp 1 3 (zd 0)) (z4 b.abs [(zd 1)])), (wd (zp 1 4 (zd 0)) (z4 b.abs [(zd 1)]))])))
 z3)
noncomputable def gg : DF := jl 1 1 [] zg0
theorem zc5 (p : Par) : FS (W1 p) 1 (.ref 357) gg := by
 refine yg (names := ["core"]) (sl := [some "core"]) (dm := []) (dv := []) (rfl : (K0 p.w.params).lookup 357 = some _) (by kernel_rfl) (fun L => ?_) (fun _ _ => .nil) (fun s ys hl hb => by obtain ⟨a, rfl⟩ := ys1 hl; exact zv5 rfl) (by kernel_rfl)
 unfold zg0
 exact (zi (yk (zcm (za1 (csl := [some "core", some "lit"]) (by kernel_rfl) (fun C => zt) (fun C => zf8) (fun C => (zdt (zn zl (zn (zs (za (ye p) zl) (zb (vh p) vf (zo zl))) (zn (zs (za (ye p) zl) (zb (vh p) vf (zo zl))) (zo (zs (za (ye p) zl) (zb (vh p) vf (zo zl)))))))))) (za (ye p) zl) (fun _ => by rfl)))
 z6)
noncomputable def j7 : DS :=
 (zw (yt (z9 .In (zd 5) (zd 4)) (zw zjt
 z3) z3)
 (zw (yt (ue (z9 .NotEq (z5 1 wf (zd 0) [(zd 5)]) (zh (.int 0))) (ue (z9 .NotEq (wd (zp 1 3 (zd 0)) (zd 5)) (uf (zh (.int 1)))) (ue (zbd (qd (z5 0 yh (zp 1 7 (zd 0)) [(zd 5)]))) (ue (z9 .NotEq (wd (zp 1 5 (zd 0)) (zd 5)) (wd (zd 3) (zd 5))) zl1)))) (zw (qb (zh (.bool false)))
 z3) z3)
 z3))
noncomputable def zd0 : DS :=
 (zw (zq (gr 6 1 (zd 2) (zy 6) zah (z4 b.abs [(wd (zd 6) (zh (.int 0)))])) (zy 4))
 (zw (yt (ue (z9 .NotEq (we gg [(zd 0)]) (zd 2)) (ue (z9 .NotEq (z5 1 wg (zd 0) []) (zd 1)) (ue (z9 .NotEq (zp 1 10 (zd 0)) (z4 b.len [(zd 2)])) zl1))) (zw (qb (zh (.bool false)))
 z3) z3)
 (zw (u9 (z4 b.range [(zh (.int 1)), (wo o.add (z5 1 yq (zd 0) []) (zh (.int 1)))]) (zy 5) j7)
 (zw (qb (zga (zch .Eq (z5 1 yd (zd 0) []) (uf (zh (.int 1)))) (zga (zch .Eq (we gg [(zd 0)]) (zd 2)) (z5 1 ym (zd 0) []))))
 z3))))
noncomputable def uu : DF := jl 4 6 [] zd0
theorem zcs (p : Par) : FS (W1 p) 5 (.ref 362) uu := by
 refine yg (names := ["core", "depth", "seen", "last"]) (sl := [some "core", some "depth", some "seen", some "last", some "known", some "var"]) (dm := []) (dv := []) (rfl : (K0 p.w.params).lookup 362 = some _) (by kernel_rfl) (fun L => ?_) (fun _ _ => .nil) (fun s ys hl hb => by obtain ⟨a, b, c, d, rfl⟩ := ys4 hl; exact zv5 rfl) (by kernel_rfl)
 unfold zd0
 exact (zi (zmp (za1 (csl := [none, none, none, none, none, none, some "row"]) (by kernel_rfl) (fun C => zt) (fun C => zf8) (fun C => (zb (vh p) vf (zo (zs zl z8))))) zl (fun _ => by rfl) (by rfl) zt)
 (zi (qx (zav (zc (zf (zc7 p) (zc5 p) (zo zl)) zl) (zav (zc (zm (jn p) (qy p) zl y7) zl) (zav (zc (za (ye p) zl) (zb (qs p) qr (zo zl))) zaq))) (zi (yk up)
 z6) z6)
 (zi (zr (zb (je p) jd (zn z8 (zo (yl gh (zm (zam p) (vb p) zl y7) z8)))) zt (zi (qx (zc zl zl) (zi zi7
 z6) z6)
 (zi (qx (zav (zc (zm (kt p) (yx p) zl (zo zl)) z8) (zav (zc (zs (za (ye p) zl) zl) (xf z8)) (zav (zds (zv (zm (zb4 p) (uh p) (za (ye p) zl) (zo zl)))) (zav (zc (zs (za (ye p) zl) zl) (zs zl zl)) zaq)))) (zi (yk up)
 z6) z6)
 z6)))
 (zi (yk (zqf (ze (zm (vn p) (j4 p) zl y7) (xf z8)) (zqf (ze (zf (zc7 p) (zc5 p) (zo zl)) zl) (zpl (zm (zbf p) (vq p) zl y7)))))
 z6))))
noncomputable def ke : DS :=
 (zw (zq (gr 9 1 (z4 b.range [(zh (.int 1)), (wo o.add (z5 1 yq (zd 1) []) (zh (.int 1)))]) (zy 9) (z9 .Eq (z5 1 wf (zd 1) [(zd 9)]) (zh (.int 0))) (zd 9)) (zy 6))
 (zw (yt (z9 .Eq (zd 6) (wv [])) (zw zh1
 z3) z3)
 (zw (zq (zbt (z9 .Eq (we wj [(zd 0), (zh (.int 2))]) (zh (.int 0))) (z5 0 wp (zp 1 7 (zd 1)) [(zp 1 1 (zd 1))]) (wd (zd 6) (we wj [(zd 0), (z4 b.len [(zd 6)])]))) (zy 7))
 (zw (yt (zbd (qd (we yr [(zd 1), (wo o.mul (zd 7) (we kd [(zd 0)]))]))) (zw (zq (wo o.add (zd 3) (we wj [(zd 0), (wo o.sub (z5 1 wg (zd 1) []) (zd 3))])) (zy 8))
 (zw (wh (we kj [(zd 1), (wd (zp 1 9 (zd 1)) (zd 8)), (zd 2)]))
 (zw (wh (z5 1 z7 (zd 1) [(zd 8)]))
 z3))) z3)
 z3))))
noncomputable def xl : DS :=
 (zw (zbk (j0 [(z5 1 wg (zd 1) []), (we gg [(zd 1)])]) [3, 4])
 (zw (u9 (z4 b.range [(wo o.add (zh (.int 1)) (we wj [(zd 0), (zh (.int 3))]))]) (zy 5) ke)
 (zw (wh (we kj [(zd 1), (z4 b.len [(zd 4)]), (zd 2)]))
 (zw (wh (z5 1 z7 (zd 1) [(zd 3)]))
 (zw (yt (zbd (qd (we uu [(zd 1), (zd 3), (zd 4), (zd 2)]))) (zw (qb (zh (.bool false)))
 z3) z3)
 (zw (wh (z5 1 z7 (zd 1) [(wo o.add (zd 3) (we wj [(zd 0), (zh (.int 2))]))]))
 (zw (qb (we uu [(zd 1), (zd 3), (zd 4), (zd 2)]))
 z3)))))))
noncomputable def gm : DF := jl 3 9 [] xl
theorem zcj (p : Par) : FS (W1 p) 6 (.ref 374) gm := by
 refine yg (names := ["hat", "core", "last"]) (sl := [some "hat", some "core", some "last", some "depth", some "seen", some "lap", some "free", some "var", some "goal"]) (dm := []) (dv := []) (rfl : (K0 p.w.params).lookup 374 = some _) (by kernel_rfl) (fun L => ?_) (fun _ _ => .nil) (fun s ys hl hb => by obtain ⟨a, b, c, rfl⟩ := ys3 hl; exact zv5 rfl) (by kernel_rfl)
 unfold xl
 exact (zi (zi6 (xs := ["depth", "seen"]) (zdt (zn (zm (jn p) (qy p) zl y7) (zo (zf (zc7 p) (zc5 p) (zo zl))))) (by rfl) (by rfl) (by rfl) (zjx (by rfl) (.inl (by rfl)) (by rfl) (.inl (by rfl))))
 (zi (zr (zb (je p) jd (zo (yl gh z8 (zf (qq p) (qp p) (zn zl (zo z8)))))) zt (zi (zmp (za1 (csl := [none, some "core", none, none, none, none, none, none, none, some "var"]) (by kernel_rfl) (fun C => zt) (fun C => (zmb (zc (zm (kt p) (yx p) zl (zo zl)) z8))) (fun C => zl)) (zb (je p) jd (zn z8 (zo (yl gh (zm (zam p) (vb p) zl y7) z8)))) (fun _ => by rfl) (by rfl) zt)
 (zi (qx (zc zl (qz y7)) (zi zjk
 z6) z6)
 (zi (zg (zf7 (zc (zf (qq p) (qp p) (zn zl (zo z8))) z8) (zm (xh p) (gl p) (za (ye p) zl) (zo (za (ye p) zl))) (zs zl (zf (qq p) (qp p) (zn zl (zo (zb (qs p) qr (zo zl))))))) zt)
 (zi (qx (zds (zv (zf (zap p) (zao p) (zn zl (zo (yl zco zl (zf (zc6 p) (zc4 p) (zo zl)))))))) (zi (zg (yl gh zl (zf (qq p) (qp p) (zn zl (zo (yl zbe (zm (jn p) (qy p) zl y7) zl))))) zt)
 (zi (zx (zf (zb7 p) (zb6 p) (zn zl (zn (zs (za (ye p) zl) zl) (zo zl)))))
 (zi (zx (zm (qv p) (y3 p) zl (zo zl)))
 z6))) z6)
 z6)))))
 (zi (zx (zf (zb7 p) (zb6 p) (zn zl (zn (zb (qs p) qr (zo zl)) (zo zl)))))
 (zi (zx (zm (qv p) (y3 p) zl (zo zl)))
 (zi (qx (zds (zv (zf (zct p) (zcs p) (zn zl (zn zl (zn zl (zo zl))))))) (zi (yk up)
 z6) z6)
 (zi (zx (zm (qv p) (y3 p) zl (zo (yl gh zl (zf (qq p) (qp p) (zn zl (zo z8)))))))
 (zi (yk (zf (zct p) (zcs p) (zn zl (zn zl (zn zl (zo zl))))))
 z6)))))))
noncomputable def zd2 : DS :=
 (zw (zq (wd (zp 1 12 (zd 0)) (zd 1)) (zy 2))
 (zw (wh (yj m.append (wd (zp 1 6 (zd 0)) (we ku [(wd (zd 2) (zh (.int 0)))])) [(zd 1)]))
 (zw (wh (yj m.append (wd (zp 1 6 (zd 0)) (we ku [(wd (zd 2) (zh (.int 1)))])) [(zd 1)]))
 z3)))
noncomputable def uv : DF := jl 2 3 [] zd2
theorem zgc (p : Par) : FS (W1 p) 2 (.ref 230) uv := by
 refine yg (names := ["self", "number"]) (sl := [some "self", some "number", some "lits"]) (dm := []) (dv := []) (rfl : (K0 p.w.params).lookup 230 = some _) (by kernel_rfl) (fun L => ?_) (fun _ _ => .nil) (fun s ys hl hb => by obtain ⟨a, b, rfl⟩ := ys2 hl; exact zv5 rfl) (by kernel_rfl)
 unfold zd2
 exact (zi (zg (zs (za (ye p) zl) zl) zt)
 (zi (zx (zk yz zxe zxf (zs (za (ye p) zl) (zf (ve p) (vd p) (zo (zs zl z8)))) (zo zl)))
 (zi (zx (zk yz zxe zxf (zs (za (ye p) zl) (zf (ve p) (vd p) (zo (zs zl z8)))) (zo zl)))
 z6)))
noncomputable def zcu : DS :=
 (zw (yt (z9 .NotEq (z5 1 wf (zd 0) [(zd 1)]) (zh (.int (-1)))) (zw (qb (wo o.add (z5 1 wg (zd 0) []) (zh (.int 1))))
 z3) z3)
 (zw (qb (wd (zp 1 2 (zd 0)) (z4 b.abs [(zd 1)])))
 z3))
noncomputable def jj : DF := jl 2 2 [] zcu
theorem zf4 (p : Par) : FS (W1 p) 2 (.ref 244) jj := by
 refine yg (names := ["self", "lit"]) (sl := [some "self", some "lit"]) (dm := []) (dv := []) (rfl : (K0 p.w.params).lookup 244 = some _) (by kernel_rfl) (fun L => ?_) (fun _ _ => .nil) (fun s ys hl hb => by obtain ⟨a, b, rfl⟩ := ys2 hl; exact zv5 rfl) (by kernel_rfl)
 unfold zcu
 exact (zi (qx (zc (zm (kt p) (yx p) zl (zo zl)) (ww (vr p) (by rfl) (by rfl))) (zi (yk (yl gh (zm (jn p) (qy p) zl y7) z8))
 z6) z6)
 (zi (yk (zs (za (ye p) zl) (zb (vh p) vf (zo zl))))
 z6))
noncomputable def zfy : DS :=
 (zw (qb (j0 [(z4 b.abs [(zd 0)]), (zd 0)]))
 z3)
noncomputable def vj : DF := jl 1 1 [] zfy
theorem zi3 (p : Par) : FS (W1 p) 1 (.ref 160) vj := by
 refine yg (names := ["lit"]) (sl := [some "lit"]) (dm := []) (dv := []) (rfl : (K0 p.w.params).lookup 160 = some _) (by kernel_rfl) (fun L => ?_) (fun _ _ => .nil) (fun s ys hl hb => by obtain ⟨a, rfl⟩ := ys1 hl; exact zv5 rfl) (by kernel_rfl)
 unfold zfy
 exact (zi (yk (zdt (zn (zb (vh p) vf (zo zl)) (zo zl))))
 z6)
noncomputable def zaj : DS :=
 (zw (zq (zbc vj (zd 1)) (zy 2))
 (zw (wh (ze6 1 jj (zd 2) (zd 0)))
 (zw (qb (zd 2))
 z3)))
noncomputable def ge : DF := jl 2 3 [] zaj
theorem zde (p : Par) : FS (W1 p) 4 (.ref 251) ge := by
 refine yg (names := ["self", "lits"]) (sl := [some "self", some "lits", some "found"]) (dm := []) (dv := []) (rfl : (K0 p.w.params).lookup 251 = some _) (by kernel_rfl) (fun L => ?_) (fun _ _ => .nil) (fun s ys hl hb => by obtain ⟨a, b, rfl⟩ := ys2 hl; exact zv5 rfl) (by kernel_rfl)
 unfold zaj
 exact (zi (zg (zi0 (zi4 p) (zi3 p) (zir p) zl (by decide) (by rfl) (by decide) (by rfl) (by rfl) (by rfl)) zt)
 (zi (zx (znt (zka p) (zf4 p) zl zl (by decide) (by rfl) (by rfl)))
 (zi (yk zl)
 z6)))
noncomputable def zd5 : DS :=
 (zw (yt (z9 .Lt (z4 b.len [(wd (zp 1 12 (zd 0)) (zd 1))]) (zh (.int 2))) (zw (wh (z5 1 z7 (zd 0) [(zh (.int 0))]))
 z3) z3)
 (zw (zq (z5 1 ge (zd 0) [(wd (zp 1 12 (zd 0)) (zd 1))]) (zy 2))
 (zw (zq (zd 2) (y9 (zp 1 12 (zd 0)) (zd 1)))
 (zw (yt (z9 .Gt (z4 b.len [(zd 2)]) (zh (.int 1))) (zw (wh (z5 1 uv (zd 0) [(zd 1)]))
 z3) z3)
 (zw (yt (ue (z9 .Eq (z4 b.len [(zd 2)]) (zh (.int 0))) (ue (z9 .Eq (z5 1 wf (zd 0) [(wd (zd 2) (zh (.int 0)))]) (zh (.int (-1)))) zl1)) (zw (qb (zd 1))
 z3) z3)
 (zw (yt (z9 .Eq (z5 1 wf (zd 0) [(wd (zd 2) (zh (.int 0)))]) (zh (.int (0)))) (zw (yt (z9 .Eq (z4 b.len [(zd 2)]) (zh (.int 1))) (zw (wh (z5 1 qe (zd 0) [(wd (zd 2) (zh (.int 0))), (zd 1)]))
 z3) (zw (yt (z9 .Eq (z5 1 wf (zd 0) [(wd (zd 2) (zh (.int 1)))]) (zh (.int (-1)))) (zw (wh (z5 1 z7 (zd 0) [(wd (zp 1 2 (zd 0)) (z4 b.abs [(wd (zd 2) (zh (.int 1)))]))]))
 (zw (wh (z5 1 qe (zd 0) [(wd (zd 2) (zh (.int 0))), (zd 1)]))
 z3)) z3)
 z3))
 z3) z3)
 (zw (qb (zh (.int (-1))))
 z3)))))))
noncomputable def uy : DF := jl 2 3 [] zd5
theorem zgf (p : Par) : FS (W1 p) 5 (.ref 265) uy := by
 refine yg (names := ["self", "number"]) (sl := [some "self", some "number", some "lits"]) (dm := []) (dv := []) (rfl : (K0 p.w.params).lookup 265 = some _) (by kernel_rfl) (fun L => ?_) (fun _ _ => .nil) (fun s ys hl hb => by obtain ⟨a, b, rfl⟩ := ys2 hl; exact zv5 rfl) (by kernel_rfl)
 unfold zd5
 exact (zi (qx (zc (zb (qs p) qr (zo (zs (za (ye p) zl) zl))) z8) (zi (zx (zm (qv p) (y3 p) zl (zo z8)))
 z6) z6)
 (zi (zg (zm (zf3 p) (zde p) zl (zo (zs (za (ye p) zl) zl))) zt)
 (zi (zg zl (j5 (za (ye p) zl) zl))
 (zi (qx (zc (zb (qs p) qr (zo zl)) z8) (zi (zx (zm (zlm p) (zgc p) zl (zo zl)))
 z6) z6)
 (zi (qx (zav (zc (zb (qs p) qr (zo zl)) z8) (zav (zc (zm (kt p) (yx p) zl (zo (zs zl z8))) (ww (vr p) (by rfl) (by rfl))) zaq)) (zi (yk zl)
 z6) z6)
 (zi (qx (zc (zm (kt p) (yx p) zl (zo (zs zl z8))) (ww (xi p) (by rfl) (by rfl))) (zi (qx (zc (zb (qs p) qr (zo zl)) z8) (zi (zx (zm (zaa p) (ua p) zl (zn (zs zl z8) (zo zl))))
 z6) (zi (qx (zc (zm (kt p) (yx p) zl (zo (zs zl z8))) (ww (vr p) (by rfl) (by rfl))) (zi (zx (zm (qv p) (y3 p) zl (zo (zs (za (ye p) zl) (zb (vh p) vf (zo (zs zl z8)))))))
 (zi (zx (zm (zaa p) (ua p) zl (zn (zs zl z8) (zo zl))))
 z6)) z6)
 z6))
 z6) z6)
 (zi (yk (ww (g7 p) (by rfl) (by rfl)))
 z6)))))))
noncomputable def zd4 : DS :=
 (zw (zq (z4 b.len [(zp 1 12 (zd 0))]) (zy 4))
 (zw (wh (yj m.append (zp 1 12 (zd 0)) [(z4 b.list [(zd 1)])]))
 (zw (wh (yj m.append (zp 1 13 (zd 0)) [(zd 2)]))
 (zw (wh (yj m.append (zp 1 14 (zd 0)) [(zd 3)]))
 (zw (wh (yj m.append (zp 1 15 (zd 0)) [(zh (.int 0))]))
 (zw (yt (qd (zd 3)) (zw (zq (wo o.add (zp 1 16 (zd 0)) (zh (.int 1))) (wm 1 16 (zd 0)))
 z3) z3)
 (zw (qb (zd 4))
 z3)))))))
noncomputable def ux : DF := jl 4 5 [] zd4
theorem zge (p : Par) : FS (W1 p) 1 (.ref 223) ux := by
 refine yg (names := ["self", "clause", "step", "can_drop"]) (sl := [some "self", some "clause", some "step", some "can_drop", some "number"]) (dm := []) (dv := []) (rfl : (K0 p.w.params).lookup 223 = some _) (by kernel_rfl) (fun L => ?_) (fun _ _ => .nil) (fun s ys hl hb => by obtain ⟨a, b, c, d, rfl⟩ := ys4 hl; exact zv5 rfl) (by kernel_rfl)
 unfold zd4
 exact (zi (zg (zb (qs p) qr (zo (za (ye p) zl))) zt)
 (zi (zx (zk yz zxe zxf (za (ye p) zl) (zo (zb (znh p) znf (zo zl)))))
 (zi (zx (zk yz zxe zxf (za (ye p) zl) (zo zl)))
 (zi (zx (zk yz zxe zxf (za (ye p) zl) (zo zl)))
 (zi (zx (zk yz zxe zxf (za (ye p) zl) (zo z8)))
 (zi (qx (zv zl) (zi (zg (yl gh (za (ye p) zl) z8) (zu (ye p) zl))
 z6) z6)
 (zi (yk zl)
 z6)))))))
noncomputable def zca : DS :=
 (zw (qb (wo o.sub (z4 b.len [(zp 0 2 (zd 0))]) (zh (.int 1))))
 z3)
noncomputable def qk : DF := jl 1 1 [] zca
theorem zbp (p : Par) : FS (W1 p) 1 (.ref 43) qk := by
 refine yg (names := ["self"]) (sl := [some "self"]) (dm := []) (dv := []) (rfl : (K0 p.w.params).lookup 43 = some _) (by kernel_rfl) (fun L => ?_) (fun _ _ => .nil) (fun s ys hl hb => by obtain ⟨a, rfl⟩ := ys1 hl; exact zv5 rfl) (by kernel_rfl)
 unfold zca
 exact (zi (yk (yl zbe (zb (qs p) qr (zo (za (jg p) zl))) z8))
 z6)
noncomputable def xd : DS :=
 (zw (wh (yj m.append (zp 0 2 (zd 0)) [(zh (.int 0))]))
 (zw (wh (yj m.append (zp 0 4 (zd 0)) [(uf (zh (.int 1)))]))
 (zw (wh (z5 0 gn (zd 0) [(z5 0 qk (zd 0) [])]))
 z3)))
noncomputable def zcc : DS :=
 (zw (vm (z9 .Lt (z5 0 qk (zd 0) []) (zd 1)) xd zjf)
 z3)
noncomputable def u0 : DF := jl 2 2 [] zcc
theorem zfe (p : Par) : FS (W1 p) 4 (.ref 64) u0 := by
 refine yg (names := ["self", "n"]) (sl := [some "self", some "n"]) (dm := []) (dv := []) (rfl : (K0 p.w.params).lookup 64 = some _) (by kernel_rfl) (fun L => ?_) (fun _ _ => .nil) (fun s ys hl hb => by obtain ⟨a, b, rfl⟩ := ys2 hl; exact zv5 rfl) (by kernel_rfl)
 unfold zcc
 exact (zi (zda (zc (zm (zib p) (zbp p) zl y7) zl) (zi (zx (zk yz zxe zxf (za (jg p) zl) (zo z8)))
 (zi (zx (zk yz zxe zxf (za (jg p) zl) (zo (xf z8))))
 (zi (zx (zm (zia p) (zbo p) zl (zo (zm (zib p) (zbp p) zl y7))))
 z6))))
 z6)
noncomputable def zer : DS :=
 (zw (zq (z4 b.len [(zp 1 1 (zd 0))]) (zy 1))
 (zw (wh (yj m.append (zp 1 1 (zd 0)) [(zh (.int (0)))]))
 (zw (wh (yj m.append (zp 1 2 (zd 0)) [(zh (.int 0))]))
 (zw (wh (yj m.append (zp 1 3 (zd 0)) [(zh (.int (-1)))]))
 (zw (wh (yj m.append (zp 1 4 (zd 0)) [(zh (.int 0))]))
 (zw (wh (yj m.append (zp 1 5 (zd 0)) [(zh (.int (-1)))]))
 (zw (wh (yj m.append (zp 1 6 (zd 0)) [(wv [])]))
 (zw (wh (yj m.append (zp 1 6 (zd 0)) [(wv [])]))
 (zw (wh (z5 0 u0 (zp 1 7 (zd 0)) [(zd 1)]))
 (zw (qb (zd 1))
 z3))))))))))
noncomputable def zag : DF := jl 1 2 [] zer
theorem zhr (p : Par) : FS (W1 p) 5 (.ref 181) zag := by
 refine yg (names := ["self"]) (sl := [some "self", some "var"]) (dm := []) (dv := []) (rfl : (K0 p.w.params).lookup 181 = some _) (by kernel_rfl) (fun L => ?_) (fun _ _ => .nil) (fun s ys hl hb => by obtain ⟨a, rfl⟩ := ys1 hl; exact zv5 rfl) (by kernel_rfl)
 unfold zer
 exact (zi (zg (zb (qs p) qr (zo (za (ye p) zl))) zt)
 (zi (zx (zk yz zxe zxf (za (ye p) zl) (zo (ww (xi p) (by rfl) (by rfl)))))
 (zi (zx (zk yz zxe zxf (za (ye p) zl) (zo z8)))
 (zi (zx (zk yz zxe zxf (za (ye p) zl) (zo (ww (g7 p) (by rfl) (by rfl)))))
 (zi (zx (zk yz zxe zxf (za (ye p) zl) (zo z8)))
 (zi (zx (zk yz zxe zxf (za (ye p) zl) (zo (ww (vr p) (by rfl) (by rfl)))))
 (zi (zx (zk yz zxe zxf (za (ye p) zl) (zo (qz y7))))
 (zi (zx (zk yz zxe zxf (za (ye p) zl) (zo (qz y7))))
 (zi (zx (zm (zn3 p) (zfe p) (za (ye p) zl) (zo zl)))
 (zi (yk zl)
 z6))))))))))
noncomputable def zcb : DS :=
 (zw (zq (zd 1) (wm 0 0 (zd 0)))
 (zw (zq (zh (.int (1024))) (wm 0 1 (zd 0)))
 (zw (zq (wv [(zh (.int 0))]) (wm 0 2 (zd 0)))
 (zw (zq (wv []) (wm 0 3 (zd 0)))
 (zw (zq (wv [(uf (zh (.int 1)))]) (wm 0 4 (zd 0)))
 z3)))))
noncomputable def uz : DF := jl 2 2 [.int 1000000000000] zcb
theorem zfd (p : Par) : FS (W1 p) 1 (.ref 36) uz := by
 refine yg (names := ["self", "limit"]) (sl := [some "self", some "limit"]) (dm := [.int 1000000000000]) (dv := [.int 1000000000000 210]) (rfl : (K0 p.w.params).lookup 36 = some _) (by kernel_rfl) (fun L => ?_) (fun _ _ => .cons (.int ..) .nil) (fun s ys hl hb => by obtain ⟨a, rfl⟩ := ys1 (zw8.inj hl); exact binds_K ((W1 p).KX.keeps hb) rfl (rfl : (K0 p.w.params).lookup 29 = some _) rfl rfl rfl) (by kernel_rfl)
 unfold zcb
 exact (zi (zg zl (zu (jg p) zl))
 (zi (zg (ww (zho p) (by rfl) (by rfl)) (zu (jg p) zl))
 (zi (zg (qz (zo z8)) (zu (jg p) zl))
 (zi (zg (qz y7) (zu (jg p) zl))
 (zi (zg (qz (zo (xf z8))) (zu (jg p) zl))
 z6)))))
noncomputable def xp : DF := zey 0 uz
theorem zj1 (p : Par) : FS (W1 p) 2 (.ref 142) xp := zna (jg p) (zfd p) (by kernel_rfl) (by kernel_rfl) (by kernel_rfl)
noncomputable def zeq : DS :=
 (zw (zq (zd 1) (wm 1 0 (zd 0)))
 (zw (zq (wv [(zh (.int (0)))]) (wm 1 1 (zd 0)))
 (zw (zq (wv [(zh (.int 0))]) (wm 1 2 (zd 0)))
 (zw (zq (wv [(zh (.int (-1)))]) (wm 1 3 (zd 0)))
 (zw (zq (wv [(zh (.int 0))]) (wm 1 4 (zd 0)))
 (zw (zq (wv [(zh (.int (-1)))]) (wm 1 5 (zd 0)))
 (zw (zq (wv [(wv []), (wv [])]) (wm 1 6 (zd 0)))
 (zw (zq (we xp []) (wm 1 7 (zd 0)))
 (zw (zq (wv []) (wm 1 8 (zd 0)))
 (zw (zq (wv []) (wm 1 9 (zd 0)))
 (zw (zq (zh (.int 0)) (wm 1 10 (zd 0)))
 (zw (zq (zh (.int 0)) (wm 1 11 (zd 0)))
 (zw (zq (wv []) (wm 1 12 (zd 0)))
 (zw (zq (wv []) (wm 1 13 (zd 0)))
 (zw (zq (wv []) (wm 1 14 (zd 0)))
 (zw (zq (wv []) (wm 1 15 (zd 0)))
 (zw (zq (zh (.int 0)) (wm 1 16 (zd 0)))
 z3)))))))))))))))))
noncomputable def zaf : DF := jl 2 2 [] zeq
theorem zhq (p : Par) : FS (W1 p) 3 (.ref 174) zaf := by
 refine yg (names := ["self", "hook"]) (sl := [some "self", some "hook"]) (dm := []) (dv := []) (rfl : (K0 p.w.params).lookup 174 = some _) (by kernel_rfl) (fun L => ?_) (fun _ _ => .nil) (fun s ys hl hb => by obtain ⟨a, b, rfl⟩ := ys2 hl; exact zv5 rfl) (by kernel_rfl)
 unfold zeq
 exact (zi (zg zl (zu (ye p) zl))
 (zi (zg (qz (zo (ww (xi p) (by rfl) (by rfl)))) (zu (ye p) zl))
 (zi (zg (qz (zo z8)) (zu (ye p) zl))
 (zi (zg (qz (zo (ww (g7 p) (by rfl) (by rfl)))) (zu (ye p) zl))
 (zi (zg (qz (zo z8)) (zu (ye p) zl))
 (zi (zg (qz (zo (ww (vr p) (by rfl) (by rfl)))) (zu (ye p) zl))
 (zi (zg (qz (zn (qz y7) (zo (qz y7)))) (zu (ye p) zl))
 (zi (zg (se_mk (zj2 p) (zj1 p) y7 zfj (by rfl) (by decide) (by rfl)) (zu (ye p) zl))
 (zi (zg (qz y7) (zu (ye p) zl))
 (zi (zg (qz y7) (zu (ye p) zl))
 (zi (zg z8 (zu (ye p) zl))
 (zi (zg z8 (zu (ye p) zl))
 (zi (zg (qz y7) (zu (ye p) zl))
 (zi (zg (qz y7) (zu (ye p) zl))
 (zi (zg (qz y7) (zu (ye p) zl))
 (zi (zg (qz y7) (zu (ye p) zl))
 (zi (zg z8 (zu (ye p) zl))
 z6)))))))))))))))))
noncomputable def zfg : DF := zey 1 zaf
theorem zps (p : Par) : FS (W1 p) 4 (.ref 315) zfg := zna (ye p) (zhq p) (by kernel_rfl) (by kernel_rfl) (by kernel_rfl)
noncomputable def zad : DS :=
 (zw (wh (z5 1 uy (zd 2) [(z5 1 ux (zd 2) [(zd 4), (zh .none), (zh (.bool false))])]))
 z3)
noncomputable def zac : DS :=
 (zw (wh (z5 1 zag (zd 2) []))
 z3)
noncomputable def zfz : DS :=
 (zw (zq (we zfg [(zh .none)]) (zy 2))
 (zw (u9 (z4 b.range [(zd 0)]) (zy 3) zac)
 (zw (u9 (zd 1) (zy 4) zad)
 (zw (qb (zd 2))
 z3))))
noncomputable def vk : DF := jl 2 5 [] zfz
theorem zem (p : Par) : FS (W1 p) 6 (.ref 345) vk := by
 refine yg (names := ["many", "lots"]) (sl := [some "many", some "lots", some "core", some "lap", some "lits"]) (dm := []) (dv := []) (rfl : (K0 p.w.params).lookup 345 = some _) (by kernel_rfl) (fun L => ?_) (fun _ _ => .nil) (fun s ys hl hb => by obtain ⟨a, b, rfl⟩ := ys2 hl; exact zv5 rfl) (by kernel_rfl)
 unfold zfz
 exact (zi (zg (se_mk (zpu p) (zps p) (zo zdu) (zax (by rfl)) (by rfl) (by decide) (by rfl)) zt)
 (zi (zr (zb (je p) jd (zo zl)) zt (zi (zx (zm (zn1 p) (zhr p) zl y7))
 z6))
 (zi (zr zl zt (zi (zx (zm (zlp p) (zgf p) zl (zo (zm (zlo p) (zge p) zl (zn zl (zn zdu (zo up)))))))
 z6))
 (zi (yk zl)
 z6))))
noncomputable def zbb : DS :=
 (zw (zq (wo o.add (zh (.int 2)) (we wj [(zd 0), (zh (.int 2))])) (zy 4))
 (zw (zq (we wj [(zd 0), (zd 1)]) (zy 5))
 (zw (wh (yj m.append (zd 2) [(gr 6 1 (z4 b.range [(zd 4)]) (zy 6) zah (wo o.mul (wo o.add (zh (.int 1)) (wo o.mod (wo o.add (zd 5) (zd 6)) (zd 1))) (we kd [(zd 0)])))]))
 z3)))
noncomputable def zg2 : DS :=
 (zw (zq (wv []) (zy 2))
 (zw (u9 (z4 b.range [(wo o.add (zh (.int 2)) (we wj [(zd 0), (zh (.int 4))]))]) (zy 3) zbb)
 (zw (qb (zd 2))
 z3)))
noncomputable def za2 : DF := jl 2 6 [] zg2
theorem zj5 (p : Par) : FS (W1 p) 3 (.ref 338) za2 := by
 refine yg (names := ["hat", "many"]) (sl := [some "hat", some "many", some "found", some "lap", some "wide", some "start"]) (dm := []) (dv := []) (rfl : (K0 p.w.params).lookup 338 = some _) (by kernel_rfl) (fun L => ?_) (fun _ _ => .nil) (fun s ys hl hb => by obtain ⟨a, b, rfl⟩ := ys2 hl; exact zv5 rfl) (by kernel_rfl)
 unfold zg2
 exact (zi (zg (qz y7) zt)
 (zi (zr (zb (je p) jd (zo (yl gh z8 (zf (qq p) (qp p) (zn zl (zo z8)))))) zt (zi (zg (yl gh z8 (zf (qq p) (qp p) (zn zl (zo z8)))) zt)
 (zi (zg (zf (qq p) (qp p) (zn zl (zo zl))) (zl4 (by rfl) (by rfl)))
 (zi (zx (zk yz zxe zxf zl (zo (zcm (za1 (csl := [some "hat", some "many", none, none, none, some "start", some "k"]) (by kernel_rfl) (fun C => zt) (fun C => zf8) (fun C => (yl zco (yl gh z8 (yl zjm (yl gh zl zl) zl)) (zf (zc6 p) (zc4 p) (zo zl))))) (zb (je p) jd (zo zl)) (fun _ => by rfl)))))
 z6))))
 (zi (yk zl)
 z6)))
noncomputable def zht : DS :=
 (zw (yt (zbd (qd (we gm [(zd 1), (zd 4), (zd 6)]))) (zw (qb (zh (.bool false)))
 z3) z3)
 (zw (zq (wo o.add (zh (.int 1)) (we wj [(zd 1), (zd 2)])) (zy 8))
 (zw (wh (z5 0 ql (zp 1 7 (zd 4)) [(zd 8)]))
 (zw (wh (z5 0 ql (zp 1 7 (zd 5)) [(zd 8)]))
 (zw (zq (z5 0 wp (zp 1 7 (zd 4)) [(zp 1 1 (zd 4))]) (zy 9))
 (zw (yt (z9 .NotEq (zd 9) (z5 0 wp (zp 1 7 (zd 5)) [(zp 1 1 (zd 5))])) (zw (qb (zh (.bool false)))
 z3) z3)
 (zw (yt (z9 .Eq (zd 9) (zh (.int 0))) (zw zh1
 z3) z3)
 (zw (zq (wo o.mul (zd 9) (we kd [(zd 1)])) (zy 10))
 (zw (zq (we yr [(zd 4), (zd 10)]) (zy 11))
 (zw (yt (z9 .NotEq (zd 11) (we yr [(zd 5), (zd 10)])) (zw (qb (zh (.bool false)))
 z3) z3)
 (zw (yt (zbd (qd (zd 11))) (zw (zq (we wj [(zd 1), (z5 1 wg (zd 4) [])]) (zy 12))
 (zw (wh (we kj [(zd 4), (wd (zp 1 9 (zd 4)) (zd 12)), (zd 6)]))
 (zw (wh (z5 1 z7 (zd 4) [(zd 12)]))
 (zw (wh (z5 1 z7 (zd 5) [(zd 12)]))
 z3)))) z3)
 (zw (yt (ue (z9 .NotEq (we jm [(zd 4)]) (we jm [(zd 5)])) (ue (z9 .NotEq (z5 1 wg (zd 4) []) (z5 1 wg (zd 5) [])) (ue (zbd (qd (z5 1 ym (zd 4) []))) (ue (zbd (qd (z5 1 ym (zd 5) []))) zl1)))) (zw (qb (zh (.bool false)))
 z3) z3)
 z3))))))))))))
noncomputable def zq0 : DS :=
 (zw (zq (zg9 2 (gr 13 1 (kx (zd 0) none (some (zh (.int 60))) none) (zy 13) zah (wo o.mod (z4 b.abs [(zd 13)]) (zh (.int 1000003)))) (zh (.int 0))) (zy 1))
 (zw (zq (wo o.add (zh (.int 4)) (we wj [(zd 1), (zh (.int 3))])) (zy 2))
 (zw (zq (we za2 [(zd 1), (zd 2)]) (zy 3))
 (zw (zbk (j0 [(we vk [(zd 2), (gr 13 1 (zd 3) (zy 13) zah (z4 b.list [(zd 13)]))]), (we vk [(zd 2), (zd 3)]), (wo o.mul (wv [(uf (zh (.int 1)))]) (wo o.add (zd 2) (zh (.int 1))))]) [4, 5, 6])
 (zw (u9 (z4 b.range [(wo o.add (zh (.int 2)) (we wj [(zd 1), (zh (.int 3))]))]) (zy 7) zht)
 (zw (qb (zch .Eq (we ud [(zd 4)]) (we ud [(zd 5)])))
 z3))))))
end Mine
namespace Mine
noncomputable abbrev il (l : List Int) : MO := .list (l.map .int)
set_option genInjectivity false in
structure T where
 r : Nat
 as : List Int
 lv : List Int
 rs : List Int
 sp : List Int
 ph : List Int
 ta : Nat
 tr : List Int
 sa : Nat
 st : List Int
 he : Int
 to : Int
 W : List (Nat × List Int)
 C : List (Option (Nat × List Int))
 x1 : List MV
 x2 : List MV
 x3 : List MV
 ac : List Int
 hp : List Int
 pl : List Int
inductive Kd where
 | hob | ac | hp | pl
 | obj | as | lv | rs | sp | ph | ws | tr | st | cl | x1 | x2 | x3
 | w (i : Nat)
 | c (j : Nat)
noncomputable def zaw : Option (Nat × List Int) → MV
 | some p => .ref p.1
 | none => .none
noncomputable def T.at (t : T) : Kd → Option Nat
 | .obj => some t.r
 | .as => some (t.r + 1)
 | .lv => some (t.r + 2)
 | .rs => some (t.r + 3)
 | .sp => some (t.r + 4)
 | .ph => some (t.r + 5)
 | .ws => some (t.r + 8)
 | .tr => some t.ta
 | .st => some t.sa
 | .cl => some (t.r + 15)
 | .x1 => some (t.r + 16)
 | .x2 => some (t.r + 17)
 | .x3 => some (t.r + 18)
 | .hob => some (t.r + 9)
 | .ac => some (t.r + 10)
 | .hp => some (t.r + 11)
 | .pl => some (t.r + 12)
 | .w i => t.W[i]?.map (·.1)
 | .c j => (t.C[j]?.join).map (·.1)
noncomputable def T.is (t : T) : Kd → MO
 | .obj => .obj 1 [.none, .ref (t.r + 1), .ref (t.r + 2), .ref (t.r + 3), .ref (t.r + 4), .ref (t.r + 5), .ref (t.r + 8), .ref (t.r + 9), .ref t.ta, .ref t.sa, .int t.he, .int t.to, .ref (t.r + 15), .ref (t.r + 16), .ref (t.r + 17), .ref (t.r + 18), .int 0]
 | .as => il t.as
 | .lv => il t.lv
 | .rs => il t.rs
 | .sp => il t.sp
 | .ph => il t.ph
 | .ws => .list (t.W.map fun p => .ref p.1)
 | .tr => il t.tr
 | .st => il t.st
 | .cl => .list (t.C.map zaw)
 | .x1 => .list t.x1
 | .x2 => .list t.x2
 | .x3 => .list t.x3
 | .hob => .obj 0 [.int 1000000000000, .int 1024, .ref (t.r + 10), .ref (t.r + 11), .ref (t.r + 12)]
 | .ac => il t.ac
 | .hp => il t.hp
 | .pl => il t.pl
 | .w i => il ((t.W[i]?.map (·.2)).getD [])
 | .c j => il (((t.C[j]?.join).map (·.2)).getD [])
structure Rep (t : T) (H : St) : Prop where
 at' : ∀ k a, t.at k = some a → H[a]? = some (t.is k)
 inj : ∀ k k' a, t.at k = some a → t.at k' = some a → k = k'
theorem Rep.lt {t : T} {H : St} (R : Rep t H) {k : Kd} {a : Nat} (h : t.at k = some a) : a < H.length := (zsl.mp (R.at' k a h)).1
theorem Rep.upd {t : T} {H : St} (R : Rep t H) (t' : T) {k : Kd} {a : Nat} (ha : t.at k = some a) (hat : ∀ k, t'.at k = t.at k) (his : ∀ k', k' ≠ k → t'.is k' = t.is k') {o : MO} (ho : t'.is k = o) : Rep t' (H.set a o) := by
 subst ho
 refine ⟨fun k' b hb => ?_, fun k1 k2 b h1 h2 => R.inj k1 k2 b (hat k1 ▸ h1) (hat k2 ▸ h2)⟩
 rw [hat] at hb
 by_cases e : a = b
 ·subst e
  rw [R.inj k' k a hb ha, zsy (R.lt ha)]
 ·rw [zsn e, R.at' k' b hb, his]
  rintro rfl
  rw [hb] at ha
  exact e (zvu.inj ha).symm
theorem Rep.frame {t : T} {H H' : St} (R : Rep t H) (h : ∀ k a, t.at k = some a → H'[a]? = H[a]?) : Rep t H' := ⟨fun k a ha => (h k a ha).trans (R.at' k a ha), R.inj⟩
theorem Rep.app {t : T} {H L : St} (R : Rep t H) : Rep t (H ++ L) := R.frame fun k a ha => zst (R.lt ha)
noncomputable def Out (t : T) (H H' : St) : Prop := H.length ≤ H'.length ∧ ∀ a, (∀ k, t.at k ≠ some a) → a < H.length → H'[a]? = H[a]?
theorem Out.refl (t : T) (H : St) : Out t H H := ⟨zwt _, fun _ _ _ => rfl⟩
theorem Out.app (t : T) (H L : St) : Out t H (H ++ L) := ⟨by simp, fun a _ h => zst h⟩
theorem Out.set {t : T} {H H' : St} (x : Out t H H') {k : Kd} {a : Nat} (ha : t.at k = some a) (o : MO) : Out t H (H'.set a o) := by
 refine ⟨by rw [zsx]; exact x.1, fun b hb hl => ?_⟩
 rw [zsn, x.2 b hb hl]
 rintro rfl
 exact hb k ha
theorem Out.trans {t t' : T} {H H' H'' : St} (x : Out t H H') (y : Out t' H' H'') (h : ∀ k a, t'.at k = some a → H.length ≤ a ∨ ∃ k', t.at k' = some a) : Out t H H'' := by
 refine ⟨zw1 x.1 y.1, fun a ha hl => ?_⟩
 rw (occs := .all) [y.2 a (fun k e => ?_) (zw2 hl x.1), x.2 a ha hl]
 rcases h k a e with q | ⟨k', q⟩
 ·lia
 ·exact ha k' q
noncomputable def T.val (t : T) (l : Int) : Int := if l > 0 then t.as.getD l.natAbs 0 else -(t.as.getD l.natAbs 0)
end Mine
namespace Mine
theorem zj {a b : DS} {lo lo' : Lo} {H H' : St} (h : a lo H = some (.next, lo', H')) : zw a b lo H = b lo' H' := by unfold zw; rw [h]
theorem ze1 {a b : DS} {lo lo' : Lo} {H H' : St} (h : a lo H = some (.cont, lo', H')) : zw a b lo H = some (.cont, lo', H') := by unfold zw; rw [h]
theorem zcl {a b : DS} {lo lo' : Lo} {H H' : St} (h : a lo H = some (.brk, lo', H')) : zw a b lo H = some (.brk, lo', H') := by unfold zw; rw [h]
theorem wq {a b : DS} {lo lo' : Lo} {H H' : St} {v : MV} (h : a lo H = some (.ret v, lo', H')) : zw a b lo H = some (.ret v, lo', H') := by unfold zw; rw [h]
theorem jc {i : Nat} {lo : Lo} {H : St} {v : MV} (h : lo[i]? = some (some v)) : zd i lo H = some (v, H) := by unfold zd; rw [h]; rfl
theorem um {g : DE} {lo : Lo} {H H1 : St} {v : MV} (hg : g lo H = some (v, H1)) : jw [g] lo H = some ([v], H1) := by
 unfold jw; rw [hg]; rfl
theorem zb0 {g h : DE} {lo : Lo} {H H1 H2 : St} {v u : MV} (hg : g lo H = some (v, H1)) (hh : h lo H1 = some (u, H2)) : jw [g, h] lo H = some ([v, u], H2) := by
 unfold jw; rw [hg]; dsimp only [bnd]; rw [um hh]
theorem vu {g h k : DE} {lo : Lo} {H H1 H2 H3 : St} {v u w : MV} (hg : g lo H = some (v, H1)) (hh : h lo H1 = some (u, H2)) (hk : k lo H2 = some (w, H3)) : jw [g, h, k] lo H = some ([v, u, w], H3) := by
 unfold jw; rw [hg]; dsimp only [bnd]; rw [zb0 hh hk]
theorem zdd {c a : Nat} {H : St} {l : List MV} (ha : H[a]? = some (.obj c l)) : zo4 c (.ref a) H = true := by
 show (zeg c H[a]? some).isSome = true; rw [ha]; show (if c = c then some l else none).isSome = true; rw [if_pos rfl]; rfl
theorem zdp {a : Nat} {H : St} {l : List MV} (ha : H[a]? = some (.list l)) : zjq (.ref a) H = true := by
 show (y4 H[a]? some).isSome = true; rw [ha]; rfl
theorem zbx {n : Nat} (h : n ≤ 1000000) : small n = true := decide_eq_true h
theorem znc {c k a : Nat} {f : DE} {lo : Lo} {H H' : St} {l : List MV} {v : MV} (hf : f lo H = some (.ref a, H')) (ha : H'[a]? = some (.obj c l)) (hk : l[k]? = some v) : zp c k f lo H = some (v, H') := by
 unfold zp; rw [hf]; show zeg c H'[a]? _ = _; rw [ha]; show (if c = c then _ else _) = _; rw [if_pos rfl, hk]; rfl
theorem zbh {b : MV → MV → St → Option (MV × St)} {f g : DE} {lo : Lo} {H H1 H2 : St} {x y : MV} (hf : f lo H = some (x, H1)) (hg : g lo H1 = some (y, H2)) : wo b f g lo H = b x y H2 := by
 unfold wo; rw [hf]; dsimp only [bnd]; rw [hg]
theorem zbg {f g : DE} {lo : Lo} {H H1 H2 : St} {o v : MV} {i : Int} (hf : f lo H = some (o, H1)) (hg : g lo H1 = some (.int i, H2)) (hv : zr3 o (.int i) H2 = some v) : wd f g lo H = some (v, H2) := by
 unfold wd; rw [hf]; dsimp only [bnd]; rw [hg]; dsimp only; rw [hv]; rfl
theorem ki {f fa fi : DE} {lo : Lo} {H H1 : St} {v : MV} {a : Nat} {i : Int} {l : List MV} (hf : f lo H = some (v, H1)) (hfa : fa lo H1 = some (.ref a, H1)) (hfi : fi lo H1 = some (.int i, H1)) (ha : H1[a]? = some (.list l)) (h0 : 0 ≤ i) (hi : i.toNat < l.length) (hs : l.length < 2 ^ 62) :
  zq f (y9 fa fi) lo H = some (.next, lo, H1.set a (.list (l.set i.toNat v))) := by
 have e : setI (.ref a) (.int i) v H1 = some (H1.set a (.list (l.set i.toNat v))) := by
  show y4 _ _ = _; rw [ha]; exact if_pos ⟨h0, by lia, by lia⟩
 unfold zq y9; rw [hf]; dsimp only [bnd]; rw [hfa]; dsimp only; rw [hfi]; dsimp only; rw [e]; rfl
theorem wc {f : DE} {i : Nat} {lo : Lo} {H H1 : St} {v : MV} (hf : f lo H = some (v, H1)) (hi : i < lo.length) : zq f (zy i) lo H = some (.next, lo.set i (some v), H1) := by
 unfold zq zy; rw [hf]; dsimp only [bnd]; rw [if_pos hi]; rfl
theorem qu {f g : DE} {lo : Lo} {H H1 : St} {a : Nat} {l : List MV} {v : MV} (hf : f lo H = some (.ref a, H)) (hg : g lo H = some (v, H1)) (h0 : ∃ l, H[a]? = some (.list l)) (ha : H1[a]? = some (.list l)) (hs : l.length ≤ 1000000) :
  wh (yj m.append f [g]) lo H = some (.next, lo, H1.set a (.list (l ++ [v]))) := by
 obtain ⟨l0, h0⟩ := h0
 have e : m.append (.ref a) [v] H1 = some (.none, H1.set a (.list (l ++ [v]))) := by
  show y4 _ _ = _; rw [ha]; exact if_pos (zbx hs)
 unfold wh yj
 rw [hf]; dsimp only [bnd]; rw [if_pos (zdp h0), um hg]; dsimp only; rw [e]
theorem jh {f : DE} {lo : Lo} {H H1 : St} {a : Nat} {l : List MV} (hf : f lo H = some (.ref a, H1)) (ha : H1[a]? = some (.list l)) (hs : l.length ≤ 1000000) : z4 b.len [f] lo H = some (.int l.length, H1) := by
 unfold z4; rw [um hf]; show y4 _ _ = _; rw [ha]; exact if_pos (zbx hs)
theorem qf {c a : Nat} {F : DF} {f : DE} {lo : Lo} {H : St} {l : List MV} (hf : f lo H = some (.ref a, H)) (ha : H[a]? = some (.obj c l)) : z5 c F f [] lo H = F [.ref a] H := by
 unfold z5; rw [hf]; dsimp only [bnd]; rw [if_pos (zdd ha)]; rfl
theorem yu {c a : Nat} {F : DF} {f g : DE} {lo : Lo} {H H1 : St} {l : List MV} {v : MV} (hf : f lo H = some (.ref a, H)) (ha : H[a]? = some (.obj c l)) (hg : g lo H = some (v, H1)) : z5 c F f [g] lo H = F [.ref a, v] H1 := by
 unfold z5; rw [hf]; dsimp only [bnd]; rw [if_pos (zdd ha), um hg]
theorem ul {c a : Nat} {F : DF} {f g h : DE} {lo : Lo} {H H1 H2 : St} {l : List MV} {v u : MV} (hf : f lo H = some (.ref a, H)) (ha : H[a]? = some (.obj c l)) (hg : g lo H = some (v, H1)) (hh : h lo H1 = some (u, H2)) : z5 c F f [g, h] lo H = F [.ref a, v, u] H2 := by
 unfold z5; rw [hf]; dsimp only [bnd]; rw [if_pos (zdd ha), zb0 hg hh]
theorem j3 {F : DF} {g : DE} {lo : Lo} {H H1 : St} {v : MV} (hg : g lo H = some (v, H1)) : we F [g] lo H = F [v] H1 := by
 unfold we; rw [um hg]; rfl
theorem qw {F : DF} {g h : DE} {lo : Lo} {H H1 H2 : St} {v u : MV} (hg : g lo H = some (v, H1)) (hh : h lo H1 = some (u, H2)) : we F [g, h] lo H = F [v, u] H2 := by
 unfold we; rw [zb0 hg hh]; rfl
theorem wi {op : CmpOp} {f g : DE} {lo : Lo} {H H1 H2 : St} {x y : MV} {b : Bool} (hf : f lo H = some (x, H1)) (hg : g lo H1 = some (y, H2)) (hc : Mine.cmp op x y H2 = some b) : z9 op f g lo H = some (b, H2) := by
 unfold z9; rw [hf]; dsimp only [bnd]; rw [hg]; dsimp only; rw [hc]; rfl
theorem qj {f : DE} {lo : Lo} {H H1 : St} {v : MV} (hf : f lo H = some (v, H1)) : wh f lo H = some (.next, lo, H1) := by unfold wh; rw [hf]; rfl
theorem qc {f : DE} {lo : Lo} {H H1 : St} {v : MV} (hf : f lo H = some (v, H1)) : qb f lo H = some (.ret v, lo, H1) := by unfold qb; rw [hf]; rfl
theorem kr {t : Lo → St → Option (Bool × St)} {a b : DS} {lo : Lo} {H H1 : St} (ht : t lo H = some (true, H1)) : yt t a b lo H = a lo H1 := by unfold yt; rw [ht]; rfl
theorem yw {t : Lo → St → Option (Bool × St)} {a b : DS} {lo : Lo} {H H1 : St} (ht : t lo H = some (false, H1)) : yt t a b lo H = b lo H1 := by unfold yt; rw [ht]; rfl
theorem zew {t : Lo → St → Option (Bool × St)} {f g : DE} {lo : Lo} {H H1 : St} {c : Bool} (ht : t lo H = some (c, H1)) : zbt t f g lo H = if c then f lo H1 else g lo H1 := by unfold zbt; rw [ht]; rfl
theorem us {na ns : Nat} {dm : List MV} {b : DS} {args : List MV} {H H' : St} {lo' : Lo} (hl : args.length + dm.length = na) (h : b ((args ++ dm).map some ++ zsp (ns - na) none) H = some (.next, lo', H')) : jl na ns dm b args H = some (.none, H') := by
 unfold jl; rw [if_pos hl, h]; rfl
theorem y8 {na ns : Nat} {dm : List MV} {b : DS} {args : List MV} {H H' : St} {lo' : Lo} {v : MV} (hl : args.length + dm.length = na) (h : b ((args ++ dm).map some ++ zsp (ns - na) none) H = some (.ret v, lo', H')) : jl na ns dm b args H = some (v, H') := by
 unfold jl; rw [if_pos hl, h]; rfl
theorem Rep.attr {t : T} {H H0 : St} (R : Rep t H) {k : Nat} {f : DE} {lo : Lo} {v : MV} {l : List MV} (hl : t.is .obj = .obj 1 l) (hf : f lo H0 = some (.ref t.r, H)) (hk : l[k]? = some v) : zp 1 k f lo H0 = some (v, H) :=
 znc hf ((R.at' .obj _ rfl).trans (congrArg some hl)) hk
theorem xk {f : DE} {lo : Lo} {H H1 : St} {i : Int} (hf : f lo H = some (.int i, H1)) : z4 b.abs [f] lo H = some (.int i.natAbs, H1) := by
 unfold z4; rw [um hf]; show some (MV.int (if i < 0 then -i else i), H1) = _
 by_cases h : i < 0
 ·rw [if_pos h, show (i.natAbs : Int) = -i by lia]
 ·rw [if_neg h, show (i.natAbs : Int) = i by lia]
theorem zh4 {H : St} {a : Nat} {l : List MV} {i : Int} {v : MV} (ha : H[a]? = some (.list l)) (h0 : 0 ≤ i) (hi : i.toNat < l.length) (hs : l.length ≤ 1000) : setI (.ref a) (.int i) v H = some (H.set a (.list (l.set i.toNat v))) := by
 show y4 _ _ = _; rw [ha]; exact if_pos ⟨h0, by lia, by lia⟩
theorem zjg {f g : DE} {lo : Lo} {H H1 H2 : St} {u v : MV} (hf : f lo H = some (u, H1)) (hg : g lo H1 = some (v, H2)) : j0 [f, g] lo H = some (.tup [u, v], H2) := by
 unfold j0; rw [zb0 hf hg]; rfl
theorem zla {fa fb ga gb gi gj : DE} {lo : Lo} {H : St} {a b : Nat} {l k : List MV} {x y : MV} {i j : Int} (h1 : fa lo H = some (x, H)) (h2 : fb lo H = some (y, H)) (hga : ∀ H, ga lo H = some (.ref a, H)) (hgb : ∀ H, gb lo H = some (.ref b, H)) (hgi : ∀ H, gi lo H = some (.int i, H)) (hgj : ∀ H, gj lo H = some (.int j, H))
  (ha : H[a]? = some (.list l)) (hb : (H.set a (.list (l.set i.toNat x)))[b]? = some (.list k)) (hi0 : 0 ≤ i) (hi : i.toNat < l.length) (hj0 : 0 ≤ j) (hj : j.toNat < k.length) (hs : l.length ≤ 1000) (hs' : k.length ≤ 1000) :
  zq (j0 [fa, fb]) (zd8 [y9 ga gi, y9 gb gj]) lo H = some (.next, lo, (H.set a (.list (l.set i.toNat x))).set b (.list (k.set j.toNat y))) := by
 have e1 : y9 ga gi x lo H = some (lo, H.set a (.list (l.set i.toNat x))) := by
  unfold y9; rw [hga]; dsimp only [bnd]; rw [hgi]; dsimp only; rw [zh4 ha hi0 hi hs]; rfl
 have e2 : y9 gb gj y lo (H.set a (.list (l.set i.toNat x))) = some (lo, (H.set a (.list (l.set i.toNat x))).set b (.list (k.set j.toNat y))) := by
  unfold y9; rw [hgb]; dsimp only [bnd]; rw [hgj]; dsimp only; rw [zh4 hb hj0 hj hs']; rfl
 unfold zq
 rw [zjg h1 h2]
 show ((bnd (y9 ga gi x lo H) fun lo H => bnd (y9 gb gj y lo H) fun lo H => some (lo, H)).map _) = _
 rw [e1]
 show ((bnd (y9 gb gj y lo _) _).map _) = _
 rw [e2]
 rfl
theorem zma {f : DE} {lo : Lo} {H H1 : St} {i : Int} (hf : f lo H = some (.int i, H1)) : uf f lo H = some (.int (-i), H1) := by unfold uf; rw [hf]; rfl
theorem zhn {l : List Int} {i : Nat} {x : Int} (h : l[i]? = some x) : (l.map MV.int)[i]? = some (.int x) := by rw [zsu, h]; rfl
theorem j1 {H : St} {a : Nat} {l : List MV} {i : Int} {v : MV} (h : H[a]? = some (.list l)) (h0 : 0 ≤ i) (hv : l[i.toNat]? = some v) (hs : l.length < 2 ^ 62) : zr3 (.ref a) (.int i) H = some v := by
 have hlt := (zsl.mp hv).1
 show ((y4 H[a]? some).or none).bind _ = _; rw [h]; show (if 0 ≤ i ∧ i < 2 ^ 62 then l[i.toNat]? else none) = _; rw [if_pos ⟨h0, by lia⟩, hv]
theorem zpe {t : T} {H : St} (R : Rep t H) {l : Int} (hb : l.natAbs < t.as.length) (hs : t.as.length ≤ 1000) : wf [.ref t.r, .int l] H = some (.int (t.val l), H) := by
 refine y8 rfl (lo' := [some (.ref t.r), some (.int l)]) (wq (qc ?_))
 show zbt _ _ _ [some (.ref t.r), some (.int l)] H = _
 rw [zew (wi (x := .int l) (y := .int 0) (b := decide (0 < l)) rfl rfl rfl)]
 have hg : t.as[l.natAbs]? = some (t.as.getD l.natAbs 0) := by rw [zsz, zsv hb]; rfl
 have hm : (t.as.map MV.int).length < 2 ^ 62 := by rw [zsk]; lia
 unfold T.val
 by_cases hl : 0 < l
 ·rw [if_pos (decide_eq_true hl), if_pos hl]
  exact zbg (R.attr rfl rfl rfl) rfl (j1 (R.at' .as _ rfl) (zwb hl) (by rw [show l.toNat = l.natAbs by lia]; exact zhn hg) hm)
 ·rw [if_neg (by simpa using hl), if_neg hl]
  exact zma (zbg (R.attr rfl rfl rfl) (zma rfl) (j1 (R.at' .as _ rfl) (by lia) (by rw [show (-l).toNat = l.natAbs by lia]; exact zhn hg) hm))
theorem zdk {a : Int} (h1 : -1000000000 < a) (h2 : a < 1000000000) : zf6 a = true := by
 simp only [zf6, zxt, decide_eq_true_eq]
 constructor <;> lia
theorem zdy {f g : DE} {lo : Lo} {H H1 H2 : St} {x y : Int} (hf : f lo H = some (.int x, H1)) (hg : g lo H1 = some (.int y, H2)) (hs : zf6 x = true) : wo o.mul f g lo H = some (.int (x * y), H2) := by
 rw [zbh hf hg]; show (if zf6 x then some (MV.int (x * y), H2) else none).or none = _; rw [if_pos hs]; rfl
theorem jt {f g : DE} {lo : Lo} {H H1 H2 : St} {x y : Int} (hf : f lo H = some (.int x, H1)) (hg : g lo H1 = some (.int y, H2)) : wo o.add f g lo H = some (.int (x + y), H2) := by
 rw [zbh hf hg]; rfl
theorem vy {f g : DE} {lo : Lo} {H H1 H2 : St} {x y : Int} (hf : f lo H = some (.int x, H1)) (hg : g lo H1 = some (.int y, H2)) : wo o.sub f g lo H = some (.int (x - y), H2) := by
 rw [zbh hf hg]; rfl
noncomputable def plc (l : Int) : Int := if l > 0 then 2 * l else 1 - 2 * l
theorem zkm {H : St} {l : Int} (hb : l.natAbs < 1000) : ku [.int l] H = some (.int (plc l), H) := by
 refine y8 rfl (lo' := [some (.int l)]) (wq (qc ?_))
 show zbt _ _ _ [some (.int l)] H = _
 rw [zew (wi (x := .int l) (y := .int 0) (b := decide (0 < l)) rfl rfl rfl)]
 have e := zdy (f := zh (.int 2)) (g := zd 0) (lo := [some (.int l)]) (H := H) (x := 2) (y := l) rfl rfl (zdk (by decide) (by decide))
 unfold plc
 by_cases hl : 0 < l
 ·rw [if_pos (decide_eq_true hl), if_pos hl]; exact e
 ·rw [if_neg (by simpa using hl), if_neg hl]; exact vy (x := 1) rfl e
theorem vc {t : T} {H : St} (R : Rep t H) (hs : t.st.length ≤ 1000) : wg [.ref t.r] H = some (.int t.st.length, H) := by
 refine y8 rfl (lo' := [some (.ref t.r)]) ?_
 have e := jh (f := zp 1 9 (zd 0)) (lo := [some (.ref t.r)]) (H := H) (R.attr rfl (jc rfl) rfl) (R.at' .st _ rfl) (by rw [zsk]; lia)
 rw [zsk] at e
 exact wq (qc e)
theorem zmi {t : T} {H : St} (R : Rep t H) (hs : t.as.length ≤ 1000) : yq [.ref t.r] H = some (.int (t.as.length - 1), H) := by
 refine y8 rfl (lo' := [some (.ref t.r)]) ?_
 have e := jh (f := zp 1 1 (zd 0)) (lo := [some (.ref t.r)]) (H := H) (R.attr rfl (jc rfl) rfl) (R.at' .as _ rfl) (by rw [zsk]; lia)
 rw [zsk] at e
 exact wq (qc ((zbh e rfl).trans rfl))
theorem Rep.set_as {t : T} {H : St} (R : Rep t H) (l : List Int) : Rep { t with as := l } (H.set (t.r + 1) (il l)) := R.upd { t with as := l } (k := .as) rfl (fun k => by cases k <;> rfl) (fun k h => by cases k <;> first | rfl | exact absurd rfl h) rfl
theorem Rep.set_lv {t : T} {H : St} (R : Rep t H) (l : List Int) : Rep { t with lv := l } (H.set (t.r + 2) (il l)) := R.upd { t with lv := l } (k := .lv) rfl (fun k => by cases k <;> rfl) (fun k h => by cases k <;> first | rfl | exact absurd rfl h) rfl
theorem Rep.set_rs {t : T} {H : St} (R : Rep t H) (l : List Int) : Rep { t with rs := l } (H.set (t.r + 3) (il l)) := R.upd { t with rs := l } (k := .rs) rfl (fun k => by cases k <;> rfl) (fun k h => by cases k <;> first | rfl | exact absurd rfl h) rfl
theorem Rep.set_sp {t : T} {H : St} (R : Rep t H) (l : List Int) : Rep { t with sp := l } (H.set (t.r + 4) (il l)) := R.upd { t with sp := l } (k := .sp) rfl (fun k => by cases k <;> rfl) (fun k h => by cases k <;> first | rfl | exact absurd rfl h) rfl
theorem Rep.set_tr {t : T} {H : St} (R : Rep t H) (l : List Int) : Rep { t with tr := l } (H.set (t.ta) (il l)) := R.upd { t with tr := l } (k := .tr) rfl (fun k => by cases k <;> rfl) (fun k h => by cases k <;> first | rfl | exact absurd rfl h) rfl
theorem Rep.set_x1 {t : T} {H : St} (R : Rep t H) (l : List MV) : Rep { t with x1 := l } (H.set (t.r + 16) (.list l)) := R.upd { t with x1 := l } (k := .x1) rfl (fun k => by cases k <;> rfl) (fun k h => by cases k <;> first | rfl | exact absurd rfl h) rfl
theorem Rep.set_x2 {t : T} {H : St} (R : Rep t H) (l : List MV) : Rep { t with x2 := l } (H.set (t.r + 17) (.list l)) := R.upd { t with x2 := l } (k := .x2) rfl (fun k => by cases k <;> rfl) (fun k h => by cases k <;> first | rfl | exact absurd rfl h) rfl
theorem Rep.set_x3 {t : T} {H : St} (R : Rep t H) (l : List MV) : Rep { t with x3 := l } (H.set (t.r + 18) (.list l)) := R.upd { t with x3 := l } (k := .x3) rfl (fun k => by cases k <;> rfl) (fun k h => by cases k <;> first | rfl | exact absurd rfl h) rfl
noncomputable def T.enq (t : T) (l num : Int) : T :=
 { t with as := t.as.set l.natAbs (if l > 0 then 1 else -1), lv := t.lv.set l.natAbs t.st.length, rs := t.rs.set l.natAbs num, sp := t.sp.set l.natAbs t.tr.length, tr := t.tr ++ [l] }
structure Len (t : T) : Prop where
 lv : t.lv.length = t.as.length
 rs : t.rs.length = t.as.length
 sp : t.sp.length = t.as.length
 as : t.as.length ≤ 100
 tr : t.tr.length ≤ 100
 st : t.st.length ≤ 100
theorem map_set {l : List Int} {i : Nat} {x : Int} : (l.map MV.int).set i (.int x) = (l.set i x).map .int := by rw [zt7]
theorem zql {t : T} {H : St} (R : Rep t H) (Ln : Len t) {l num : Int} (hb : l.natAbs < t.as.length) :
  ∃ H', qe [.ref t.r, .int l, .int num] H = some (.none, H') ∧ Rep (t.enq l num) H' ∧ Out t H H' ∧ H'.length = H.length := by
 have hs : ∀ {l : List Int}, l.length ≤ 100 → (l.map MV.int).length < 2 ^ 62 := fun h => by rw [zsk]; lia
 have e0 : z4 b.abs [zd 1] [some (.ref t.r), some (.int l), some (.int num), none] H = some (.int l.natAbs, H) := xk rfl
 generalize hlo : ([some (.ref t.r), some (.int l), some (.int num), some (.int l.natAbs)] : Lo) = lo
 have l0 : ∀ H, zd 0 lo H = some (.ref t.r, H) := fun H => jc (by rw [← hlo]; rfl)
 have l1 : ∀ H, zd 1 lo H = some (.int l, H) := fun H => jc (by rw [← hlo]; rfl)
 have l2 : ∀ H, zd 2 lo H = some (.int num, H) := fun H => jc (by rw [← hlo]; rfl)
 have l3 : ∀ H, zd 3 lo H = some (.int l.natAbs, H) := fun H => jc (by rw [← hlo]; rfl)
 have n3 : ((l.natAbs : Int)).toNat = l.natAbs := rfl
 have e1 : zbt (z9 .Gt (zd 1) (zh (.int 0))) (zh (.int 1)) (zh (.int (-1))) lo H = some (.int (if l > 0 then 1 else -1), H) := by
  rw [zew (wi (l1 H) rfl rfl)]
  by_cases h : l > 0 <;> simp [h, zh]
 -- assigns
 let t1 : T := { t with as := t.as.set l.natAbs (if l > 0 then 1 else -1) }
 have R1 : Rep t1 (H.set (t.r + 1) (il t1.as)) := R.set_as _
 have s1 := ki (lo := lo) e1 (fa := zp 1 1 (zd 0)) (R.attr rfl (l0 H) rfl) (l3 H) (R.at' .as _ rfl) (by lia) (by rw [n3, zsk]; exact hb) (hs Ln.as)
 rw [n3, map_set] at s1
 -- levels
 generalize hH1 : H.set (t.r + 1) (il t1.as) = H1 at R1
 let t2 : T := { t1 with lv := t.lv.set l.natAbs t.st.length }
 have R2 : Rep t2 (H1.set (t.r + 2) (il t2.lv)) := R1.set_lv _
 have dp : wg [.ref t.r] H1 = some (.int t.st.length, H1) := vc (t := t1) R1 (by have := Ln.st; show t.st.length ≤ 1000; lia)
 have s2 := ki (lo := lo) ((qf (F := wg) (l0 H1) (R1.at' .obj _ rfl)).trans dp) (fa := zp 1 2 (zd 0)) (R1.attr rfl (l0 H1) rfl) (l3 H1) (R1.at' .lv _ rfl) (by lia) (by rw [n3, zsk]; show _ < t.lv.length; rw [Ln.lv]; exact hb) (hs (by show t.lv.length ≤ 100; rw [Ln.lv]; exact Ln.as))
 rw [n3, map_set] at s2
 generalize hH2 : H1.set (t.r + 2) (il t2.lv) = H2 at R2
 let t3 : T := { t2 with rs := t.rs.set l.natAbs num }
 have R3 : Rep t3 (H2.set (t.r + 3) (il t3.rs)) := R2.set_rs _
 have s3 := ki (lo := lo) (l2 H2) (fa := zp 1 3 (zd 0)) (R2.attr rfl (l0 H2) rfl) (l3 H2) (R2.at' .rs _ rfl) (by lia) (by rw [n3, zsk]; show _ < t.rs.length; rw [Ln.rs]; exact hb) (hs (by show t.rs.length ≤ 100; rw [Ln.rs]; exact Ln.as))
 rw [n3, map_set] at s3
 generalize hH3 : H2.set (t.r + 3) (il t3.rs) = H3 at R3
 let t4 : T := { t3 with sp := t.sp.set l.natAbs t.tr.length }
 have R4 : Rep t4 (H3.set (t.r + 4) (il t4.sp)) := R3.set_sp _
 have e4 := jh (f := zp 1 8 (zd 0)) (lo := lo) (R3.attr rfl (l0 H3) rfl) (R3.at' .tr _ rfl) (by have := Ln.tr; rw [zsk]; show t.tr.length ≤ _; lia)
 rw [zsk] at e4
 have s4 := ki (lo := lo) e4 (fa := zp 1 4 (zd 0)) (R3.attr rfl (l0 H3) rfl) (l3 H3) (R3.at' .sp _ rfl) (by lia) (by rw [n3, zsk]; show _ < t.sp.length; rw [Ln.sp]; exact hb) (hs (by show t.sp.length ≤ 100; rw [Ln.sp]; exact Ln.as))
 rw [n3, map_set] at s4
 generalize hH4 : H3.set (t.r + 4) (il t4.sp) = H4 at R4
 have R5 : Rep (t.enq l num) (H4.set t.ta (il (t.enq l num).tr)) := R4.set_tr _
 have s5 := qu (lo := lo) (f := zp 1 8 (zd 0)) (g := zd 1) (R4.attr rfl (l0 H4) rfl) (l1 H4) ⟨_, R4.at' .tr _ rfl⟩ (R4.at' .tr _ rfl) (by have := Ln.tr; rw [zsk]; show t.tr.length ≤ _; lia)
 refine ⟨_, ?_, R5, ?_, ?_⟩
 ·refine us (lo' := lo) rfl ?_
  unfold xr
  show zw _ _ [some (.ref t.r), some (.int l), some (.int num), none] H = _
  rw [zj (wc e0 (by simp))]
  show zw _ _ [some (.ref t.r), some (.int l), some (.int num), some (.int l.natAbs)] H = _
  rw [hlo, zj s1]
  have q1 : H.set (t.r + 1) (il (t.as.set l.natAbs (if l > 0 then 1 else -1))) = H1 := hH1
  rw [q1, zj s2]
  have q2 : H1.set (t.r + 2) (il (t.lv.set l.natAbs t.st.length)) = H2 := hH2
  rw [q2, zj s3]
  have q3 : H2.set (t.r + 3) (il (t.rs.set l.natAbs num)) = H3 := hH3
  rw [q3, zj s4]
  have q4 : H3.set (t.r + 4) (il (t.sp.set l.natAbs t.tr.length)) = H4 := hH4
  rw [q4, zj s5]
  show some _ = some _
  congr 3
  show H4.set t.ta (.list (t.tr.map .int ++ [.int l])) = H4.set t.ta (il (t.tr ++ [l]))
  rw [il, zs3]; rfl
 ·rw [← hH4, ← hH3, ← hH2, ← hH1]
  exact ((((Out.refl t H).set (k := .as) rfl _).set (k := .lv) rfl _).set (k := .rs) rfl _ |>.set (k := .sp) rfl _).set (k := .tr) rfl _
 ·rw [← hH4, ← hH3, ← hH2, ← hH1]; simp
end Mine
namespace Mine
theorem zcz (a b : Int) : j9 a b 1 = (zsr (b - a).toNat).map fun i : Nat => .int (a + i) := by
 unfold j9 zxq
 simp only [zwf]
 congr 2
 by_cases h : a < b
 ·simp [h]
 ·simp [h]; lia
theorem zcy {a b : Int} (ha : -1000 ≤ a) (ha' : a ≤ 1000) (hb : -1000 ≤ b) (hb' : b ≤ 1000000) : zxr a b 1 = true := by
 have h : zxq a b 1 = if a < b then b - a else 0 := by
  unfold zxq
  by_cases h : a < b
  ·simp [h]
  ·simp [h]
 unfold zxr zxs
 rw [h]
 by_cases h : a < b
 ·simp [h]; lia
 ·simp [h]; lia
theorem j2 {f : DE} {lo : Lo} {H H1 : St} {y : Int} (hf : f lo H = some (.int y, H1)) : z4 b.range [f] lo H = some (.rng 0 y 1, H1) := by
 unfold z4 jw; rw [hf]; rfl
theorem zin {f g : DE} {lo : Lo} {H H1 H2 : St} {x y : Int} (hf : f lo H = some (.int x, H1)) (hg : g lo H1 = some (.int y, H2)) : z4 b.range [f, g] lo H = some (.rng x y 1, H2) := by
 unfold z4; simp only [jw, hf, hg, bnd_some]; rfl
theorem xa {f : DE} {g : DT} {b : DS} {lo : Lo} {H H1 : St} {x y : Int} (hf : f lo H = some (.rng x y 1, H1)) (h1 : -1000 ≤ x) (h2 : x ≤ 1000) (h3 : -1000 ≤ y) (h4 : y ≤ 1000000) :
  u9 f g b lo H = zmf g b ((zsr (y - x).toNat).map fun i : Nat => .int (x + i)) lo H1 := by
 unfold u9; rw [hf]; simp only [bnd_some, zdj]; rw [if_pos (zcy h1 h2 h3 h4), zcz]; rfl
theorem zee {f : DE} {g : DT} {b : DS} {lo : Lo} {H H1 : St} {r : Nat} {l : List MV} (hf : f lo H = some (.ref r, H1)) (hr : H1[r]? = some (.list l)) : u9 f g b lo H = zqu g b r (l.length + 1) 0 lo H1 := by
 unfold u9; rw [hf]; simp only [bnd_some, zdj, hr]; rfl
theorem jk {n i : Nat} {x : Int} {v : MV} (h : ((zsr n).map fun i : Nat => MV.int (x + i))[i]? = some v) : i < n ∧ v = .int (x + i) := by
 rw [zsu] at h
 refine zvt fun hq0 => ?_
 obtain ⟨j, hj, e⟩ := zvv.mp h
 obtain ⟨h1, h2⟩ := zsl.mp hj
 simp at h1 h2
 subst h2
 refine hq0 ?_
 exact ⟨h1, e.symm⟩
noncomputable def q0 (p : Int → Bool) (g : Int) : List Int → Option (Int × List Int)
 | [] => none
 | l :: r => if p l then some (l, g :: r) else (q0 p g r).map fun x => (x.1, l :: x.2)
theorem zgu {p : Int → Bool} {g : Int} : ∀ {l : List Int} {k : Nat} {x : Int}, l[k]? = some x → p x = true → (∀ j y, j < k → l[j]? = some y → p y = false) → q0 p g l = some (x, l.set k g)
 | a :: r, 0, x, h, hp, _ => by
  simp at h; subst h
  simp [q0, hp]
 | a :: r, k + 1, x, h, hp, hb => by
  have ha : p a = false := hb 0 a (Nat.succ_pos _) rfl
  simp only [q0, ha, zxu, if_false, zu1]
  rw [zgu (l := r) (k := k) (by simpa using h) hp fun j y hj hy => hb (j + 1) y (by lia) (by simpa using hy)]
  rfl
theorem zel {p : Int → Bool} {g : Int} : ∀ {l : List Int}, (∀ y ∈ l, p y = false) → q0 p g l = none
 | [], _ => rfl
 | a :: r, h => by
  simp only [q0, h a (.head _), zxu, if_false]
  rw [zel fun y hy => h y (.tail _ hy)]; rfl
noncomputable def T.setC (t : T) (j : Nat) (c : List Int) : T := { t with C := t.C.modify j fun o => o.map fun p => (p.1, c) }
noncomputable def T.addW (t : T) (i : Nat) (x : Int) : T := { t with W := t.W.modify i fun p => (p.1, p.2 ++ [x]) }
theorem zmr {t : T} {j : Nat} {c : List Int} : ∀ k, (t.setC j c).at k = t.at k := by
 intro k
 cases k <;> try rfl
 rename_i i
 show zvw (·.1) ((T.setC t j c).C[i]?).join = zvw (·.1) (t.C[i]?).join
 simp only [T.setC, ztg]
 by_cases h : j = i
 ·subst h
  cases t.C[j]? with
  | none => simp
  | some o => cases o <;> simp
 ·cases t.C[i]? <;> simp [h]
theorem zmq {t : T} {j : Nat} {c : List Int} : ∀ k, k ≠ .c j → (t.setC j c).is k = t.is k := by
 intro k hk
 cases k <;> try rfl
 ·show MO.list _ = MO.list _
  congr 1
  refine ztl fun i => ?_
  simp only [T.setC, zsu, ztg]
  by_cases h : j = i
  ·subst h
   cases t.C[j]? with
   | none => simp
   | some o => cases o <;> simp [zaw]
  ·cases t.C[i]? <;> simp [h]
 ·rename_i i
  have h : j ≠ i := fun e => hk (by rw [e])
  simp only [T.is, T.setC, ztg]
  cases t.C[i]? <;> simp [h]
theorem zkj {t : T} {j : Nat} {c c0 : List Int} {a : Nat} (h : t.C[j]? = some (some (a, c0))) : (t.setC j c).is (.c j) = il c := by
 simp [T.is, T.setC, ztg, h]
theorem zji {t : T} {i : Nat} {x : Int} : ∀ k, (t.addW i x).at k = t.at k := by
 intro k
 cases k <;> try rfl
 rename_i j
 show zvw (·.1) ((T.addW t i x).W[j]?) = zvw (·.1) (t.W[j]?)
 simp only [T.addW, ztg]
 by_cases h : i = j
 ·subst h
  cases t.W[i]? <;> simp
 ·cases t.W[j]? <;> simp [h]
theorem znk {t : T} {i : Nat} {x : Int} : ∀ k, k ≠ .w i → (t.addW i x).is k = t.is k := by
 intro k hk
 cases k <;> try rfl
 ·show MO.list _ = MO.list _
  congr 1
  refine ztl fun j => ?_
  simp only [T.addW, zsu, ztg]
  by_cases h : i = j
  ·subst h
   cases t.W[i]? <;> simp
  ·cases t.W[j]? <;> simp [h]
 ·rename_i j
  have h : i ≠ j := fun e => hk (by rw [e])
  simp only [T.is, T.addW, ztg]
  cases t.W[j]? <;> simp [h]
theorem zk4 {t : T} {i : Nat} {x : Int} {a : Nat} {l : List Int} (h : t.W[i]? = some (a, l)) : (t.addW i x).is (.w i) = il (l ++ [x]) := by
 simp [T.is, T.addW, ztg, h]
theorem T.at_c {t : T} {j a : Nat} {c : List Int} (h : t.C[j]? = some (some (a, c))) : t.at (.c j) = some a := congrArg (fun o : Option (Option (Nat × List Int)) => o.join.map zxy) h
theorem T.is_c {t : T} {j a : Nat} {c : List Int} (h : t.C[j]? = some (some (a, c))) : t.is (.c j) = il c := congrArg (fun o : Option (Option (Nat × List Int)) => il ((o.join.map Prod.snd).getD [])) h
theorem T.at_w {t : T} {i a : Nat} {l : List Int} (h : t.W[i]? = some (a, l)) : t.at (.w i) = some a := congrArg (zvw zxy) h
theorem T.is_w {t : T} {i a : Nat} {l : List Int} (h : t.W[i]? = some (a, l)) : t.is (.w i) = il l := congrArg (fun o : Option (Nat × List Int) => il ((o.map Prod.snd).getD [])) h
theorem zdh {t : T} {H : St} (R : Rep t H) {f g : DE} {lo : Lo} {l : Int} (hf : f lo H = some (.ref t.r, H)) (hg : g lo H = some (.int l, H)) (hl : l.natAbs < 1000) {a : Nat} {ns : List Int} (hw : t.W[(plc l).toNat]? = some (a, ns)) (hW : t.W.length ≤ 1000) :
  wd (zp 1 6 f) (we ku [g]) lo H = some (.ref a, H) := by
 have hp : 0 ≤ plc l := by unfold plc; split <;> lia
 refine zbg (R.attr rfl hf rfl) ((j3 hg).trans (zkm hl)) (j1 (R.at' .ws _ rfl) hp ?_ (by rw [zsk]; lia))
 rw [zsu, hw]; rfl
theorem zh2 {fa fb ga gb gi gj : DE} {lo : Lo} {H : St} {a : Nat} {l : List MV} {x y : MV} {i j : Int} (h1 : fa lo H = some (x, H)) (h2 : fb lo H = some (y, H)) (hga : ∀ H, ga lo H = some (.ref a, H)) (hgb : ∀ H, gb lo H = some (.ref a, H)) (hgi : ∀ H, gi lo H = some (.int i, H)) (hgj : ∀ H, gj lo H = some (.int j, H))
  (ha : H[a]? = some (.list l)) (hi0 : 0 ≤ i) (hi : i.toNat < l.length) (hj0 : 0 ≤ j) (hj : j.toNat < l.length) (hs : l.length < 1000) :
  zq (j0 [fa, fb]) (zd8 [y9 ga gi, y9 gb gj]) lo H = some (.next, lo, H.set a (.list ((l.set i.toNat x).set j.toNat y))) := by
 have hlt : a < H.length := (zsl.mp ha).1
 have := zla h1 h2 hga hgb hgi hgj ha (zsy hlt) hi0 hi hj0 (by rw [zsx]; exact hj) (zw3 hs) (by rw [zsx]; exact zw3 hs)
 rw [zuc] at this
 exact this
end Mine
namespace Mine
theorem ky {l : List Int} {x : Int} : l.map MV.int ++ [.int x] = (l ++ [x]).map .int := by rw [zs3]; rfl
theorem yo {f g : DE} {lo : Lo} {H : St} {a : Nat} {l : List Int} {i : Int} {x : Int} (hf : f lo H = some (.ref a, H)) (hg : g lo H = some (.int i, H)) (ha : H[a]? = some (il l)) (h0 : 0 ≤ i) (hx : l[i.toNat]? = some x) (hs : l.length < 1000) :
  wd f g lo H = some (.int x, H) := zbg hf hg (j1 ha h0 (zhn hx) (by rw [zsk]; lia))
theorem vt {t : T} {H : St} (R : Rep t H) {f g : DE} {lo : Lo} {l : Int} (hf : f lo H = some (.ref t.r, H)) (hg : g lo H = some (.int l, H)) (hb : l.natAbs < t.as.length) (hs : t.as.length ≤ 1000) :
  z5 1 wf f [g] lo H = some (.int (t.val l), H) := (yu hf (R.at' .obj _ rfl) hg).trans (zpe R hb hs)
theorem zpt {t : T} {H : St} (R : Rep t H) (hs : t.as.length ≤ 100) (hW : t.W.length ≤ 1000) {j a : Nat} {o g num : Int} {rest : List Int} (hC : t.C[j]? = some (some (a, o :: g :: rest))) (hr : ∀ l ∈ rest, l.natAbs < t.as.length) (hl : rest.length ≤ 100)
  (hw : ∀ l ∈ rest, ∃ b ns, t.W[(plc l).toNat]? = some (b, ns) ∧ ns.length ≤ 1000) :
  match q0 (fun l => decide (t.val l ≠ -1)) g rest with
  | none => jv [.ref t.r, .int num, .ref a] H = some (.bool false, H)
  | some (x, rest') => ∃ H', jv [.ref t.r, .int num, .ref a] H = some (.bool true, H') ∧ Rep ((t.setC j (o :: x :: rest')).addW (plc x).toNat num) H' ∧ Out t H H' ∧ H'.length = H.length := by
 have hac := T.at_c hC
 have hc : H[a]? = some (il (o :: g :: rest)) := (R.at' _ _ hac).trans (congrArg some (T.is_c hC))
 have hlen : z4 b.len [zd 2] [some (.ref t.r), some (.int num), some (.ref a), none] H = some (.int ((rest.length + 2 : Nat) : Int), H) := by
  have := jh (f := zd 2) (lo := [some (.ref t.r), some (.int num), some (.ref a), none]) (jc rfl) hc (by simp; lia)
  rw [zsk] at this
  exact this
 have hn : (((rest.length + 2 : Nat) : Int) - 2).toNat = rest.length := by lia
 have hfor := xa (g := zy 3) (b := j8) (zin (f := zh (.int 2)) (lo := [some (.ref t.r), some (.int num), some (.ref a), none]) (H := H) rfl hlen) (by decide) (by decide) (by lia) (by lia)
 rw [hn] at hfor
 have rule := jb (g := zy 3) (b := j8) (l := (zsr rest.length).map fun i : Nat => MV.int (2 + i))
  (fun i lo H' => H' = H ∧ (∃ u, lo = [some (.ref t.r), some (.int num), some (.ref a), u]) ∧ ∀ (k : Nat) y, k < i → rest[k]? = some y → t.val y = -1)
  (Q := fun lo H' => H' = H ∧ (∃ u, lo = [some (.ref t.r), some (.int num), some (.ref a), u]) ∧ ∀ y ∈ rest, t.val y = -1)
  (R := fun v lo H' => v = .bool true ∧ ∃ (k : Nat) (x : Int), rest[k]? = some x ∧ t.val x ≠ -1 ∧ (∀ (k' : Nat) y, k' < k → rest[k']? = some y → t.val y = -1) ∧ Rep ((t.setC j (o :: x :: rest.set k g)).addW (plc x).toNat num) H' ∧ Out t H H' ∧ H'.length = H.length)
  (fun i v lo H' hv hI => by
   obtain ⟨hH, ⟨u, hlo⟩, hb⟩ := hI
   subst hH; subst hlo
   obtain ⟨hi, rfl⟩ := jk hv
   refine ⟨[some (.ref t.r), some (.int num), some (.ref a), some (.int (2 + i))], H', rfl, ?_⟩
   obtain ⟨y, hy⟩ : ∃ y, rest[i]? = some y := ⟨_, zsv hi⟩
   have hmem := zsm hy
   have l0 : ∀ H, zd 0 [some (.ref t.r), some (.int num), some (.ref a), some (.int (2 + i))] H = some (.ref t.r, H) := fun H => rfl
   have l1 : ∀ H, zd 1 [some (.ref t.r), some (.int num), some (.ref a), some (.int (2 + i))] H = some (.int num, H) := fun H => rfl
   have l2 : ∀ H, zd 2 [some (.ref t.r), some (.int num), some (.ref a), some (.int (2 + i))] H = some (.ref a, H) := fun H => rfl
   have l3 : ∀ H, zd 3 [some (.ref t.r), some (.int num), some (.ref a), some (.int (2 + i))] H = some (.int (2 + i), H) := fun H => rfl
   generalize hL : ([some (.ref t.r), some (.int num), some (.ref a), some (.int (2 + i))] : Lo) = L at l0 l1 l2 l3 ⊢
   have i2 : ((2 : Int) + (i : Int)).toNat = i + 2 := by omega
   have e1 : wd (zd 2) (zd 3) L H' = some (.int y, H') := yo (l2 H') (l3 H') hc (by lia) (by rw [i2]; exact hy) (by simp; lia)
   have e2 : wd (zd 2) (zh (.int 1)) L H' = some (.int g, H') := yo (l2 H') rfl hc (by decide) rfl (by simp; lia)
   have ev := vt R (l0 H') e1 (hr y hmem) (by lia)
   by_cases hval : t.val y = -1
   ·have hcmp : z9 .NotEq (z5 1 wf (zd 0) [wd (zd 2) (zd 3)]) (zh (.int (-1))) L H' = some (false, H') := wi ev rfl (by show some (_ != (-1 : Int)) = _; simp [hval])
    rw [j8, zj ((yw hcmp).trans rfl)]
    refine ⟨rfl, ⟨_, hL.symm⟩, fun k z hk hz => ?_⟩
    by_cases hki : k = i
    ·subst hki; rw [hy] at hz; cases hz; exact hval
    ·exact hb k z (by lia) hz
   ·have hcmp : z9 .NotEq (z5 1 wf (zd 0) [wd (zd 2) (zd 3)]) (zh (.int (-1))) L H' = some (true, H') := wi ev rfl (by show some (_ != (-1 : Int)) = _; simp [hval])
    have s1 := zh2 (ga := zd 2) (gb := zd 2) (gi := zh (.int 1)) (gj := zd 3) e1 e2 l2 l2 (fun _ => rfl) l3 hc (by decide) (by simp) (by lia) (by rw [i2]; simp; assumption) (by simp; lia)
    rw [i2] at s1
    have hset : (((o :: g :: rest).map MV.int).set (zwg 1) (.int y)).set (i + 2) (.int g) = (o :: y :: rest.set i g).map .int := by simp [zt7]
    rw [hset] at s1
    have R1 : Rep (t.setC j (o :: y :: rest.set i g)) (H'.set a (il (o :: y :: rest.set i g))) := R.upd _ hac (fun k => zmr k) (fun k hk => zmq k hk) (zkj hC)
    generalize hH1 : H'.set a (il (o :: y :: rest.set i g)) = H1 at R1
    have s1' : zq (j0 [(wd (zd 2) (zd 3)), (wd (zd 2) (zh (.int 1)))]) (zd8 [(y9 (zd 2) (zh (.int 1))), (y9 (zd 2) (zd 3))]) L H' = some (.next, L, H1) := by rw [← hH1]; exact s1
    have hc1 : H1[a]? = some (il (o :: y :: rest.set i g)) := by rw [← hH1]; exact zsy (R.lt hac)
    have e3 : wd (zd 2) (zh (.int 1)) L H1 = some (.int y, H1) := yo (l2 H1) rfl hc1 (by decide) rfl (by simp; lia)
    obtain ⟨b, ns, hwb, hns⟩ := hw y hmem
    have hy100 : y.natAbs < 1000 := by have := hr y hmem; lia
    have e4 := zdh (t := t.setC j (o :: y :: rest.set i g)) R1 (l0 H1) e3 hy100 hwb hW
    have haw := T.at_w (t := t.setC j (o :: y :: rest.set i g)) hwb
    have hb1 : H1[b]? = some (il ns) := (R1.at' _ _ haw).trans (congrArg some (T.is_w (t := t.setC j (o :: y :: rest.set i g)) hwb))
    have s2 := qu e4 (l1 H1) ⟨_, hb1⟩ hb1 (by rw [zsk]; lia)
    rw [ky] at s2
    have R2 : Rep ((t.setC j (o :: y :: rest.set i g)).addW (plc y).toNat num) (H1.set b (il (ns ++ [num]))) := R1.upd _ haw (fun k => zji k) (fun k hk => znk k hk) (zk4 (t := t.setC j (o :: y :: rest.set i g)) hwb)
    have hbody : yt (z9 .NotEq (z5 1 wf (zd 0) [(wd (zd 2) (zd 3))]) (zh (.int (-1)))) (zw (zq (j0 [(wd (zd 2) (zd 3)), (wd (zd 2) (zh (.int 1)))]) (zd8 [(y9 (zd 2) (zh (.int 1))), (y9 (zd 2) (zd 3))]))
     (zw (wh (yj m.append (wd (zp 1 6 (zd 0)) (we ku [(wd (zd 2) (zh (.int 1)))])) [(zd 1)]))
     (zw (qb (zh (.bool true))) z3))) z3 L H' = some (.ret (.bool true), L, H1.set b (il (ns ++ [num]))) := by
     rw [kr hcmp, zj s1', zj s2]; rfl
    rw [j8, wq hbody]
    refine ⟨rfl, i, y, hy, hval, hb, R2, ?_, ?_⟩
    ·rw [← hH1]
     exact ((Out.refl t H').set hac _).set (k := .w (plc y).toNat) (T.at_w hwb) _
    ·rw [← hH1]; simp)
  (fun lo H' hI => by obtain ⟨hH, hlo, hb⟩ := hI; exact ⟨hH, hlo, fun y hy => by
   obtain ⟨k, hk, e⟩ := zs6.mp hy
   exact hb k y (by simpa using hk) (by rw [zsv hk, e])⟩)
  (lo := [some (.ref t.r), some (.int num), some (.ref a), none]) (H := H) ⟨rfl, ⟨_, rfl⟩, fun k y hk => by lia⟩
 rw [← hfor] at rule
 rcases rule.both with ⟨lo, H', e, rfl, ⟨u, rfl⟩, hall⟩ | ⟨v, lo, H', e, rfl, k, x, hk, hx, hb, R2, O2, hl2⟩
 ·rw [zel fun y hy => by simp [hall y hy]]
  refine y8 rfl (lo' := [some (.ref t.r), some (.int num), some (.ref a), u]) ?_
  unfold xm
  show zw _ _ [some (.ref t.r), some (.int num), some (.ref a), none] _ = _
  rw [zj e]; rfl
 ·rw [zgu hk (by simpa using hx) fun j' y hj hy => by simp [hb j' y hj hy]]
  refine ⟨H', y8 rfl (lo' := lo) ?_, R2, O2, hl2⟩
  unfold xm
  show zw _ _ [some (.ref t.r), some (.int num), some (.ref a), none] _ = _
  rw [wq e]
end Mine
namespace Mine
set_option genInjectivity false in
structure LS where
 told : Int
 lists : List (Option (List Int))
 stays : List Int
 goes : List (Int × Int)
 forced : List (Int × Int)
 ones : List Int
noncomputable def g9 (gone : Int) (s : LS) (num : Int) : LS :=
 if s.told ≠ -1 then { s with stays := s.stays ++ [num] } else
 match s.lists[num.toNat]? with
 | some (some (a :: b :: rest)) =>
  let other := if b = gone then a else b
  match (if other ∈ s.ones then none else q0 (fun l => decide (-l ∉ s.ones)) gone rest) with
  | some (o, rest') => { s with goes := s.goes ++ [(o, num)], lists := s.lists.set num.toNat (some (other :: o :: rest')) }
  | none =>
   if -other ∈ s.ones then { s with lists := s.lists.set num.toNat (some (other :: gone :: rest)), stays := s.stays ++ [num], told := num }
   else if other ∈ s.ones then { s with lists := s.lists.set num.toNat (some (other :: gone :: rest)), stays := s.stays ++ [num] }
   else { s with lists := s.lists.set num.toNat (some (other :: gone :: rest)), stays := s.stays ++ [num], forced := s.forced ++ [(other, num)], ones := s.ones ++ [other] }
 | _ => s
theorem zgo {gone : Int} : ∀ {l : List Int} {s : LS}, s.told ≠ -1 → l.foldl (g9 gone) s = { s with stays := s.stays ++ l }
 | [], s, h => by simp
 | x :: l, s, h => by
  simp only [zt4]
  have e : g9 gone s x = { s with stays := s.stays ++ [x] } := by unfold g9; rw [if_pos h]
  rw [e, zgo (s := { s with stays := s.stays ++ [x] }) h]
  simp [zs7]
noncomputable def zcq (W : List (Nat × List Int)) (p : Int × Int) : List (Nat × List Int) := W.modify (plc p.1).toNat fun q => (q.1, q.2 ++ [p.2])
noncomputable def cOf (C : List (Option (Nat × List Int))) (ls : List (Option (List Int))) : List (Option (Nat × List Int)) := C.zipWith (fun o l => o.map fun p => (p.1, l.getD [])) ls
noncomputable def T.enqs (t : T) (fs : List (Int × Int)) : T := fs.foldl (fun t p => t.enq p.1 p.2) t
noncomputable def T.of (t : T) (s : LS) : T := { t.enqs s.forced with W := s.goes.foldl zcq t.W, C := cOf t.C s.lists }
theorem zoj {t : T} {fs : List (Int × Int)} {p : Int × Int} : t.enqs (fs ++ [p]) = (t.enqs fs).enq p.1 p.2 := by unfold T.enqs; rw [ztu]; rfl
theorem zr9 {C : List (Option (Nat × List Int))} {ls : List (Option (List Int))} {j : Nat} {c : List Int} (h : ls.length = C.length) : cOf C (ls.set j (some c)) = (cOf C ls).modify j fun o => o.map fun p => (p.1, c) := by
 refine ztl fun i => ?_
 simp only [cOf, ztx, ztg, zs8]
 by_cases hj : j = i
 ·subst hj
  by_cases hl : j < ls.length
  ·simp [hl]
   cases C[j]? with
   | none => simp
   | some o => cases o <;> simp
  ·have : C[j]? = none := ztf (by lia)
   simp [this, hl]
 ·simp [hj]
theorem zm3 {t : T} {s : LS} {j : Nat} {c : List Int} (h : s.lists.length = t.C.length) : (t.of s).setC j c = t.of { s with lists := s.lists.set j (some c) } := by
 unfold T.of T.setC
 simp only [zr9 h]
theorem zrr {t : T} {s : LS} {o num : Int} : (t.of s).addW (plc o).toNat num = t.of { s with goes := s.goes ++ [(o, num)] } := by
 unfold T.of T.addW
 simp only [ztu]
 rfl
theorem zqh {t : T} {s : LS} {o num : Int} {os : List Int} : (t.of s).enq o num = t.of { s with forced := s.forced ++ [(o, num)], ones := os } := by
 unfold T.of
 simp only [zoj]
 rfl
theorem of_C {t : T} {s : LS} {j : Nat} {c : List Int} (hl : s.lists.length = t.C.length) (h : s.lists[j]? = some (some c)) {a : Nat} {c0 : List Int} (hC : t.C[j]? = some (some (a, c0))) : (t.of s).C[j]? = some (some (a, c)) := by
 simp only [T.of, cOf, ztx, hC, h]; rfl
structure Fit (n : Nat) (gone : Int) (t : T) (s : LS) (todo : List Int) : Prop where
 len : s.lists.length = t.C.length
 same : ∀ j : Nat, (t.C[j]?.join = none ↔ s.lists[j]?.join = none)
 val : ∀ l : Int, 1 ≤ l.natAbs → l.natAbs ≤ n → (t.of s).val l = if l ∈ s.ones then 1 else if -l ∈ s.ones then -1 else 0
 one : ∀ l ∈ s.ones, 1 ≤ l.natAbs ∧ l.natAbs ≤ n
 ndo : (s.ones.map zv6).Nodup
 tr : (t.of s).tr = s.ones
 gon : -gone ∈ s.ones
 good : ∀ (j : Nat) c, s.lists[j]? = some (some c) → 2 ≤ c.length ∧ c.length ≤ 10 ∧ (c.map zv6).Nodup ∧ ∀ l ∈ c, 1 ≤ l.natAbs ∧ l.natAbs ≤ n
 wat : ∀ x ∈ todo, 0 ≤ x ∧ x.toNat < t.C.length ∧ ∀ a b rest, s.lists[x.toNat]? = some (some (a :: b :: rest)) → a = gone ∨ b = gone
 nd : todo.Nodup
theorem zbz : ∀ {n : Nat} {l : List Nat}, l.Nodup → (∀ x ∈ l, 1 ≤ x ∧ x ≤ n) → l.length ≤ n
 | 0, l, _, h => by
  cases l with
  | nil => simp
  | cons a r => have := h a (.head _); lia
 | n + 1, l, nd, h => by
  by_cases hm : n + 1 ∈ l
  ·have h1 := zbz (n := n) (l := l.erase (n + 1)) (nd.erase _) fun x hx => by
    have hx' := List.mem_of_mem_erase hx
    have hne : x ≠ n + 1 := fun e => by
     rw [ztq.mem_erase_iff nd] at hx
     exact hx.1 e
    have := h x hx'
    lia
   rw [zva hm] at h1
   lia
  ·have := zbz (n := n) (l := l) nd fun x hx => by
    have := h x hx
    have : x ≠ n + 1 := fun e => hm (e ▸ hx)
    lia
   lia
theorem zgl {l : List Int} (nd : (l.map zv6).Nodup) {x : Int} (h0 : x ≠ 0) (h1 : x ∈ l) (h2 : -x ∈ l) : False := by
 obtain ⟨i, hi, e1⟩ := zs6.mp h1
 obtain ⟨j, hj, e2⟩ := zs6.mp h2
 have a1 : (l.map zv6)[i]? = some x.natAbs := by rw [zsu, zsv hi, e1]; rfl
 have a2 : (l.map zv6)[j]? = some x.natAbs := by rw [zsu, zsv hj, e2]; simp
 have := qm nd a1 a2
 subst this
 rw [e1] at e2
 lia
section
variable {n : Nat} {gone : Int} {t : T} {s : LS} {todo : List Int}
theorem Fit.neg (F : Fit n gone t s todo) {l : Int} (h : l ∈ s.ones) : -l ∉ s.ones := fun h2 => by
 have := (F.one l h).1
 exact zgl F.ndo (by lia) h h2
theorem Fit.val1 (F : Fit n gone t s todo) {l : Int} (h1 : 1 ≤ l.natAbs) (h2 : l.natAbs ≤ n) : (t.of s).val l = 1 ↔ l ∈ s.ones := by
 rw [F.val l h1 h2]
 by_cases a : l ∈ s.ones
 ·simp [a]
 ·by_cases b : -l ∈ s.ones <;> simp [a, b]
theorem Fit.valm (F : Fit n gone t s todo) {l : Int} (h1 : 1 ≤ l.natAbs) (h2 : l.natAbs ≤ n) : (t.of s).val l = -1 ↔ -l ∈ s.ones := by
 rw [F.val l h1 h2]
 by_cases a : l ∈ s.ones
 ·simp [a, F.neg a]
 ·by_cases b : -l ∈ s.ones <;> simp [a, b]
theorem Fit.val0 (F : Fit n gone t s todo) {l : Int} (h1 : 1 ≤ l.natAbs) (h2 : l.natAbs ≤ n) : (t.of s).val l = 0 ↔ l ∉ s.ones ∧ -l ∉ s.ones := by
 rw [F.val l h1 h2]
 by_cases a : l ∈ s.ones
 ·simp [a]
 ·by_cases b : -l ∈ s.ones <;> simp [a, b]
theorem zdx {p q : Int → Bool} {g : Int} : ∀ {l : List Int}, (∀ x ∈ l, p x = q x) → q0 p g l = q0 q g l
 | [], _ => rfl
 | a :: r, h => by
  simp only [q0, h a (.head _)]
  rw [zdx fun x hx => h x (.tail _ hx)]
end
end Mine
namespace Mine
theorem zab {p : Int → Bool} {g o : Int} : ∀ {l l' : List Int}, q0 p g l = some (o, l') → ztm (o :: l') (g :: l)
 | [], _, h => by cases h
 | a :: r, l', h => by
  simp only [q0] at h
  split at h
  ·cases h; exact ztm.swap _ _ _
  ·obtain ⟨x, hx, e⟩ := zvv.mp h
   obtain ⟨o', r'⟩ := x
   cases e
   have ih := zab hx
   exact ((ztm.swap _ _ _).trans (ih.cons a)).trans (ztm.swap _ _ _)
theorem zc3 {p : Int → Bool} {g o : Int} : ∀ {l l' : List Int}, q0 p g l = some (o, l') → o ∈ l ∧ p o = true
 | [], _, h => by cases h
 | a :: r, l', h => by
  simp only [q0] at h
  split at h
  ·rename_i hp; cases h; exact ⟨.head _, hp⟩
  ·obtain ⟨x, hx, e⟩ := zvv.mp h
   obtain ⟨o', r'⟩ := x
   cases e
   obtain ⟨h1, h2⟩ := zc3 hx
   exact ⟨.tail _ h1, h2⟩
theorem zmj {t : T} {o num l : Int} (ho : 1 ≤ o.natAbs) (hb : o.natAbs < t.as.length) (hl : 1 ≤ l.natAbs) : (t.enq o num).val l = if l = o then 1 else if l = -o then -1 else t.val l := by
 have key : (t.as.set o.natAbs (if o > 0 then 1 else -1)).getD l.natAbs 0 = if l.natAbs = o.natAbs then (if o > 0 then 1 else -1) else t.as.getD l.natAbs 0 := by
  rw [zsz, zsz, zs8]
  by_cases h : o.natAbs = l.natAbs
  ·rw [if_pos h, if_pos (h ▸ hb), if_pos h.symm]; rfl
  ·rw [if_neg h, if_neg (Ne.symm h)]
 unfold T.val
 show (if l > 0 then (t.as.set o.natAbs (if o > 0 then 1 else -1)).getD l.natAbs 0 else -((t.as.set o.natAbs (if o > 0 then 1 else -1)).getD l.natAbs 0)) = _
 rw [key]
 by_cases e1 : l = o
 ·subst e1
  by_cases hp : l > 0 <;> simp [hp]
 ·by_cases e2 : l = -o
  ·have ea : l.natAbs = o.natAbs := by lia
   rw [if_neg e1, if_pos e2, if_pos ea]
   by_cases hp : o > 0
   ·have : ¬ l > 0 := by lia
    simp [hp, this]
   ·have : l > 0 := by lia
    simp [hp, this]
  ·have ea : ¬ l.natAbs = o.natAbs := by lia
   rw [if_neg e1, if_neg e2, if_neg ea]
theorem zr7 {t : T} : ∀ {fs : List (Int × Int)}, (t.enqs fs).as.length = t.as.length := by
 intro fs
 induction fs generalizing t with
 | nil => rfl
 | cons p fs ih => exact (ih (t := t.enq p.1 p.2)).trans (by simp [T.enq])
theorem zhw {t : T} {s : LS} : (t.of s).as.length = t.as.length := zr7
section
variable {n : Nat} {gone : Int} {t : T} {s : LS} {todo : List Int} {x : Int}
theorem Fit.turn (F : Fit n gone t s (x :: todo)) {c c' : List Int} (hc : s.lists[x.toNat]? = some (some c)) (hp : ztm c' c) (s' : LS) (hl : s'.lists = s.lists.set x.toNat (some c')) (hf : s'.forced = s.forced) (ho : s'.ones = s.ones) : Fit n gone t s' todo := by
 have hlt : x.toNat < s.lists.length := (zsl.mp hc).1
 have e1 : (t.of s').as = (t.of s).as := by unfold T.of; rw [hf]
 have e2 : (t.of s').tr = (t.of s).tr := by unfold T.of; rw [hf]
 have get : ∀ j : Nat, s'.lists[j]? = if x.toNat = j then some (some c') else s.lists[j]? := fun j => by
  rw [hl, zs8]
  by_cases h : x.toNat = j
  ·rw [if_pos h, if_pos h, if_pos (h ▸ hlt)]
  ·rw [if_neg h, if_neg h]
 refine ⟨by rw [hl, zsx]; exact F.len, fun j => ?_, fun l h1 h2 => ?_, by rw [ho]; exact F.one, by rw [ho]; exact F.ndo, by rw [e2, ho]; exact F.tr, by rw [ho]; exact F.gon, fun j c1 h1 => ?_, fun y hy => ?_, (zs4.mp F.nd).2⟩
 ·rw [F.same j, get j]
  by_cases h : x.toNat = j
  ·subst h; rw [if_pos rfl, hc]; simp
  ·rw [if_neg h]
 ·have := F.val l h1 h2
  rw [ho]
  unfold T.val at this ⊢
  rw [e1]; exact this
 ·rw [get j] at h1
  split at h1
  ·cases h1
   obtain ⟨g1, g2, g3, g4⟩ := F.good _ _ hc
   exact ⟨by rw [hp.length_eq]; exact g1, by rw [hp.length_eq]; exact g2, (hp.map _).nodup_iff.mpr g3, fun l hl => g4 l (hp.mem_iff.mp hl)⟩
  ·exact F.good j c1 h1
 ·obtain ⟨w1, w2, w3⟩ := F.wat y (.tail _ hy)
  have hxy : x ≠ y := fun e => (zs4.mp F.nd).1 (e ▸ hy)
  have hx0 := (F.wat x (.head _)).1
  refine ⟨w1, w2, fun a b rest h => w3 a b rest ?_⟩
  rw [get, if_neg (by lia)] at h
  exact h
theorem Fit.pass (F : Fit n gone t s (x :: todo)) : Fit n gone t s todo :=
 ⟨F.len, F.same, F.val, F.one, F.ndo, F.tr, F.gon, F.good, fun y hy => F.wat y (.tail _ hy), (zs4.mp F.nd).2⟩
theorem Fit.more (F : Fit n gone t s todo) (hn : t.as.length = n + 1) {o num : Int} (h1 : 1 ≤ o.natAbs) (h2 : o.natAbs ≤ n) (h3 : o ∉ s.ones) (h4 : -o ∉ s.ones) : Fit n gone t { s with forced := s.forced ++ [(o, num)], ones := s.ones ++ [o] } todo := by
 have e : t.of { s with forced := s.forced ++ [(o, num)], ones := s.ones ++ [o] } = (t.of s).enq o num := zqh.symm
 refine ⟨F.len, F.same, fun l a1 a2 => ?_, fun l hl => ?_, ?_, ?_, zta _ F.gon, F.good, F.wat, F.nd⟩
 ·rw [e, zmj h1 (by rw [zhw, hn]; lia) a1]
  show _ = if l ∈ s.ones ++ [o] then 1 else if -l ∈ s.ones ++ [o] then -1 else 0
  by_cases e1 : l = o
  ·rw [if_pos e1, if_pos (zth _ (by rw [e1]; exact .head _))]
  ·by_cases e2 : l = -o
   ·rw [if_neg e1, if_pos e2, if_neg (fun hm => ?_), if_pos (zth _ (by rw [e2, zwc]; exact .head _))]
    rcases zs0.mp hm with q | q
    ·exact h4 (e2 ▸ q)
    ·exact e1 (zsq.mp q)
   ·rw [if_neg e1, if_neg e2, F.val l a1 a2]
    have m1 : l ∈ s.ones ++ [o] ↔ l ∈ s.ones := ⟨fun hm => (zs0.mp hm).resolve_right fun q => e1 (zsq.mp q), zta _⟩
    have m2 : -l ∈ s.ones ++ [o] ↔ -l ∈ s.ones := ⟨fun hm => (zs0.mp hm).resolve_right fun q => e2 (by have := zsq.mp q; lia), zta _⟩
    simp only [m1, m2]
 ·rcases zs0.mp hl with q | q
  ·exact F.one l q
  ·rw [zsq.mp q]; exact ⟨h1, h2⟩
 ·show ((s.ones ++ [o]).map zv6).Nodup
  rw [zs3, zte]
  refine ⟨F.ndo, by simp, fun a ha b hb e => ?_⟩
  simp at hb
  subst hb
  subst e
  obtain ⟨l, hl, el⟩ := zso.mp ha
  have : l = o ∨ l = -o := by lia
  rcases this with rfl | rfl
  ·exact h3 hl
  ·exact h4 hl
 ·rw [e]
  show (t.of s).tr ++ [o] = s.ones ++ [o]
  rw [F.tr]
end
end Mine
namespace Mine
theorem vp {t : T} : ∀ {fs : List (Int × Int)}, (t.enqs fs).lv.length = t.lv.length ∧ (t.enqs fs).rs.length = t.rs.length ∧ (t.enqs fs).sp.length = t.sp.length ∧ (t.enqs fs).st = t.st ∧ (t.enqs fs).r = t.r ∧ (t.enqs fs).ta = t.ta ∧ (t.enqs fs).sa = t.sa ∧ (t.enqs fs).he = t.he ∧ (t.enqs fs).to = t.to ∧
  (t.enqs fs).ph = t.ph ∧ (t.enqs fs).x1 = t.x1 ∧ (t.enqs fs).x2 = t.x2 ∧ (t.enqs fs).x3 = t.x3 := by
 intro fs
 induction fs generalizing t with
 | nil => exact ⟨rfl, rfl, rfl, rfl, rfl, rfl, rfl, rfl, rfl, rfl, rfl, rfl, rfl⟩
 | cons p fs ih =>
  obtain ⟨h1, h2, h3, h4, h5⟩ := ih (t := t.enq p.1 p.2)
  exact ⟨h1.trans (by simp [T.enq]), h2.trans (by simp [T.enq]), h3.trans (by simp [T.enq]), h4, h5⟩
theorem ziv : ∀ {gs : List (Int × Int)} {W : List (Nat × List Int)} {i : Nat}, ((gs.foldl zcq W)[i]?).map (·.1) = (W[i]?).map (·.1)
 | [], _, _ => rfl
 | p :: gs, W, i => by
  rw [zt4, ziv]
  unfold zcq
  rw [ztg]
  by_cases h : (plc p.1).toNat = i
  ·cases W[i]? <;> simp [h]
  ·cases W[i]? <;> simp [h]
theorem ziu : ∀ {gs : List (Int × Int)} {W : List (Nat × List Int)}, (gs.foldl zcq W).length = W.length
 | [], _ => rfl
 | p :: gs, W => by rw [zt4, ziu]; simp [zcq]
section
variable {n : Nat} {gone : Int} {t : T} {s : LS} {todo : List Int} {x : Int}
theorem zll (hl : s.lists.length = t.C.length) : ∀ k, (t.of s).at k = t.at k := by
 refine zvt fun hq0 => ?_
 obtain ⟨-, -, -, -, h5, h6, h7, -⟩ := vp (t := t) (fs := s.forced)
 refine hq0 ?_
 intro k
 cases k with
 | w i => exact ziv
 | c j =>
  show zvw zxy ((t.of s).C[j]?).join = zvw zxy (t.C[j]?).join
  simp only [T.of, cOf, ztx]
  by_cases hj : j < t.C.length
  ·rw [zsv hj, zsv (hl ▸ hj)]
   cases t.C[j] <;> simp
  ·rw [ztf (zw5 hj)]
 | obj => exact congrArg some h5
 | tr => exact congrArg some h6
 | st => exact congrArg some h7
 | _ => exact congrArg (fun q => some (q + _)) h5
theorem zrs : (t.of s).W.length = t.W.length := ziu
theorem Fit.lenT (F : Fit n gone t s todo) (Ln : Len t) (hn : t.as.length = n + 1) : Len (t.of s) := by
 refine zvt fun hq0 => ?_
 obtain ⟨h1, h2, h3, h4, -⟩ := vp (t := t) (fs := s.forced)
 refine hq0 ?_
 refine ⟨?_, ?_, ?_, by rw [zhw]; exact Ln.as, ?_, ?_⟩
 ·rw [zhw]; exact h1.trans Ln.lv
 ·rw [zhw]; exact h2.trans Ln.rs
 ·rw [zhw]; exact h3.trans Ln.sp
 ·rw [F.tr]
  have := zbz F.ndo (n := n) fun x hx => by
   obtain ⟨l, hl, rfl⟩ := zso.mp hx
   exact F.one l hl
  rw [zsk] at this
  have := Ln.as
  lia
 ·show (t.enqs s.forced).st.length ≤ 100
  rw [h4]; exact Ln.st
structure VS (n : Nat) (gone : Int) (t : T) (s : LS) (todo : List Int) (wa : Nat) (nums : List Int) (K : Nat) (H0 H : St) : Prop where
 rep : Rep (t.of s) H
 fit : Fit n gone t s todo
 wat : (t.of s).W[(plc gone).toNat]? = some (wa, nums)
 wb : ∀ l : Int, 1 ≤ l.natAbs → l.natAbs ≤ n → ∃ b ns, (t.of s).W[(plc l).toNat]? = some (b, ns) ∧ ns.length + todo.length ≤ 1000
 kp : H[K]? = some (il s.stays)
 kfree : ∀ k, t.at k ≠ some K
 kh : H0.length ≤ K
 stl : s.stays.length + todo.length ≤ 1000
 len : H0.length ≤ H.length
 out : ∀ a, (∀ k, t.at k ≠ some a) → a < H0.length → H[a]? = H0[a]?
variable {wa K : Nat} {nums : List Int} {H0 H : St}
theorem VS.hop (V : VS n gone t s (x :: todo) wa nums K H0 H) {H' : St} (O : Out (t.of s) H H') : (H'[K]? = some (il s.stays)) ∧ H0.length ≤ H'.length ∧ ∀ a, (∀ k, t.at k ≠ some a) → a < H0.length → H'[a]? = H0[a]? := by
 have at' := zll (t := t) (s := s) V.fit.len
 refine ⟨?_, zw1 V.len O.1, fun a h1 h2 => ?_⟩
 ·rw [O.2 K (fun k => by rw [at']; exact V.kfree k) (zsl.mp V.kp).1]; exact V.kp
 ·rw [O.2 a (fun k => by rw [at']; exact h1 k) (zw2 h2 V.len), V.out a h1 h2]
theorem zrm {a b : Int} (h : plc a = plc b) (ha : 1 ≤ a.natAbs) (hb : 1 ≤ b.natAbs) : a = b := by
 unfold plc at h
 split at h <;> split at h <;> lia
theorem zcn {a b : Int} (h : (plc a).toNat = (plc b).toNat) (ha : 1 ≤ a.natAbs) (hb : 1 ≤ b.natAbs) : a = b := by
 refine zrm ?_ ha hb
 unfold plc at h ⊢
 split at h <;> split at h <;> simp_all <;> lia
end
end Mine
namespace Mine
theorem znz {α : Type} {l : List α} {i : Nat} (h : i ≤ l.length) : zmz l (some (i : Int)) none none = l.drop i := by
 unfold zmz
 rw [sliceBounds_plain]
 show (sliceRange ((clipAt l.length (i : Int) : Nat) : Int) ((l.length : Nat) : Int) 1).filterMap (l[·]?) = _
 have e : clipAt l.length (i : Int) = i := by unfold clipAt; split <;> omega
 rw [e, sliceRange_one]
 show ((zsr (l.length - i)).map (fun k => i + k)).filterMap (l[·]?) = _
 rw [PySem.StrLaws.picks l (l.length - i) i (by lia), zvb (by simp)]
theorem zh6 {α : Type} {l : List α} {k : Nat} : zmz l none (some (k : Int)) none = l.take k := by
 unfold zmz
 rw [sliceBounds_plain]
 show (sliceRange ((0 : Nat) : Int) ((clipAt l.length (k : Int) : Nat) : Int) 1).filterMap (l[·]?) = _
 have e : clipAt l.length (k : Int) = min k l.length := by unfold clipAt; split <;> omega
 rw [e, sliceRange_one]
 show ((zsr (min k l.length - 0)).map (fun k => 0 + k)).filterMap (l[·]?) = _
 rw [zxa, PySem.StrLaws.picks l (min k l.length) 0 (by lia), List.drop_zero]
 exact (List.take_eq_take_min ..).symm
theorem Rep.setOut {t : T} {H : St} (R : Rep t H) {K : Nat} (hk : ∀ k, t.at k ≠ some K) (o : MO) : Rep t (H.set K o) :=
 R.frame fun k a ha => zsn (fun e => hk k (by rw [e]; exact ha))
theorem znw {t : T} {j : Nat} {o : Option (Nat × List Int)} (h : t.C[j]? = some o) : (t.C.map zaw)[j]? = some (zaw o) := by rw [zsu, h]; rfl
section
variable {n : Nat} {gone : Int} {t : T} {s : LS} {todo : List Int} {x : Int} {wa K : Nat} {nums : List Int} {H0 H : St}
theorem zgh (V : VS n gone t s todo wa nums K H0 H) {i : Nat} (hx : nums[i]? = some x) (hx0 : 0 ≤ x) {o : Option (Nat × List Int)} (hC : (t.of s).C[x.toNat]? = some o) (hnums : nums.length < 1000) (hCl : (t.of s).C.length < 1000) {g : Int} (u6 u7 : Option MV) (b : DS) :
  zw (zq (wd (zd 2) (zd 5)) (zy 6)) (zw (zq (wd (zp 1 12 (zd 0)) (zd 6)) (zy 7)) b) [some (.ref t.r), some (.int g), some (.ref wa), some (.ref K), some (.int (-1)), some (.int (i : Nat)), u6, u7] H =
   b [some (.ref t.r), some (.int g), some (.ref wa), some (.ref K), some (.int (-1)), some (.int (i : Nat)), some (.int x), some (zaw o)] H := by
 have hr : (t.of s).r = t.r := vp.2.2.2.2.1
 have hw : H[wa]? = some (il nums) := (V.rep.at' _ _ (T.at_w V.wat)).trans (congrArg some (T.is_w V.wat))
 rw [zj (wc (v := .int x) (yo (a := wa) (i := (i : Int)) rfl rfl hw (by lia) (by simpa using hx) hnums) (by simp))]
 show zw _ b [some (.ref t.r), some (.int g), some (.ref wa), some (.ref K), some (.int (-1)), some (.int (i : Nat)), some (.int x), u7] H = _
 rw [zj (wc (v := zaw o) (zbg (V.rep.attr rfl (by rw [hr]; rfl) rfl) (rfl : zd 6 _ H = some (.int x, H)) (j1 (V.rep.at' .cl _ rfl) hx0 (znw hC) (by rw [zsk]; lia))) (by simp))]
 rfl
theorem zk8 (R : Rep (t.of s) H) (hlen : s.lists.length = t.C.length) {j a1 : Nat} {a b : Int} {rest : List Int} (hl : s.lists[j]? = some (some (a :: b :: rest))) (hC : (t.of s).C[j]? = some (some (a1, a :: b :: rest))) (hg : a = gone ∨ b = gone) (hrest : rest.length ≤ 100) {L : Lo}
  (l1 : ∀ H, zd 1 L H = some (.int gone, H)) (l7 : ∀ H, zd 7 L H = some (.ref a1, H)) :
  ∃ H1, yt (z9 .Eq (wd (zd 7) (zh (.int 0))) (zd 1)) (zw (zq (j0 [(wd (zd 7) (zh (.int 1))), (zd 1)]) (zd8 [(y9 (zd 7) (zh (.int 0))), (y9 (zd 7) (zh (.int 1)))])) z3) z3 L H = some (.next, L, H1) ∧
   Rep (t.of { s with lists := s.lists.set j (some ((if b = gone then a else b) :: gone :: rest)) }) H1 ∧ Out (t.of s) H H1 := by
 have hac := T.at_c hC
 have hc : H[a1]? = some (il (a :: b :: rest)) := (R.at' _ _ hac).trans (congrArg some (T.is_c hC))
 have e0 : wd (zd 7) (zh (.int 0)) L H = some (.int a, H) := yo (l7 H) rfl hc (by decide) rfl (by simp; lia)
 have e1 : wd (zd 7) (zh (.int 1)) L H = some (.int b, H) := yo (l7 H) rfl hc (by decide) rfl (by simp; lia)
 by_cases ha : a = gone
 ·have hcmp : z9 .Eq (wd (zd 7) (zh (.int 0))) (zd 1) L H = some (true, H) := wi e0 (l1 H) (by show some (_ == _) = _; simp [ha])
  have s1 := zh2 (ga := zd 7) (gb := zd 7) (gi := zh (.int 0)) (gj := zh (.int 1)) e1 (l1 H) l7 l7 (fun _ => rfl) (fun _ => rfl) hc (by decide) (by simp) (by decide) (by simp) (by simp; lia)
  have hset : (((a :: b :: rest).map MV.int).set (zwg 0) (.int b)).set (zwg 1) (.int gone) = (b :: gone :: rest).map .int := rfl
  rw [hset] at s1
  refine ⟨_, by rw [kr hcmp, zj s1]; rfl, ?_, (Out.refl _ H).set hac _⟩
  have hoth : (if b = gone then a else b) = b := by
   by_cases hb : b = gone
   ·rw [if_pos hb, ha, hb]
   ·rw [if_neg hb]
  rw [hoth, ← zm3 hlen]
  exact R.upd _ hac (fun k => zmr k) (fun k hk => zmq k hk) (zkj hC)
 ·have hcmp : z9 .Eq (wd (zd 7) (zh (.int 0))) (zd 1) L H = some (false, H) := wi e0 (l1 H) (by show some (_ == _) = _; simp [ha])
  have hb := hg.resolve_left ha
  refine ⟨H, by rw [yw hcmp]; rfl, ?_, Out.refl _ H⟩
  rw [if_pos hb]
  have : s.lists.set j (some (a :: gone :: rest)) = s.lists := by
   refine ztl fun i => ?_
   rw [zs8]
   by_cases e : j = i
   ·subst e
    rw [if_pos rfl, if_pos (zsl.mp hl).1, hl, hb]
   ·rw [if_neg e]
  rw [this]
  exact R
end
end Mine
namespace Mine
section
variable {n : Nat} {gone : Int} {t : T} {s : LS} {todo : List Int} {x : Int} {wa K : Nat} {nums : List Int} {H0 H : St}
theorem Fit.note (F : Fit n gone t s todo) (st : List Int) (td : Int) : Fit n gone t { s with stays := st, told := td } todo := ⟨F.len, F.same, F.val, F.one, F.ndo, F.tr, F.gon, F.good, F.wat, F.nd⟩
theorem Fit.less {todo' : List Int} (F : Fit n gone t s todo) (h : ∀ y ∈ todo', y ∈ todo) (nd : todo'.Nodup) : Fit n gone t s todo' := ⟨F.len, F.same, F.val, F.one, F.ndo, F.tr, F.gon, F.good, fun y hy => F.wat y (h y hy), nd⟩
theorem Fit.item (F : Fit n gone t s (x :: todo)) : (s.lists[x.toNat]? = some none ∧ t.C[x.toNat]? = some none) ∨ ∃ a b rest a1 c0, s.lists[x.toNat]? = some (some (a :: b :: rest)) ∧ t.C[x.toNat]? = some (some (a1, c0)) ∧ (a = gone ∨ b = gone) := by
 obtain ⟨w1, w2, w3⟩ := F.wat x (.head _)
 have hl : x.toNat < s.lists.length := by rw [F.len]; exact w2
 cases h1 : s.lists[x.toNat]? with
 | none => rw [ztk] at h1; omega
 | some o =>
  have hs := F.same x.toNat
  cases h2 : t.C[x.toNat]? with
  | none => rw [ztk] at h2; omega
  | some p =>
   rw [h1, h2] at hs
   cases o with
   | none =>
    cases p with
    | none => exact .inl ⟨rfl, rfl⟩
    | some q => simp at hs
   | some c =>
    cases p with
    | none => simp at hs
    | some q =>
     have hg := (F.good _ _ h1).1
     match c, hg with
     | a :: b :: rest, _ => exact .inr ⟨a, b, rest, q.1, q.2, rfl, rfl, w3 a b rest h1⟩
theorem zpq (hl : s.lists.length = t.C.length) {j : Nat} (hC : t.C[j]? = some none) (h : s.lists[j]? = some none) : (t.of s).C[j]? = some none := by
 simp only [T.of, cOf, ztx, hC, h]; rfl
theorem zi9 (hl : s.lists.length = t.C.length) : (t.of s).C.length = t.C.length := by simp [T.of, cOf, hl]
noncomputable def zjo (gone : Int) (s : LS) (x oth : Int) (rest : List Int) : LS := match (if oth ∈ s.ones then none else q0 (fun l => decide (-l ∉ s.ones)) gone rest) with
 | some (o, rest') => { s with goes := s.goes ++ [(o, x)], lists := s.lists.set x.toNat (some (oth :: o :: rest')) }
 | none =>
  if -oth ∈ s.ones then { s with lists := s.lists.set x.toNat (some (oth :: gone :: rest)), stays := s.stays ++ [x], told := x }
  else if oth ∈ s.ones then { s with lists := s.lists.set x.toNat (some (oth :: gone :: rest)), stays := s.stays ++ [x] }
  else { s with lists := s.lists.set x.toNat (some (oth :: gone :: rest)), stays := s.stays ++ [x], forced := s.forced ++ [(oth, x)], ones := s.ones ++ [oth] }
theorem zb5 (htold : s.told = -1) {a b : Int} {rest : List Int} (i1 : s.lists[x.toNat]? = some (some (a :: b :: rest))) : g9 gone s x = zjo gone s x (if b = gone then a else b) rest := by
 unfold g9 zjo
 rw [if_neg (by simp [htold]), i1]
 try rfl
theorem x4 {f g : Lo → St → Option (Bool × St)} {lo : Lo} {H H1 : St} (h : f lo H = some (false, H1)) : km f g lo H = some (false, H1) := by unfold km; rw [h]; rfl
theorem vo {f g : Lo → St → Option (Bool × St)} {lo : Lo} {H H1 : St} (h : f lo H = some (true, H1)) : km f g lo H = g lo H1 := by unfold km; rw [h]; rfl
theorem uj {f : DE} {lo : Lo} {H H1 : St} {b : Bool} (h : f lo H = some (.bool b, H1)) : qd f lo H = some (b, H1) := by unfold qd; rw [h]; rfl
theorem zif {H : St} {a : Nat} {l : List MV} (ha : H[a]? = some (.list l)) : zjd (.ref a) H = some l := by
 show (y4 H[a]? some).or _ = _; rw [ha]; rfl
theorem zim {f g : DE} {lo : Lo} {H : St} {a : Nat} {l : List MV} {i : Nat} (hf : f lo H = some (.ref a, H)) (hg : g lo H = some (.int (i : Int), H)) (ha : H[a]? = some (.list l)) (hi : i ≤ l.length) (hs : l.length ≤ 1000000) :
  kx f (some g) none none lo H = some (.ref H.length, H ++ [.list (l.drop i)]) := by
 unfold kx zf9
 simp only [hf, hg, bnd_some, zif ha]
 rw [if_neg (by simp)]; show (if small l.length then _ else _) = _; rw [if_pos (by simpa [small] using hs), znz hi]
theorem zoh {f g : DE} {lo : Lo} {H H1 : St} {a b : Nat} {l k l0 : List MV} (hf : f lo H = some (.ref a, H)) (h0 : H[a]? = some (.list l0)) (hg : g lo H = some (.ref b, H1)) (ha : H1[a]? = some (.list l)) (hb : H1[b]? = some (.list k)) (hs : l.length + k.length ≤ 1000000) :
  wh (yj m.extend f [g]) lo H = some (.next, lo, H1.set a (.list (l ++ k))) := by
 unfold wh yj
 have e : m.extend (.ref a) [.ref b] H1 = some (.none, H1.set a (.list (l ++ k))) := by
  show y4 H1[a]? _ = _; rw [ha]; show y4 H1[b]? _ = _; rw [hb]; exact if_pos (zbx hs)
 rw [hf]; dsimp only [bnd]; rw [if_pos (zdp h0), um hg]; dsimp only; rw [e]
noncomputable abbrev vlo (t : T) (gone : Int) (wa K : Nat) (cf : Int) (i : Nat) (u6 u7 : Option MV) : Lo := [some (.ref t.r), some (.int gone), some (.ref wa), some (.ref K), some (.int cf), some (.int (i : Nat)), u6, u7]
theorem zjv (V : VS n gone t s (x :: todo) wa nums K H0 H) (htold : s.told = -1) (Ln : Len t) (hn : t.as.length = n + 1) (hn1 : n ≤ 50) (hW : t.W.length ≤ 1000) (hg1 : 1 ≤ gone.natAbs) (hg2 : gone.natAbs ≤ n) {i : Nat} (hx : nums[i]? = some x) (hd : nums.drop (i + 1) = todo) (hnums : nums.length < 1000) (hCl : t.C.length < 1000) (u6 u7 : Option MV) {P Q : Lo → St → Prop}
  (hP : ∀ s' u6 u7 H', g9 gone s x = s' → s'.told = -1 → VS n gone t s' todo wa nums K H0 H' → P (vlo t gone wa K (-1) i u6 u7) H')
  (hQ : ∀ s' u6 u7 H', g9 gone s x = s' → s'.told = x → VS n gone t { s' with stays := s'.stays ++ todo } [] wa nums K H0 H' → Q (vlo t gone wa K x i u6 u7) H') :
  zeh (ji (vlo t gone wa K (-1) i u6 u7) H) P Q (fun _ _ _ => False) := by
 have F := V.fit
 have hr : (t.of s).r = t.r := vp.2.2.2.2.1
 obtain ⟨w1, w2, w3⟩ := F.wat x (.head _)
 have hClen := zi9 (t := t) F.len
 have hat := zll (t := t) (s := s) F.len
 have wb' : ∀ l : Int, 1 ≤ l.natAbs → l.natAbs ≤ n → ∃ b ns, (t.of s).W[(plc l).toNat]? = some (b, ns) ∧ ns.length + todo.length ≤ 1000 := fun l h1 h2 => by
  obtain ⟨b, ns, e1, e2⟩ := V.wb l h1 h2
  exact ⟨b, ns, e1, by rw [ztd] at e2; lia⟩
 have hst : s.stays.length + 1 + todo.length ≤ 1000 := by have := V.stl; rw [ztd] at this; lia
 have ndt := (zs4.mp F.nd).2
 rcases F.item with ⟨i1, i2⟩ | ⟨a, b, rest, a1, c0, i1, i2, hab⟩
 ·-- a forgotten clause
  have hstep : g9 gone s x = s := by unfold g9; rw [if_neg (by simp [htold]), i1]
  have hC := zpq (t := t) F.len i2 i1
  have e := zgh V hx w1 hC hnums (by rw [hClen]; exact hCl) (g := gone) u6 u7
  unfold ji
  rw [e]
  have hcmp : z9 .Is (zd 7) (zh .none) (vlo t gone wa K (-1) i (some (.int x)) (some (zaw none))) H = some (true, H) := rfl
  rw [ze1 (lo' := vlo t gone wa K (-1) i (some (.int x)) (some (zaw none))) (H' := H) (by rw [kr hcmp]; rfl)]
  exact hP s _ _ H hstep htold ⟨V.rep, F.pass, V.wat, wb', V.kp, V.kfree, V.kh, by lia, V.len, V.out⟩
 ·have hC := of_C (t := t) F.len i1 i2
  obtain ⟨g1, g2, g3, g4⟩ := F.good _ _ i1
  have hrest : rest.length ≤ 8 := by simp at g2; assumption
  have e := zgh V hx w1 hC hnums (by rw [hClen]; exact hCl) (g := gone) u6 u7
  unfold ji
  rw [e]
  generalize hL : ([some (.ref t.r), some (.int gone), some (.ref wa), some (.ref K), some (.int (-1)), some (.int (i : Nat)), some (.int x), some (zaw (some (a1, a :: b :: rest)))] : Lo) = L
  have l0 : ∀ H, zd 0 L H = some (.ref t.r, H) := fun H => by rw [← hL]; rfl
  have l1 : ∀ H, zd 1 L H = some (.int gone, H) := fun H => by rw [← hL]; rfl
  have l2 : ∀ H, zd 2 L H = some (.ref wa, H) := fun H => by rw [← hL]; rfl
  have l3 : ∀ H, zd 3 L H = some (.ref K, H) := fun H => by rw [← hL]; rfl
  have l5 : ∀ H, zd 5 L H = some (.int (i : Nat), H) := fun H => by rw [← hL]; rfl
  have l6 : ∀ H, zd 6 L H = some (.int x, H) := fun H => by rw [← hL]; rfl
  have l7 : ∀ H, zd 7 L H = some (.ref a1, H) := fun H => by rw [← hL]; rfl
  have hcmp : z9 .Is (zd 7) (zh .none) L H = some (false, H) := wi (l7 H) rfl rfl
  rw [zj (lo' := L) (H' := H) (by rw [yw hcmp]; rfl)]
  obtain ⟨H1, e1, R1, O1⟩ := zk8 V.rep F.len i1 hC hab (by lia) l1 l7
  rw [zj e1]
  generalize hoth : (if b = gone then a else b) = oth at R1
  -- the clause with gone second
  let s1 : LS := { s with lists := s.lists.set x.toNat (some (oth :: gone :: rest)) }
  have hperm : ztm (oth :: gone :: rest) (a :: b :: rest) := by
   rw [← hoth]
   by_cases hb : b = gone
   ·rw [if_pos hb, hb]
   ·rw [if_neg hb, hab.resolve_right hb]; exact ztm.swap _ _ _
  have F1 : Fit n gone t s1 todo := F.turn i1 hperm s1 rfl rfl rfl
  have hl1 : s1.lists[x.toNat]? = some (some (oth :: gone :: rest)) := zsy (zsl.mp i1).1
  have hC1 : (t.of s1).C[x.toNat]? = some (some (a1, oth :: gone :: rest)) := of_C F1.len hl1 i2
  have hin : ∀ l ∈ oth :: gone :: rest, 1 ≤ l.natAbs ∧ l.natAbs ≤ n := fun l hl => g4 l (hperm.mem_iff.mp hl)
  obtain ⟨o1, o2⟩ := hin oth (.head _)
  have hr1 : (t.of s1).r = t.r := vp.2.2.2.2.1
  have hac1 := T.at_c hC1
  have hc1 : H1[a1]? = some (il (oth :: gone :: rest)) := (R1.at' _ _ hac1).trans (congrArg some (T.is_c hC1))
  have ev0 : ∀ H', H'[a1]? = some (il (oth :: gone :: rest)) → wd (zd 7) (zh (.int 0)) L H' = some (.int oth, H') := fun H' h => yo (l7 H') rfl h (by decide) rfl (by simp; lia)
  have asl : (t.of s1).as.length = n + 1 := zhw.trans hn
  have ev1 := vt R1 (hr1.symm ▸ l0 H1) (ev0 H1 hc1) (by rw [asl]; lia) (by rw [asl]; lia)
  obtain ⟨k1, k2, k3⟩ := V.hop O1
  have hat1 := zll (t := t) (s := s1) F1.len
  have hlstep := zb5 (gone := gone) htold i1
  rw [hoth] at hlstep
  -- the appended kept list and what is behind it
  have tail_ok : (if oth ∈ s.ones then none else q0 (fun l => decide (-l ∉ s.ones)) gone rest) = none →
    zeh (zw (wh (yj m.append (zd 3) [(zd 6)]))
     (zw (yt (z9 .Eq (z5 1 wf (zd 0) [(wd (zd 7) (zh (.int 0)))]) (zh (.int (-1)))) (zw (zq (zd 6) (zy 4))
     (zw (wh (yj m.extend (zd 3) [(kx (zd 2) (some (wo o.add (zd 5) (zh (.int 1)))) none none)]))
     (zw zh1 z3))) z3)
     (zw (yt (z9 .Eq (z5 1 wf (zd 0) [(wd (zd 7) (zh (.int 0)))]) (zh (.int (0)))) (zw (wh (z5 1 qe (zd 0) [(wd (zd 7) (zh (.int 0))), (zd 6)])) z3) z3)
     z3)) L H1) P Q (fun _ _ _ => False) := by
   intro hnone
   have s3 := qu (l3 H1) (l6 H1) ⟨_, k1⟩ k1 (by rw [zsk]; lia)
   rw [ky] at s3
   rw [zj s3]
   have hKlt : K < H1.length := (zsl.mp k1).1
   have R2 : Rep (t.of s1) (H1.set K (il (s.stays ++ [x]))) := R1.setOut (fun k => by rw [hat1]; exact V.kfree k) _
   have kp2 : (H1.set K (il (s.stays ++ [x])))[K]? = some (il (s.stays ++ [x])) := zsy hKlt
   have out2 : ∀ a, (∀ k, t.at k ≠ some a) → a < H0.length → (H1.set K (il (s.stays ++ [x])))[a]? = H0[a]? := fun a h1 h2 => by
    rw [zsn (by have := V.kh; lia)]
    exact k3 a h1 h2
   have len2 : H0.length ≤ (H1.set K (il (s.stays ++ [x]))).length := by rw [zsx]; exact k2
   generalize H1.set K (il (s.stays ++ [x])) = H2 at R2 kp2 out2 len2 ⊢
   have hc2 : H2[a1]? = some (il (oth :: gone :: rest)) := (R2.at' _ _ hac1).trans (congrArg some (T.is_c hC1))
   have ev2 := vt R2 (hr1.symm ▸ l0 H2) (ev0 H2 hc2) (by rw [asl]; lia) (by rw [asl]; lia)
   have wat1 : (t.of s1).W[(plc gone).toNat]? = some (wa, nums) := V.wat
   unfold zjo at hlstep
   rw [hnone] at hlstep
   dsimp only at hlstep
   by_cases hneg : -oth ∈ s.ones
   ·rw [if_pos hneg] at hlstep
    have hv : (t.of s1).val oth = -1 := (F1.valm o1 o2).mpr hneg
    have hcm : z9 .Eq (z5 1 wf (zd 0) [(wd (zd 7) (zh (.int 0)))]) (zh (.int (-1))) L H2 = some (true, H2) := wi ev2 rfl (by show some (_ == (-1 : Int)) = _; simp [hv])
    have hw2 : H2[wa]? = some (il nums) := (R2.at' _ _ (T.at_w wat1)).trans (congrArg some (T.is_w wat1))
    have hi1 : i + 1 ≤ nums.length := by have := (zsl.mp hx).1; assumption
    have hbody : yt (z9 .Eq (z5 1 wf (zd 0) [(wd (zd 7) (zh (.int 0)))]) (zh (.int (-1)))) (zw (zq (zd 6) (zy 4))
     (zw (wh (yj m.extend (zd 3) [(kx (zd 2) (some (wo o.add (zd 5) (zh (.int 1)))) none none)]))
     (zw zh1 z3))) z3 L H2 = some (.brk, vlo t gone wa K x i (some (.int x)) (some (zaw (some (a1, a :: b :: rest)))), (H2 ++ [il todo]).set K (il (s.stays ++ [x] ++ todo))) := by
     rw [kr hcm, zj (wc (l6 H2) (by rw [← hL]; simp))]
     have e5 : ∀ L', (∀ H, zd 2 L' H = some (.ref wa, H)) → (∀ H, zd 3 L' H = some (.ref K, H)) → (∀ H, zd 5 L' H = some (.int (i : Nat), H)) → wh (yj m.extend (zd 3) [(kx (zd 2) (some (wo o.add (zd 5) (zh (.int 1)))) none none)]) L' H2 = some (.next, L', (H2 ++ [il todo]).set K (il (s.stays ++ [x] ++ todo))) := fun L' q2 q3 q5 => by
      have hsl := zim (f := zd 2) (g := wo o.add (zd 5) (zh (.int 1))) (lo := L') (i := i + 1) (q2 H2) ((zbh (q5 H2) rfl).trans rfl) hw2 (by rw [zsk]; exact hi1) (by rw [zsk]; lia)
      rw [← zvc, hd] at hsl
      have hk3 : (H2 ++ [il todo])[K]? = some (il (s.stays ++ [x])) := by rw [zst (zsl.mp kp2).1]; exact kp2
      have := zoh (k := todo.map .int) (q3 H2) kp2 hsl hk3 (by simp) (by rw [zsk, zsk, zs1]; simp; lia)
      rw [← zs3] at this
      exact this
     rw [← hL]
     show zw _ _ (vlo t gone wa K x i (some (.int x)) (some (zaw (some (a1, a :: b :: rest))))) H2 = _
     rw [zj (e5 _ (fun _ => rfl) (fun _ => rfl) (fun _ => rfl))]
     rfl
    rw [zcl hbody]
    have hKl2 : K < (H2 ++ [il todo]).length := by have := (zsl.mp kp2).1; simp; lia
    refine hQ _ _ _ _ hlstep rfl ⟨?_, (F1.less (todo' := []) (fun y hy => nomatch hy) zty).note (s.stays ++ [x] ++ todo) x, wat1, fun l h1 h2 => ?_, zsy hKl2, V.kfree, V.kh, by simp; lia, by rw [zsx, zs1]; lia, fun a h1 h2 => ?_⟩
    ·exact (R2.app (L := [il todo])).setOut (fun k => by rw [hat1]; exact V.kfree k) _
    ·obtain ⟨b', ns, e1', e2'⟩ := wb' l h1 h2
     exact ⟨b', ns, e1', by simp; lia⟩
    ·rw [zsn (by have := V.kh; lia), zst (by lia)]
     exact out2 a h1 h2
   ·rw [if_neg hneg] at hlstep
    have hv : (t.of s1).val oth ≠ -1 := fun h => hneg ((F1.valm o1 o2).mp h)
    have hcm : z9 .Eq (z5 1 wf (zd 0) [(wd (zd 7) (zh (.int 0)))]) (zh (.int (-1))) L H2 = some (false, H2) := wi ev2 rfl (by show some ((t.of s1).val oth == -1) = some false; rw [beq_false_of_ne hv])
    rw [zj (lo' := L) (H' := H2) (by rw [yw hcm]; rfl)]
    by_cases hpos : oth ∈ s.ones
    ·rw [if_pos hpos] at hlstep
     have hv1 : (t.of s1).val oth = 1 := (F1.val1 o1 o2).mpr hpos
     have hcm0 : z9 .Eq (z5 1 wf (zd 0) [(wd (zd 7) (zh (.int 0)))]) (zh (.int (0))) L H2 = some (false, H2) := wi ev2 rfl (by show some ((t.of s1).val oth == 0) = some false; rw [hv1]; rfl)
     rw [zj (lo' := L) (H' := H2) (by rw [yw hcm0]; rfl)]
     show P L H2
     rw [← hL]
     exact hP _ _ _ H2 hlstep htold ⟨R2, F1.note (s.stays ++ [x]) s.told, wat1, wb', kp2, V.kfree, V.kh, by simp; assumption, len2, out2⟩
    ·rw [if_neg hpos] at hlstep
     have hv0 : (t.of s1).val oth = 0 := (F1.val0 o1 o2).mpr ⟨hpos, hneg⟩
     have hcm0 : z9 .Eq (z5 1 wf (zd 0) [(wd (zd 7) (zh (.int 0)))]) (zh (.int (0))) L H2 = some (true, H2) := wi ev2 rfl (by show some (_ == (0 : Int)) = _; simp [hv0])
     obtain ⟨H3, e3, R3, O3, len3⟩ := zql R2 (F1.lenT Ln hn) (l := oth) (num := x) (by rw [asl]; lia)
     have s4 : wh (z5 1 qe (zd 0) [(wd (zd 7) (zh (.int 0))), (zd 6)]) L H2 = some (.next, L, H3) := qj ((ul (hr1.symm ▸ l0 H2) (R2.at' .obj _ rfl) (ev0 H2 hc2) (l6 H2)).trans e3)
     rw [zj (lo' := L) (H' := H3) (by rw [kr hcm0, zj s4]; rfl)]
     rw [zqh (os := s.ones ++ [oth])] at R3
     have hK3 : H3[K]? = some (il (s.stays ++ [x])) := by rw [O3.2 K (fun k => by rw [hat1]; exact V.kfree k) (zsl.mp kp2).1]; exact kp2
     show P L H3
     rw [← hL]
     refine hP _ _ _ H3 hlstep htold ⟨R3, (F1.more hn o1 o2 hpos hneg).note (s.stays ++ [x]) s.told, wat1, wb', hK3, V.kfree, V.kh, by simp; assumption, by lia, fun a h1 h2 => ?_⟩
     rw [O3.2 a (fun k => by rw [hat1]; exact h1 k) (by lia)]
     exact out2 a h1 h2
  -- the test: is it true, or moved
  by_cases hpos : oth ∈ s.ones
  ·have hv1 : (t.of s1).val oth = 1 := (F1.val1 o1 o2).mpr hpos
   have hcm : z9 .NotEq (z5 1 wf (zd 0) [(wd (zd 7) (zh (.int 0)))]) (zh (.int (1))) L H1 = some (false, H1) := wi ev1 rfl (by show some ((t.of s1).val oth != 1) = some false; rw [hv1]; rfl)
   rw [zj (lo' := L) (H' := H1) (by rw [yw (x4 hcm)]; rfl)]
   exact tail_ok (if_pos hpos)
  ·have hv1 : (t.of s1).val oth ≠ 1 := fun h => hpos ((F1.val1 o1 o2).mp h)
   have hcm : z9 .NotEq (z5 1 wf (zd 0) [(wd (zd 7) (zh (.int 0)))]) (zh (.int (1))) L H1 = some (true, H1) := wi ev1 rfl (by show some ((t.of s1).val oth != 1) = some true; rw [bne_iff_ne.mpr hv1])
   have hmv := zpt R1 (by rw [asl]; lia) (by rw [zrs]; exact hW) hC1 (num := x) (fun l hl => by rw [asl]; have := hin l (.tail _ (.tail _ hl)); lia) (by lia) (fun l hl => by
    obtain ⟨q1, q2⟩ := hin l (.tail _ (.tail _ hl))
    obtain ⟨b', ns, e1', e2'⟩ := wb' l q1 q2
    exact ⟨b', ns, e1', by lia⟩)
   have hcongr : q0 (fun l => decide ((t.of s1).val l ≠ -1)) gone rest = q0 (fun l => decide (-l ∉ s.ones)) gone rest := zdx fun l hl => by
    obtain ⟨q1, q2⟩ := hin l (.tail _ (.tail _ hl))
    have := F1.valm q1 q2
    simp only [ne_eq, this]
    rfl
   rw [hcongr] at hmv
   cases hfo : q0 (fun l => decide (-l ∉ s.ones)) gone rest with
   | none =>
    rw [hfo] at hmv
    have e6 : qd (z5 1 jv (zd 0) [(zd 6), (zd 7)]) L H1 = some (false, H1) := uj ((ul (hr1.symm ▸ l0 H1) (R1.at' .obj _ rfl) (l6 H1) (l7 H1)).trans hmv)
    rw [zj (lo' := L) (H' := H1) (by rw [yw ((vo hcm).trans (x4 e6))]; rfl)]
    exact tail_ok (by rw [if_neg hpos]; exact hfo)
   | some p =>
    obtain ⟨o, rest'⟩ := p
    rw [hfo] at hmv
    obtain ⟨H2, e7, R2, O2, len2⟩ := hmv
    have e6 : qd (z5 1 jv (zd 0) [(zd 6), (zd 7)]) L H1 = some (true, H2) := uj ((ul (hr1.symm ▸ l0 H1) (R1.at' .obj _ rfl) (l6 H1) (l7 H1)).trans e7)
    rw [ze1 (lo' := L) (H' := H2) (by rw [kr ((vo hcm).trans ((vo e6).trans rfl))]; rfl)]
    unfold zjo at hlstep
    rw [if_neg hpos, hfo] at hlstep
    dsimp only at hlstep
    obtain ⟨m1, m2⟩ := zc3 hfo
    have hog : o ≠ gone := fun e => by
     have m2' : -o ∉ s.ones := by simpa using m2
     exact m2' (e ▸ F.gon)
    obtain ⟨q1, q2⟩ := hin o (.tail _ (.tail _ m1))
    have hne : (plc o).toNat ≠ (plc gone).toNat := fun e => hog (zcn e q1 hg1)
    let s2 : LS := { s with goes := s.goes ++ [(o, x)], lists := s.lists.set x.toNat (some (oth :: o :: rest')) }
    have hT : (((t.of s1).setC x.toNat (oth :: o :: rest')).addW (plc o).toNat x) = t.of s2 := by
     rw [zm3 F1.len, zrr]
     show t.of _ = t.of _
     congr 1
     simp only [s1, s2, zuc]
    rw [hT] at R2
    have hp2 : ztm (oth :: o :: rest') (a :: b :: rest) := ((zab hfo).cons oth).trans hperm
    have hWe : (t.of s2).W = zcq (t.of s).W (o, x) := by
     show (s.goes ++ [(o, x)]).foldl zcq t.W = _
     rw [ztu]; rfl
    have hWs : ∀ j, (t.of s2).W[j]? = ((t.of s).W[j]?).map fun q => if (plc o).toNat = j then (q.1, q.2 ++ [x]) else q := fun j => by
     rw [hWe]
     generalize (t.of s).W = W0
     show (W0.modify (plc o).toNat fun q => (q.1, q.2 ++ [x]))[j]? = _
     rw [ztg]
     by_cases h : (plc o).toNat = j
     ·simp only [h, if_true]; rfl
     ·simp only [h, if_false]
      cases W0[j]? <;> rfl
    show P L H2
    rw [← hL]
    refine hP s2 _ _ H2 hlstep htold ⟨R2, F.turn i1 hp2 s2 rfl rfl rfl, ?_, fun l h1 h2 => ?_, ?_, V.kfree, V.kh, by show s.stays.length + _ ≤ _; lia, by lia, fun c h1 h2 => ?_⟩
    ·rw [hWs, V.wat]; simp [hne]
    ·obtain ⟨b', ns, e1', e2'⟩ := V.wb l h1 h2
     rw [ztd] at e2'
     rw [hWs, e1']
     by_cases h : (plc o).toNat = (plc l).toNat
     ·exact ⟨b', ns ++ [x], by simp [h], by simp; lia⟩
     ·exact ⟨b', ns, by simp [h], by lia⟩
    ·rw [O2.2 K (fun k => by rw [hat1]; exact V.kfree k) (zsl.mp k1).1]; exact k1
    ·rw [O2.2 c (fun k => by rw [hat1]; exact h1 k) (by lia)]
     exact k3 c h1 h2
end
end Mine
namespace Mine
noncomputable def T.init (t : T) : LS := { told := -1, lists := t.C.map fun o => o.map (·.2), stays := [], goes := [], forced := [], ones := t.tr }
theorem zfb (t : T) : t.of t.init = t := by
 have : cOf t.C (t.C.map fun o => o.map (·.2)) = t.C := by
  refine ztl fun i => ?_
  simp only [cOf, ztx, zsu]
  cases t.C[i]? with
  | none => rfl
  | some o => cases o <;> rfl
 unfold T.of T.init T.enqs
 simp only [List.foldl_nil, this]
noncomputable def T.newW (t : T) (p K : Nat) (ns : List Int) : T := { t with W := t.W.set p (K, ns) }
theorem Rep.newW {t : T} {H : St} (R : Rep t H) {p K : Nat} {ns : List Int} (hK : ∀ k, t.at k ≠ some K) (hns : H[K]? = some (il ns)) (hp : p < t.W.length) :
  Rep (t.newW p K ns) (H.set (t.r + 8) (.list ((t.W.map fun q => MV.ref q.1).set p (.ref K)))) := by
 have hws : t.at .ws = some (t.r + 8) := rfl
 have hKr : t.r + 8 ≠ K := fun e => hK .ws (by rw [hws, e])
 have atw : ∀ i, (t.newW p K ns).at (.w i) = if p = i then some K else t.at (.w i) := fun i => by
  show zvw (·.1) ((t.W.set p (K, ns))[i]?) = _
  rw [zs8]
  by_cases h : p = i
  ·subst h; simp [hp]
  ·rw [if_neg h, if_neg h]; rfl
 have atk : ∀ k, (∀ i, k ≠ .w i) → (t.newW p K ns).at k = t.at k := fun k h => by cases k <;> first | rfl | exact absurd rfl (h _)
 have other : ∀ k a, t.at k = some a → k ≠ .ws → (H.set (t.r + 8) (.list ((t.W.map fun q => MV.ref q.1).set p (.ref K))))[a]? = some (t.is k) := fun k a ha hk => by
  rw [zsn (fun e => hk (R.inj k .ws a ha (by rw [hws, e])))]
  exact R.at' k a ha
 refine ⟨fun k a ha => ?_, fun k k' a h1 h2 => ?_⟩
 ·by_cases hw : ∃ i, k = .w i
  ·obtain ⟨i, rfl⟩ := hw
   rw [atw] at ha
   by_cases h : p = i
   ·subst h
    rw [if_pos rfl] at ha
    cases ha
    rw [zsn hKr, hns]
    simp [T.is, T.newW, hp]
   ·rw [if_neg h] at ha
    rw [other _ _ ha (by simp)]
    simp [T.is, T.newW, zs8, h]
  ·have hk : ∀ i, k ≠ .w i := fun i e => hw ⟨i, e⟩
   rw [atk k hk] at ha
   by_cases hs : k = .ws
   ·subst hs
    cases ha
    rw [zsy (R.lt hws)]
    show some (MO.list _) = some (MO.list ((t.W.set p (K, ns)).map _))
    rw [zt7]
   ·rw [other k a ha hs]
    cases k <;> first | rfl | exact absurd rfl hs | exact absurd rfl (hk _)
 ·by_cases hw : ∃ i, k = .w i
  ·obtain ⟨i, rfl⟩ := hw
   rw [atw] at h1
   by_cases hw' : ∃ j, k' = .w j
   ·obtain ⟨j, rfl⟩ := hw'
    rw [atw] at h2
    by_cases e1 : p = i
    ·by_cases e2 : p = j
     ·rw [← e1, ← e2]
     ·rw [if_pos e1] at h1; rw [if_neg e2] at h2
      exact absurd (h2.trans h1.symm) (hK _)
    ·by_cases e2 : p = j
     ·rw [if_neg e1] at h1; rw [if_pos e2] at h2
      exact absurd (h1.trans h2.symm) (hK _)
     ·rw [if_neg e1] at h1; rw [if_neg e2] at h2
      exact R.inj _ _ a h1 h2
   ·rw [atk k' fun j e => hw' ⟨j, e⟩] at h2
    by_cases e1 : p = i
    ·rw [if_pos e1] at h1
     exact absurd (h2.trans h1.symm) (hK _)
    ·rw [if_neg e1] at h1
     exact R.inj _ _ a h1 h2
  ·rw [atk k fun j e => hw ⟨j, e⟩] at h1
   by_cases hw' : ∃ j, k' = .w j
   ·obtain ⟨j, rfl⟩ := hw'
    rw [atw] at h2
    by_cases e2 : p = j
    ·rw [if_pos e2] at h2
     exact absurd (h1.trans h2.symm) (hK _)
    ·rw [if_neg e2] at h2
     exact R.inj _ _ a h1 h2
   ·rw [atk k' fun j e => hw' ⟨j, e⟩] at h2
    exact R.inj _ _ a h1 h2
section
variable {n : Nat} {gone : Int} {t : T} {wa : Nat} {nums : List Int} {H : St}
theorem zpd (R : Rep t H) (F : Fit n gone t t.init nums) (Ln : Len t) (hn : t.as.length = n + 1) (hn1 : n ≤ 50) (hW : t.W.length ≤ 1000) (hg1 : 1 ≤ gone.natAbs) (hg2 : gone.natAbs ≤ n) (hw : t.W[(plc gone).toNat]? = some (wa, nums)) (hnums : nums.length ≤ 500) (hCl : t.C.length < 1000)
  (wb : ∀ l : Int, 1 ≤ l.natAbs → l.natAbs ≤ n → ∃ b ns, t.W[(plc l).toNat]? = some (b, ns) ∧ ns.length + nums.length ≤ 1000) :
  ∃ H', uw [.ref t.r, .int gone] H = some (.int (nums.foldl (g9 gone) t.init).told, H') ∧ Rep ((t.of (nums.foldl (g9 gone) t.init)).newW (plc gone).toNat H.length (nums.foldl (g9 gone) t.init).stays) H' ∧
   Fit n gone t (nums.foldl (g9 gone) t.init) [] ∧ H.length < H'.length ∧ ∀ a, (∀ k, t.at k ≠ some a) → a < H.length → H'[a]? = H[a]? := by
 have hK : ∀ k, t.at k ≠ some H.length := fun k e => by have := R.lt e; lia
 have R0 : Rep (t.of t.init) (H ++ [.list []]) := by rw [zfb]; exact R.app
 have e1 := zdh (t := t) R (f := zd 0) (g := zd 1) (lo := [some (.ref t.r), some (.int gone), none, none, none, none, none, none]) rfl rfl (by lia) hw hW
 have s1 : zbk (j0 [(wd (zp 1 6 (zd 0)) (we ku [(zd 1)])), (wv []), (zh (.int (-1)))]) [2, 3, 4] [some (.ref t.r), some (.int gone), none, none, none, none, none, none] H =
   some (.next, [some (.ref t.r), some (.int gone), some (.ref wa), some (.ref H.length), some (.int (-1)), none, none, none], H ++ [.list []]) := by
  unfold zbk j0
  simp only [jw, e1, bnd_some, wv]
  rfl
 have V0 : VS n gone t t.init nums wa nums H.length H (H ++ [.list []]) := by
  refine ⟨R0, F, by rw [zfb]; exact hw, fun l h1 h2 => by rw [zfb]; exact wb l h1 h2, by simp [T.init], hK, zwt _, by simp [T.init]; lia, by simp, fun a h1 h2 => zst h2⟩
 have hlen : z4 b.len [zd 2] [some (.ref t.r), some (.int gone), some (.ref wa), some (.ref H.length), some (.int (-1)), none, none, none] (H ++ [.list []]) = some (.int (nums.length : Int), H ++ [.list []]) := by
  have := jh (f := zd 2) (lo := [some (.ref t.r), some (.int gone), some (.ref wa), some (.ref H.length), some (.int (-1)), none, none, none]) rfl ((V0.rep.at' _ _ (T.at_w V0.wat)).trans (congrArg some (T.is_w V0.wat))) (by rw [zsk]; lia)
  rw [zsk] at this
  exact this
 have hfor := xa (g := zy 5) (b := ji) (j2 hlen) (by decide) (by decide) (by lia) (by lia)
 have rule := jb (g := zy 5) (b := ji) (l := (zsr ((nums.length : Int) - 0).toNat).map fun i : Nat => MV.int (0 + i))
  (fun i lo H' => ∃ u5 u6 u7, lo = [some (.ref t.r), some (.int gone), some (.ref wa), some (.ref H.length), some (.int (-1)), u5, u6, u7] ∧ ((nums.take i).foldl (g9 gone) t.init).told = -1 ∧ VS n gone t ((nums.take i).foldl (g9 gone) t.init) (nums.drop i) wa nums H.length H H')
  (Q := fun lo H' => ∃ u5 u6 u7, lo = [some (.ref t.r), some (.int gone), some (.ref wa), some (.ref H.length), some (.int (nums.foldl (g9 gone) t.init).told), u5, u6, u7] ∧ VS n gone t (nums.foldl (g9 gone) t.init) [] wa nums H.length H H')
  (R := fun _ _ _ => False)
  (fun i v lo H' hv hI => by
   obtain ⟨u5, u6, u7, hlo, htold, V⟩ := hI
   subst hlo
   obtain ⟨hi, rfl⟩ := jk hv
   have hi' : i < nums.length := by simpa using hi
   have hx : nums[i]? = some nums[i] := zsv hi'
   have hdrop : nums.drop i = nums[i] :: nums.drop (i + 1) := zvd hi'
   rw [hdrop] at V
   have hti : nums.take (i + 1) = nums.take i ++ [nums[i]] := by rw [zud, hx]; rfl
   have hfold : (nums.take (i + 1)).foldl (g9 gone) t.init = g9 gone ((nums.take i).foldl (g9 gone) t.init) nums[i] := by rw [hti, ztu]; rfl
   refine ⟨vlo t gone wa H.length (-1) i u6 u7, H', by rw [zv9]; rfl, ?_⟩
   have hw0 := (V.fit.wat _ (.head _)).1
   generalize hs0 : (nums.take i).foldl (g9 gone) t.init = s0 at V htold hfold
   refine zjv V htold Ln hn hn1 hW hg1 hg2 hx rfl (by lia) hCl u6 u7 (fun s' v6 v7 H'' e h1 h2 => ?_) (fun s' v6 v7 H'' e h1 h2 => ?_)
   ·rw [hfold, e]
    exact ⟨_, v6, v7, rfl, h1, h2⟩
   ·have hall : nums.foldl (g9 gone) t.init = { s' with stays := s'.stays ++ nums.drop (i + 1) } := by
     have e' : nums.foldl (g9 gone) t.init = (nums.drop (i + 1)).foldl (g9 gone) s' := by rw [← e, ← hfold, ← ztu, zue]
     rw [e']
     exact zgo (by rw [h1]; lia)
    rw [hall, ← h1]
    exact ⟨_, v6, v7, rfl, h2⟩)
  (fun lo H' hI => by
   obtain ⟨u5, u6, u7, hlo, htold, V⟩ := hI
   have hl : ((zsr ((nums.length : Int) - 0).toNat).map fun i : Nat => MV.int (0 + i)).length = nums.length := by simp
   rw [hl, zto, zuf] at V
   rw [hl, zto] at htold
   exact ⟨u5, u6, u7, by rw [hlo, htold], V⟩)
  (lo := [some (.ref t.r), some (.int gone), some (.ref wa), some (.ref H.length), some (.int (-1)), none, none, none]) (H := H ++ [.list []]) ⟨none, none, none, rfl, rfl, by simpa using V0⟩
 rw [← hfor] at rule
 refine zvt fun hq0 => ?_
 obtain ⟨lo, H', e2, u5, u6, u7, rfl, V⟩ := rule.next
 refine hq0 ?_
 generalize hs : nums.foldl (g9 gone) t.init = s at V e2 ⊢
 have hr : (t.of s).r = t.r := vp.2.2.2.2.1
 have hp0 : 0 ≤ plc gone := by unfold plc; split <;> lia
 have hplt : (plc gone).toNat < (t.of s).W.length := by rw [zrs]; exact (zsl.mp hw).1
 have hat := zll (t := t) (s := s) V.fit.len
 have s3 := ki (f := zd 3) (fa := zp 1 6 (zd 0)) (fi := we ku [zd 1]) (lo := [some (.ref t.r), some (.int gone), some (.ref wa), some (.ref H.length), some (.int s.told), u5, u6, u7]) (H := H') (v := .ref H.length)
  rfl (V.rep.attr rfl (by rw [hr]; rfl) rfl) ((j3 rfl).trans (zkm (by lia))) (V.rep.at' .ws _ rfl) hp0 (by rw [zsk]; exact hplt) (by rw [zsk, zrs]; lia)
 have R4 := V.rep.newW (p := (plc gone).toNat) (K := H.length) (ns := s.stays) (fun k => by rw [hat]; exact hK k) V.kp hplt
 refine ⟨_, y8 rfl (lo' := [some (.ref t.r), some (.int gone), some (.ref wa), some (.ref H.length), some (.int s.told), u5, u6, u7]) ?_, R4, V.fit, ?_, fun a h1 h2 => ?_⟩
 ·unfold zbi
  show zw _ _ [some (.ref t.r), some (.int gone), none, none, none, none, none, none] H = _
  rw [zj s1, zj e2, zj s3]
  rfl
 ·rw [zsx]
  exact (zsl.mp V.kp).1
 ·rw [zsn (fun e => h1 .ws (by rw [← e, hr]; rfl))]
  exact V.out a h1 h2
end
end Mine
namespace Mine
theorem zce {k : Nat} : ∀ {xs : List PyData}, (∀ x ∈ xs, PyData.canLay0 x = true ∧ PyData.depth x ≤ k) → PyData.canLayAll0 xs = true ∧ PyData.depthAll xs ≤ k
 | [], _ => ⟨rfl, zwv _⟩
 | x :: xs, h => by
  obtain ⟨h1, h2⟩ := h x (.head _)
  obtain ⟨h3, h4⟩ := zce fun y hy => h y (.tail _ hy)
  simp only [PyData.canLayAll0, PyData.depthAll, h1, h3]
  exact ⟨rfl, by lia⟩
noncomputable def ze3 (l : List Int) : PyData := .list (l.map .int)
theorem zc1 (l : List Int) : PyData.canLay0 (ze3 l) = true ∧ PyData.depth (ze3 l) ≤ 1 := by
 obtain ⟨h1, h2⟩ := zce (k := 0) (xs := l.map PyData.int) fun x hx => by
  obtain ⟨i, _, rfl⟩ := zso.mp hx
  exact ⟨rfl, zwt _⟩
 simp only [ze3, PyData.canLay0, PyData.depth]
 exact ⟨h1, by lia⟩
theorem zdl {d : PyData} {k : Nat} (h : PyData.canLay0 d = true ∧ PyData.depth d ≤ k) (hk : k ≤ 64) : shaped d = true := by
 unfold shaped; rw [h.1]; simp; lia
theorem zky {H : St} {a b : MV} {d : PyData} (ha : rd 8 H a = some d) (hb : rd 8 H b = some d) (hs : shaped d = true) : eqD H a b = some true := by
 unfold eqD
 rw [ha, hb]
 show (if (shaped d && shaped d) = true then some (PyData.eqv d d) else none) = _
 rw [hs, eqv_refl d (canLay_of_shaped hs)]
 rfl
theorem zhd {α : Type} {f : MV → Option PyData} {g : α → MV} {d : α → PyData} : ∀ {l : List α}, (∀ x ∈ l, f (g x) = some (d x)) → zi8 f (l.map g) = some (l.map d)
 | [], _ => rfl
 | x :: l, h => by
  rw [zs9, zs9]
  show (f (g x)).bind (fun d => (zi8 f (l.map g)).map (d :: ·)) = _
  rw [h x (.head _), zhd fun y hy => h y (.tail _ hy)]
  rfl
theorem zkl {k : Nat} {H : St} {l : List Int} : zi8 (rd (k + 1) H) (l.map .int) = some (l.map .int) := zhd fun _ _ => rfl
theorem list_of {a : Nat} {H : St} {l : List MV} (h : H[a]? = some (.list l)) (hs : small l.length = true) : b.list [.ref a] H = some (.ref H.length, H ++ [.list l]) := by
 show ((y4 H[a]? some).or none).bind _ = _; rw [h]; exact if_pos hs
theorem zmw {k a : Nat} {H : St} {l : List MV} (h : H[a]? = some (.list l)) : rd (k + 1) H (.ref a) = (zi8 (rd k H) l).map .list := by
 show y4 H[a]? (fun l => (zi8 (rd k H) l).map PyData.list) = _; rw [h]; rfl
theorem zo2 {k a : Nat} {H : St} {l : List Int} (h : H[a]? = some (il l)) : rd (k + 2) H (.ref a) = some (ze3 l) := by
 rw [zmw h, zkl]; rfl
theorem zoi {H : St} {a b : Nat} {l : List Int} (ha : H[a]? = some (il l)) (hb : H[b]? = some (.list [])) : eqD H (.ref a) (.ref b) = some (decide (l = [])) := by
 unfold eqD
 have h2 : rd 8 H (.ref b) = some (ze3 []) := zo2 (l := []) hb
 rw [zo2 (k := 6) ha, h2]
 show (if (shaped (ze3 l) && shaped (ze3 [])) = true then some (PyData.eqv (ze3 l) (ze3 [])) else none) = _
 rw [zdl (zc1 _) (by decide), zdl (zc1 _) (by decide), if_pos (by rfl)]
 cases l with
 | nil => rfl
 | cons x l => simp [ze3, PyData.eqv, PyData.eqvAll]
theorem zdz {f : DE} {t : Lo → St → Option (Bool × St)} {e : DE} {lo : Lo} {H H1 : St} {a q : Nat} {l : List MV} (c : MV → Bool) (fn : MV → MV) (hf : f lo H = some (.ref a, H1)) (ha : H1[a]? = some (.list l)) (hq : lo.length = q) (hl : l.length ≤ 1000000)
  (ht : ∀ v ∈ l, t (lo ++ [some v]) H1 = some (c v, H1)) (he : ∀ v ∈ l, c v = true → e (lo ++ [some v]) H1 = some (fn v, H1)) :
  gr q 1 f (zy q) t e lo H = some (.ref H1.length, H1 ++ [.list ((l.filter c).map fn)]) := by
 unfold gr zb3
 rw [hf]
 simp only [bnd_some, zdj, ha]
 rw [if_pos hq]
 have := zne (src := zld a) (g := zy q) (t := t) (e := e) (l := l) H1 (lo ++ [none]) (fun v => lo ++ [some v]) c fn (fun i => by simp only [zld, ha]) hl
  (fun v hv lo' hlo => by
   have hg : ∀ u : Option MV, zy q v (lo ++ [u]) H1 = some (lo ++ [some v], H1) := fun u => by
    unfold zy
    rw [if_pos (by simp; lia)]
    rw [zt8 _ _ (by lia)]
    simp [hq]
   rcases hlo with rfl | ⟨u, _, rfl⟩
   ·exact hg none
   ·exact hg (some u)) ht he
 simp only [zug, this, zv0]
theorem zp6 {f : DE} {t : Lo → St → Option (Bool × St)} {e : DE} {lo : Lo} {H H1 : St} {x y : Int} {q : Nat} (c : MV → Bool) (fn : MV → MV) (hf : f lo H = some (.rng x y 1, H1)) (h1 : -1000 ≤ x) (h2 : x ≤ 1000) (h3 : -1000 ≤ y) (h4 : y ≤ 1000) (hq : lo.length = q)
  (ht : ∀ v ∈ ((zsr (y - x).toNat).map fun i : Nat => MV.int (x + i)), t (lo ++ [some v]) H1 = some (c v, H1)) (he : ∀ v ∈ ((zsr (y - x).toNat).map fun i : Nat => MV.int (x + i)), c v = true → e (lo ++ [some v]) H1 = some (fn v, H1)) :
  gr q 1 f (zy q) t e lo H = some (.ref H1.length, H1 ++ [.list ((((zsr (y - x).toNat).map fun i : Nat => MV.int (x + i)).filter c).map fn)]) := by
 unfold gr zb3
 rw [hf]
 simp only [bnd_some, zdj]
 rw [if_pos hq, if_pos (zcy h1 h2 h3 (by lia)), zcz]
 generalize hl : ((zsr (y - x).toNat).map fun i : Nat => MV.int (x + i)) = l at ht he ⊢
 have := zne (src := zo8 l) (g := zy q) (t := t) (e := e) (l := l) H1 (lo ++ [none]) (fun v => lo ++ [some v]) c fn (fun i => rfl) (by rw [← hl]; simp; lia)
  (fun v hv lo' hlo => by
   have hg : ∀ u : Option MV, zy q v (lo ++ [u]) H1 = some (lo ++ [some v], H1) := fun u => by
    unfold zy
    rw [if_pos (by simp; lia)]
    rw [zt8 _ _ (by lia)]
    simp [hq]
   rcases hlo with rfl | ⟨u, _, rfl⟩
   ·exact hg none
   ·exact hg (some u)) ht he
 simp only [zug, this, zv0]
end Mine
namespace Mine
section
variable {n : Nat} {gone : Int} {t : T} {s : LS} {todo : List Int} {x : Int}
theorem zec {a b g : Int} {rest : List Int} (h : a = g ∨ b = g) : ztm ((if b = g then a else b) :: g :: rest) (a :: b :: rest) := by
 by_cases hb : b = g
 ·rw [if_pos hb, hb]
 ·rw [if_neg hb, h.resolve_right hb]; exact ztm.swap _ _ _
theorem Fit.step (F : Fit n gone t s (x :: todo)) (htold : s.told = -1) (hn : t.as.length = n + 1) : Fit n gone t (g9 gone s x) todo := by
 rcases F.item with ⟨i1, i2⟩ | ⟨a, b, rest, a1, c0, i1, i2, hab⟩
 ·have : g9 gone s x = s := by unfold g9; rw [if_neg (by simp [htold]), i1]
  rw [this]; exact F.pass
 ·rw [zb5 htold i1]
  have hperm := zec (rest := rest) hab
  generalize (if b = gone then a else b) = oth at hperm ⊢
  have F1 : Fit n gone t { s with lists := s.lists.set x.toNat (some (oth :: gone :: rest)) } todo := F.turn i1 hperm _ rfl rfl rfl
  obtain ⟨-, -, -, g4⟩ := F.good _ _ i1
  obtain ⟨o1, o2⟩ := g4 oth (hperm.mem_iff.mp (.head _))
  have base : Fit n gone t (if -oth ∈ s.ones then { s with lists := s.lists.set x.toNat (some (oth :: gone :: rest)), stays := s.stays ++ [x], told := x }
    else if oth ∈ s.ones then { s with lists := s.lists.set x.toNat (some (oth :: gone :: rest)), stays := s.stays ++ [x] }
    else { s with lists := s.lists.set x.toNat (some (oth :: gone :: rest)), stays := s.stays ++ [x], forced := s.forced ++ [(oth, x)], ones := s.ones ++ [oth] }) todo := by
   by_cases h1 : -oth ∈ s.ones
   ·rw [if_pos h1]; exact F1.note (s.stays ++ [x]) x
   ·rw [if_neg h1]
    by_cases h2 : oth ∈ s.ones
    ·rw [if_pos h2]; exact F1.note (s.stays ++ [x]) s.told
    ·rw [if_neg h2]; exact (F1.more hn o1 o2 h2 h1).note (s.stays ++ [x]) s.told
  unfold zjo
  by_cases h2 : oth ∈ s.ones
  ·rw [if_pos h2]
   exact base
  ·rw [if_neg h2]
   cases hfo : q0 (fun l => decide (-l ∉ s.ones)) gone rest with
   | none => exact base
   | some p =>
    obtain ⟨o, rest'⟩ := p
    exact F.turn i1 (((zab hfo).cons oth).trans hperm) _ rfl rfl rfl
end
section
variable {n : Nat} {gone : Int} {t : T} {s : LS} {todo : List Int} {x : Int}
theorem zaz {H L : St} {a : Nat} {o : MO} (h : H[a]? = some o) : (H ++ L)[a]? = some o := by rw [zst (zsl.mp h).1]; exact h
theorem zhb {H : St} {a : Nat} {o o' : MO} (h : H[a]? = some o) : (H.set a o')[a]? = some o' := zsy (zsl.mp h).1
theorem ze0 {H : St} {a b : Nat} {o' : MO} {r : Option MO} (h : H[b]? = r) (hne : a ≠ b) : (H.set a o')[b]? = r := by rw [zsn hne]; exact h
theorem zc2 : ∀ {l : List Int}, x7 (l.map .int) = some l
 | [] => rfl
 | i :: l => by show (x7 (l.map .int)).map (i :: ·) = _; rw [zc2]; rfl
theorem zn9 {H : St} {a : Nat} {l : List Int} {i : Int} (h : H[a]? = some (il l)) : isIn (.int i) (.ref a) H = some (decide (i ∈ l)) := by
 show y4 H[a]? (fun l => (x7 l).map (·.contains i)) = _
 rw [h]; show (x7 (l.map .int)).map (·.contains i) = _
 rw [zc2]
 show some (l.contains i) = _
 simp
theorem cmp_in {H : St} {a : Nat} {l : List Int} {i : Int} (h : H[a]? = some (il l)) : Mine.cmp .In (.int i) (.ref a) H = some (decide (i ∈ l)) := zn9 h
theorem zc8 {l : List Int} (p : Int → Bool) : (l.map MV.int).filter (fun v => match v with | .int i => p i | _ => false) = (l.filter p).map .int := by
 rw [zve]; rfl
end
end Mine
namespace Mine
structure Op (t : T) (H : St) (t' : T) (H' : St) : Prop where
 rep : Rep t' H'
 out : Out t H H'
 near : ∀ k a, t'.at k = some a → H.length ≤ a ∨ ∃ k', t.at k' = some a
 r : t'.r = t.r
theorem Op.refl {t : T} {H : St} (R : Rep t H) : Op t H t H := ⟨R, .refl .., fun k _ h => .inr ⟨k, h⟩, rfl⟩
theorem Op.trans {t t' t'' : T} {H H' H'' : St} (x : Op t H t' H') (y : Op t' H' t'' H'') : Op t H t'' H'' :=
 ⟨y.rep, x.out.trans y.out x.near, fun k a h => by
  rcases y.near k a h with q | ⟨k', q⟩
  ·exact .inl (zw1 x.out.1 q)
  ·exact x.near k' a q, y.r.trans x.r⟩
theorem Op.set {t t' : T} {H : St} (R : Rep t H) {k : Kd} {a : Nat} {o : MO} (ha : t.at k = some a) (hat : ∀ k, t'.at k = t.at k) (hr : t'.r = t.r) (R' : Rep t' (H.set a o)) : Op t H t' (H.set a o) :=
 ⟨R', (Out.refl t H).set ha o, fun k' b h => .inr ⟨k', (hat k').symm.trans h⟩, hr⟩
section
variable {t : T} {H : St}
noncomputable abbrev T.wHp (t : T) (x : List Int) : T := { t with hp := x }
noncomputable abbrev T.wPl (t : T) (x : List Int) : T := { t with pl := x }
noncomputable abbrev T.wAc (t : T) (x : List Int) : T := { t with ac := x }
noncomputable abbrev T.wSt (t : T) (x : List Int) : T := { t with st := x }
noncomputable abbrev T.wAs (t : T) (x : List Int) : T := { t with as := x }
noncomputable abbrev T.wRs (t : T) (x : List Int) : T := { t with rs := x }
noncomputable abbrev T.wPh (t : T) (x : List Int) : T := { t with ph := x }
noncomputable abbrev T.wTo (t : T) (x : Int) : T := { t with to := x }
noncomputable abbrev T.wLv (t : T) (x : List Int) : T := { t with lv := x }
noncomputable abbrev T.wSp (t : T) (x : List Int) : T := { t with sp := x }
noncomputable abbrev T.wX1 (t : T) (x : List MV) : T := { t with x1 := x }
noncomputable abbrev T.wX2 (t : T) (x : List MV) : T := { t with x2 := x }
noncomputable abbrev T.wX3 (t : T) (x : List MV) : T := { t with x3 := x }
noncomputable abbrev T.wHe (t : T) (x : Int) : T := { t with he := x }
noncomputable abbrev T.wW (t : T) (x : List (Nat × List Int)) : T := { t with W := x }
theorem zqx (R : Rep t H) (l : List Int) : Op t H (t.wHp l) (H.set (t.r + 11) (il l)) :=
 .set (k := .hp) R rfl (fun k => by cases k <;> rfl) rfl (R.upd { t with hp := l } (k := .hp) rfl (fun k => by cases k <;> rfl) (fun k h => by cases k <;> first | rfl | exact absurd rfl h) rfl)
theorem zo3 (R : Rep t H) (l : List Int) : Op t H (t.wPl l) (H.set (t.r + 12) (il l)) :=
 .set (k := .pl) R rfl (fun k => by cases k <;> rfl) rfl (R.upd { t with pl := l } (k := .pl) rfl (fun k => by cases k <;> rfl) (fun k h => by cases k <;> first | rfl | exact absurd rfl h) rfl)
theorem op_ac (R : Rep t H) (l : List Int) : Op t H (t.wAc l) (H.set (t.r + 10) (il l)) :=
 .set (k := .ac) R rfl (fun k => by cases k <;> rfl) rfl (R.upd { t with ac := l } (k := .ac) rfl (fun k => by cases k <;> rfl) (fun k h => by cases k <;> first | rfl | exact absurd rfl h) rfl)
theorem Rep.hattr (R : Rep t H) {k : Nat} {f : DE} {lo : Lo} {H0 : St} {v : MV} {l : List MV} (hl : t.is .hob = .obj 0 l) (hf : f lo H0 = some (.ref (t.r + 9), H)) (hk : l[k]? = some v) : zp 0 k f lo H0 = some (v, H) :=
 znc hf ((R.at' .hob _ rfl).trans (congrArg some hl)) hk
noncomputable def key (ac : List Int) (v : Int) : Int := ac.getD v.toNat 0 * 1000 - v
theorem qi {l : List Int} {i : Nat} (h : i < l.length) : l[i]? = some (l.getD i 0) := by rw [zsz, zsv h]; rfl
theorem za0 {l : List Int} {i : Nat} {x : Int} (h : l[i]? = some x) : l.getD i 0 = x := by rw [zsz, h]; rfl
theorem zo6 (R : Rep t H) {f g : DE} {lo : Lo} {v : Int} (hf : f lo H = some (.ref (t.r + 9), H)) (hg : g lo H = some (.int v, H)) (h0 : 0 ≤ v) (hv : v.toNat < t.ac.length) (hs : t.ac.length < 1000) : wd (zp 0 2 f) g lo H = some (.int (t.ac.getD v.toNat 0), H) :=
 yo (R.hattr rfl hf rfl) hg (R.at' .ac _ rfl) h0 (qi hv) hs
theorem zhy (R : Rep t H) {f g : DE} {lo : Lo} {i : Int} (hf : f lo H = some (.ref (t.r + 9), H)) (hg : g lo H = some (.int i, H)) (h0 : 0 ≤ i) (hv : i.toNat < t.hp.length) (hs : t.hp.length < 1000) : wd (zp 0 3 f) g lo H = some (.int (t.hp.getD i.toNat 0), H) :=
 yo (R.hattr rfl hf rfl) hg (R.at' .hp _ rfl) h0 (qi hv) hs
theorem zgw (R : Rep t H) {f : DE} {lo : Lo} (hf : f lo H = some (.ref (t.r + 9), H)) (hs : t.hp.length < 1000) : z4 b.len [zp 0 3 f] lo H = some (.int t.hp.length, H) := by
 have := jh (R.hattr rfl hf rfl : zp 0 3 f lo H = some (.ref (t.r + 11), H)) (R.at' .hp _ rfl) (by rw [zsk]; lia)
 rw [zsk] at this
 exact this
theorem zfo (R : Rep t H) (hs : t.ac.length ≤ 100) {a b : Int} (ha0 : 0 ≤ a) (ha : a.toNat < t.ac.length) (hb0 : 0 ≤ b) (hb : b.toNat < t.ac.length) :
  wr [.ref (t.r + 9), .int a, .int b] H = some (.bool (decide (key t.ac b < key t.ac a)), H) := by
 have e1 := zo6 R (f := zd 0) (g := zd 1) (lo := [some (.ref (t.r + 9)), some (.int a), some (.int b)]) rfl rfl ha0 ha (by lia)
 have e2 := zo6 R (f := zd 0) (g := zd 2) (lo := [some (.ref (t.r + 9)), some (.int a), some (.int b)]) rfl rfl hb0 hb (by lia)
 have c1 := wi (op := .NotEq) (b := t.ac.getD a.toNat 0 != t.ac.getD b.toNat 0) e1 e2 rfl
 unfold key
 by_cases h : t.ac.getD a.toNat 0 = t.ac.getD b.toNat 0
 ·rw [h, bne_self_eq_false] at c1
  refine y8 rfl (lo' := [some (.ref (t.r + 9)), some (.int a), some (.int b)]) ((zj ((yw c1).trans rfl)).trans (wq (qc ?_)))
  show (zb2 _) _ _ = _
  unfold zb2
  rw [wi (op := .Lt) (x := .int a) (y := .int b) (b := decide (a < b)) rfl rfl rfl]
  show some _ = some _
  congr 3
  rw [decide_eq_decide, h]; lia
 ·rw [bne_iff_ne.mpr h] at c1
  refine y8 rfl (lo' := [some (.ref (t.r + 9)), some (.int a), some (.int b)]) (wq ((kr c1).trans (wq (qc ?_))))
  show (zb2 _) _ _ = _
  unfold zb2
  rw [wi (op := .Gt) e1 e2 (b := decide (t.ac.getD b.toNat 0 < t.ac.getD a.toNat 0)) rfl]
  show some _ = some _
  congr 3
  rw [decide_eq_decide]; lia
noncomputable def T.put (t : T) (i : Nat) (v : Int) : T := { t with hp := t.hp.set i v, pl := t.pl.set v.toNat i }
theorem zjl (R : Rep t H) {i : Nat} {v : Int} (hi : i < t.hp.length) (h0 : 0 ≤ v) (hv : v.toNat < t.pl.length) (hs : t.hp.length < 1000) (hs' : t.pl.length < 1000) :
  ∃ H', yp [.ref (t.r + 9), .int i, .int v] H = some (.none, H') ∧ Op t H (t.put i v) H' := by
 have s1 := ki (f := zd 2) (fa := zp 0 3 (zd 0)) (fi := zd 1) (lo := [some (.ref (t.r + 9)), some (.int i), some (.int v)]) (H := H) (v := .int v) (i := (i : Int)) rfl (R.hattr rfl rfl rfl) rfl (R.at' .hp _ rfl) (by lia) (by rw [zsk]; exact hi) (by rw [zsk]; lia)
 have O1 := zqx R (t.hp.set i v)
 have e1 : (t.hp.map MV.int).set ((i : Int)).toNat (.int v) = (t.hp.set i v).map .int := map_set
 rw [e1] at s1
 generalize H.set (t.r + 11) (il (t.hp.set i v)) = H1 at s1 O1
 have s2 := ki (f := zd 1) (fa := zp 0 4 (zd 0)) (fi := zd 2) (lo := [some (.ref (t.r + 9)), some (.int i), some (.int v)]) (H := H1) (v := .int i) (i := v) rfl (O1.rep.hattr rfl rfl rfl) rfl (O1.rep.at' .pl _ rfl) h0 (by rw [zsk]; exact hv) (by rw [zsk]; show t.pl.length < _; lia)
 rw [map_set] at s2
 refine ⟨_, us rfl (lo' := [some (.ref (t.r + 9)), some (.int i), some (.int v)]) ((zj s1).trans ((zj s2).trans rfl)), O1.trans (zo3 O1.rep (t.pl.set v.toNat i))⟩
end
noncomputable def Ord (m : Nat) (K : Nat → Int) : Prop := ∀ i, 0 < i → i < m → K i ≤ K ((i - 1) / 2)
structure Up (m : Nat) (K : Nat → Int) (s : Nat) : Prop where
 oth : ∀ i, 0 < i → i < m → i ≠ s → K i ≤ K ((i - 1) / 2)
 kid : ∀ i, 0 < i → i < m → (i - 1) / 2 = s → 0 < s → K i ≤ K ((s - 1) / 2)
structure zpb (m : Nat) (K : Nat → Int) (s : Nat) : Prop where
 oth : ∀ i, 0 < i → i < m → (i - 1) / 2 ≠ s → K i ≤ K ((i - 1) / 2)
 kid : ∀ i, 0 < i → i < m → (i - 1) / 2 = s → 0 < s → K i ≤ K ((s - 1) / 2)
theorem Up.ord {m s : Nat} {K : Nat → Int} (U : Up m K s) (h : s = 0 ∨ K s ≤ K ((s - 1) / 2)) : Ord m K := fun i h0 h1 => by
 by_cases e : i = s
 ·rcases h with h | h
  ·lia
  ·rw [e]; exact h
 ·exact U.oth i h0 h1 e
theorem zpb.ord {m s : Nat} {K : Nat → Int} (U : zpb m K s) (h : ∀ i, 0 < i → i < m → (i - 1) / 2 = s → K i ≤ K s) : Ord m K := fun i h0 h1 => by
 by_cases e : (i - 1) / 2 = s
 ·rw [e]; exact h i h0 h1 e
 ·exact U.oth i h0 h1 e
theorem Up.step {m s p : Nat} {K K' : Nat → Int} (U : Up m K s) (hp : (s - 1) / 2 = p) (h0 : 0 < s) (hm : s < m) (lt : K p < K s) (e1 : K' s = K p) (e2 : K' p = K s) (e3 : ∀ i, i ≠ s → i ≠ p → K' i = K i) : Up m K' p := by
 have hps : p < s := by lia
 refine ⟨fun i i0 im ne => ?_, fun i i0 im hi p0 => ?_⟩
 ·by_cases his : i = s
  ·rw [his, hp, e1, e2]; lia
  ·rw [e3 i his ne]
   by_cases q1 : (i - 1) / 2 = s
   ·rw [q1, e1]
    have := U.kid i i0 im q1 h0
    rw [hp] at this; exact this
   ·by_cases q2 : (i - 1) / 2 = p
    ·rw [q2, e2]
     have := U.oth i i0 im his
     rw [q2] at this; lia
    ·rw [e3 _ q1 q2]; exact U.oth i i0 im his
 ·have hpp : (p - 1) / 2 < p := by lia
  have hup := U.oth p p0 (by lia) (by lia)
  rw [e3 ((p - 1) / 2) (by lia) (by lia)]
  by_cases his : i = s
  ·rw [his, e1]; exact hup
  ·rw [e3 i his (by lia)]
   have := U.oth i i0 im his
   rw [hi] at this; lia
theorem zpb.step {m s c : Nat} {K K' : Nat → Int} (U : zpb m K s) (hp : (c - 1) / 2 = s) (h0 : 0 < c) (hm : c < m) (lt : K s < K c) (best : ∀ i, 0 < i → i < m → (i - 1) / 2 = s → K i ≤ K c) (e1 : K' s = K c) (e2 : K' c = K s) (e3 : ∀ i, i ≠ s → i ≠ c → K' i = K i) : zpb m K' c := by
 have hps : s < c := by lia
 refine ⟨fun i i0 im ne => ?_, fun i i0 im hi p0 => ?_⟩
 ·by_cases his : i = s
  ·have hs0 : 0 < s := by lia
   rw [his, e1, e3 ((s - 1) / 2) (by lia) (by lia)]
   exact U.kid c h0 hm hp hs0
  ·by_cases hic : i = c
   ·rw [hic, hp, e2, e1]; lia
   ·rw [e3 i his hic]
    by_cases q1 : (i - 1) / 2 = s
    ·rw [q1, e1]; exact best i i0 im q1
    ·rw [e3 _ q1 ne]; exact U.oth i i0 im q1
 ·rw [hp, e1, e3 i (by lia) (by lia)]
  have := U.oth i i0 im (by lia)
  rw [hi] at this; exact this
theorem Ord.top {m : Nat} {K : Nat → Int} (O : Ord m K) : ∀ i, i < m → K i ≤ K 0 := by
 intro i
 induction i using Nat.strongRecOn with
 | ind i ih =>
  intro h
  by_cases e : i = 0
  ·rw [e]; exact zv7 _
  ·exact zwd (O i (by lia) h) (ih _ (by lia) (by omega))
end Mine
namespace Mine
structure znl (n : Nat) (g pl : List Int) (s : Nat) : Prop where
 len : pl.length = n + 1
 on : ∀ (i : Nat) v, i ≠ s → g[i]? = some v → pl[v.toNat]? = some (i : Int)
 off : ∀ v : Nat, 1 ≤ v → v ≤ n → (v : Int) ∉ g → pl[v]? = some (-1)
structure HOk (n : Nat) (ac hp pl : List Int) : Prop where
 aclen : ac.length = n + 1
 pllen : pl.length = n + 1
 n50 : n ≤ 50
 rng : ∀ v ∈ hp, 1 ≤ v ∧ v ≤ n
 nd : hp.Nodup
 on : ∀ (i : Nat) v, hp[i]? = some v → pl[v.toNat]? = some (i : Int)
 off : ∀ v : Nat, 1 ≤ v → v ≤ n → (v : Int) ∉ hp → pl[v]? = some (-1)
 ord : Ord hp.length fun i => key ac (hp.getD i 0)
noncomputable def Rng (n : Nat) (g : List Int) : Prop := ∀ v ∈ g, 1 ≤ v ∧ v ≤ n
theorem zdv {n : Nat} {g : List Int} (h : Rng n g) (nd : g.Nodup) : g.length ≤ n := by
 have := zbz (n := n) (l := g.map fun v => v.toNat) (by
  rw [ztq, ztr]
  refine zvf.imp_of_mem (fun {a b} ha hb hne => ?_) nd
  have := h a ha; have := h b hb
  lia) fun x hx => by
  obtain ⟨v, hv, rfl⟩ := zso.mp hx
  have := h v hv
  omega
 rwa [zsk] at this
noncomputable def swp (h : List Int) (v : Int) (s p : Nat) : List Int := (h.set s (h.getD p 0)).set p v
theorem zkd {h : List Int} {v : Int} {s p : Nat} (hs : s < h.length) (hp : p < h.length) (ne : s ≠ p) : (swp h v s p).Perm (h.set s v) := by
 have h1 : s < (h.set s v).length := by rw [zsx]; exact hs
 have h2 : p < (h.set s v).length := by rw [zsx]; exact hp
 have := List.set_set_perm h1 h2
 rw [List.getElem_set_self, List.getElem_set_ne ne, zuc] at this
 unfold swp
 rw [zsz, zsv hp]
 exact this
theorem zmn {h : List Int} {v : Int} {s p : Nat} (hs : s < h.length) (hp : p < h.length) (ne : s ≠ p) (i : Nat) : (swp h v s p)[i]? = if i = s then some (h.getD p 0) else if i = p then some v else h[i]? := by
 unfold swp
 rw [zs8, zs8, zsx]
 by_cases h1 : i = s
 ·subst h1
  rw [if_neg (Ne.symm ne), if_pos rfl, if_pos hs, if_pos rfl]
 ·by_cases h2 : i = p
  ·subst h2
   rw [if_pos rfl, if_pos hp, if_neg h1, if_pos rfl]
  ·rw [if_neg (Ne.symm h2), if_neg (Ne.symm h1), if_neg h1, if_neg h2]
theorem zki {h : List Int} {v : Int} {s : Nat} (hs : s < h.length) (i : Nat) : (h.set s v).getD i 0 = if i = s then v else h.getD i 0 := by
 rw [zsz, zsz, zs8]
 by_cases e : i = s
 ·subst e; rw [if_pos rfl, if_pos hs, if_pos rfl]; rfl
 ·rw [if_neg (Ne.symm e), if_neg e]
theorem zpf {h : List Int} {v : Int} {s p : Nat} (hs : s < h.length) (hp : p < h.length) (ne : s ≠ p) (i : Nat) : (swp h v s p).getD i 0 = if i = s then h.getD p 0 else if i = p then v else h.getD i 0 := by
 rw [zsz, zmn hs hp ne]
 by_cases h1 : i = s
 ·rw [if_pos h1, if_pos h1]; rfl
 ·rw [if_neg h1, if_neg h1]
  by_cases h2 : i = p
  ·rw [if_pos h2, if_pos h2]; rfl
  ·rw [if_neg h2, if_neg h2, zsz]
theorem znl.swp {n : Nat} {h pl : List Int} {v : Int} {s p : Nat} (P : znl n (h.set s v) pl s) (hs : s < h.length) (hp : p < h.length) (ne : s ≠ p) (rg : Rng n (h.set s v)) (nd : (h.set s v).Nodup) :
  znl n (swp h v s p) (pl.set (h.getD p 0).toNat s) p := by
 have gp : (h.set s v)[p]? = some (h.getD p 0) := by rw [zsn ne]; exact qi hp
 have rp := rg _ (zsm gp)
 have lp : (h.getD p 0).toNat < pl.length := by rw [P.len]; lia
 refine ⟨by rw [zsx]; exact P.len, fun i w hi hw => ?_, fun w w1 w2 hw => ?_⟩
 ·rw [zmn hs hp ne] at hw
  by_cases h1 : i = s
  ·rw [if_pos h1] at hw
   cases hw
   rw [zsy lp, h1]
  ·rw [if_neg h1, if_neg hi] at hw
   have hw' : (h.set s v)[i]? = some w := by rw [zsn (Ne.symm h1)]; exact hw
   have rw' := rg _ (zsm hw')
   have : w ≠ h.getD p 0 := fun e => hi (qm nd (e ▸ hw') gp)
   rw [zsn (by lia)]
   exact P.on i w h1 hw'
 ·have hm : ((w : Int)) ∉ h.set s v := fun q => hw ((zkd hs hp ne).mem_iff.mpr q)
  have : (w : Int) ≠ h.getD p 0 := fun e => hm (e ▸ zsm gp)
  rw [zsn (by lia)]
  exact P.off w w1 w2 hm
theorem znl.done {n : Nat} {h pl : List Int} {v : Int} {s : Nat} (P : znl n (h.set s v) pl s) (hs : s < h.length) (rg : Rng n (h.set s v)) (nd : (h.set s v).Nodup) {ac : List Int} (ha : ac.length = n + 1) (hn : n ≤ 50) (O : Ord h.length fun i => key ac ((h.set s v).getD i 0)) :
  HOk n ac (h.set s v) (pl.set v.toNat s) := by
 have gs : (h.set s v)[s]? = some v := zsy hs
 have rv := rg _ (zsm gs)
 have lv : v.toNat < pl.length := by rw [P.len]; lia
 refine ⟨ha, by rw [zsx]; exact P.len, hn, rg, nd, fun i w hw => ?_, fun w w1 w2 hw => ?_, by rw [zsx]; exact O⟩
 ·by_cases h1 : i = s
  ·rw [h1, gs] at hw; cases hw
   rw [zsy lv, h1]
  ·have rw' := rg _ (zsm hw)
   have : w ≠ v := fun e => h1 (qm nd (e ▸ hw) gs)
   rw [zsn (by lia)]
   exact P.on i w h1 hw
 ·have hmv := zsm gs
  have : (w : Int) ≠ v := fun e => hw (by rw [e]; exact hmv)
  rw [zsn (by lia)]
  exact P.off w w1 w2 hw
structure HI (n : Nat) (t : T) (m : Nat) (v : Int) (s : Nat) (h pl : List Int) : Prop where
 len : h.length = m
 hs : s < m
 perm : (h.set s v).Perm t.hp
 pl : znl n (h.set s v) pl s
noncomputable def kf (t : T) (h : List Int) (i : Nat) : Int := key t.ac (h.getD i 0)
structure HB (n : Nat) (t : T) (m : Nat) : Prop where
 aclen : t.ac.length = n + 1
 n50 : n ≤ 50
 rng : Rng n t.hp
 nd : t.hp.Nodup
 m : t.hp.length = m
section
variable {n m s p : Nat} {t : T} {v : Int} {h pl : List Int} {H : St}
theorem HI.rng (I : HI n t m v s h pl) (B : HB n t m) : Rng n (h.set s v) := fun w hw => B.rng w (I.perm.mem_iff.mp hw)
theorem HI.nd (I : HI n t m v s h pl) (B : HB n t m) : (h.set s v).Nodup := I.perm.nodup_iff.mpr B.nd
theorem HB.le (B : HB n t m) : m ≤ n := B.m ▸ zdv B.rng B.nd
theorem HI.rv (I : HI n t m v s h pl) (B : HB n t m) : 1 ≤ v ∧ v ≤ n := I.rng B v (zsm (zsy (by rw [I.len]; exact I.hs)))
theorem HI.at (I : HI n t m v s h pl) (B : HB n t m) (hp : p < m) (ne : s ≠ p) : 1 ≤ h.getD p 0 ∧ h.getD p 0 ≤ n := I.rng B _ (zsm (by rw [zsn ne]; exact qi (by rw [I.len]; exact hp)))
theorem HI.move (I : HI n t m v s h pl) (B : HB n t m) (hp : p < m) (ne : s ≠ p) : HI n t m v p (h.set s (h.getD p 0)) (pl.set (h.getD p 0).toNat s) := by
 have hs : s < h.length := by rw [I.len]; exact I.hs
 have hp' : p < h.length := by rw [I.len]; exact hp
 exact ⟨by rw [zsx]; exact I.len, hp, (zkd hs hp' ne).trans I.perm, I.pl.swp hs hp' ne (I.rng B) (I.nd B)⟩
theorem HI.keys (I : HI n t m v s h pl) (hp : p < m) (ne : s ≠ p) : (∀ i, kf t (h.set s v) i = if i = s then key t.ac v else kf t h i) ∧ ∀ i, kf t ((h.set s (h.getD p 0)).set p v) i = if i = s then kf t h p else if i = p then key t.ac v else kf t h i := by
 have hs : s < h.length := by rw [I.len]; exact I.hs
 have hp' : p < h.length := by rw [I.len]; exact hp
 refine ⟨fun i => ?_, fun i => ?_⟩
 ·unfold kf; rw [zki hs]; split <;> rfl
 ·unfold kf
  show key t.ac ((Mine.swp h v s p).getD i 0) = _
  rw [zpf hs hp' ne]; split
  ·rfl
  ·split <;> rfl
noncomputable abbrev hlo (t : T) (s : Nat) (v : Int) (u : Option MV) : Lo := [some (.ref (t.r + 9)), some (.int s), some (.int v), u]
theorem half {s : Nat} (h : 0 < s) : ((s : Int) - 1).fdiv 2 = (((s - 1) / 2 : Nat) : Int) := by
 rw [Int.fdiv_eq_ediv_of_nonneg _ (by decide)]; lia
theorem zet {f : DE} {lo : Lo} {H H1 : St} {b : Bool} (h : f lo H = some (.bool b, H1)) : zbd (qd f) lo H = some (!b, H1) := by
 unfold zbd; rw [uj h]; rfl
theorem zkw (R : Rep t H) (B : HB n t m) {H1 : St} (O1 : Op t H { t with hp := h, pl := pl } H1) (I : HI n t m v s h pl) (K : Ord m (kf t (h.set s v))) {k : Nat} {u : Option MV} :
  ∃ H' hp' pl', zw (wh (z5 0 yp (zd 0) [(zd 1), (zd 2)])) z3 (hlo t s v u) H1 = some (.next, hlo t s v u, H') ∧ Op t H { t with hp := hp', pl := pl' } H' ∧ HOk n t.ac hp' pl' ∧ hp'.Perm t.hp := by
 have hm := B.le
 have hv := I.rv B
 have hs : s < h.length := by rw [I.len]; exact I.hs
 obtain ⟨H2, e2, O2⟩ := zjl (i := s) (v := v) O1.rep hs (by lia) (by show v.toNat < pl.length; rw [I.pl.len]; lia) (by show h.length < 1000; rw [I.len]; have := B.n50; lia) (by show pl.length < 1000; rw [I.pl.len]; have := B.n50; lia)
 refine ⟨H2, _, _, ?_, O1.trans O2, ?_, I.perm⟩
 ·exact (zj (qj ((ul (F := yp) rfl (O1.rep.at' .hob _ rfl) rfl rfl).trans e2))).trans rfl
 ·refine I.pl.done hs (I.rng B) (I.nd B) B.aclen B.n50 ?_
  rw [I.len]; exact K
theorem zmu (R : Rep t H) (B : HB n t m) (hs : s < m) (P : znl n t.hp t.pl s) (U : Up m (kf t t.hp) s) :
  ∃ H' hp' pl', kn [.ref (t.r + 9), .int s] H = some (.none, H') ∧ Op t H { t with hp := hp', pl := pl' } H' ∧ HOk n t.ac hp' pl' ∧ hp'.Perm t.hp := by
 have hm := B.le
 have hn := B.n50
 have hs' : s < t.hp.length := by rw [B.m]; exact hs
 have hv := qi hs'
 generalize hvv : t.hp.getD s 0 = v at hv
 have hset : t.hp.set s v = t.hp := ztl fun i => by
  rw [zs8]
  by_cases e : s = i
  ·rw [if_pos e, if_pos (e ▸ hs'), ← e, hv]
  ·rw [if_neg e]
 have s1 := zhy R (f := zd 0) (g := zd 1) (lo := [some (.ref (t.r + 9)), some (.int s), none, none]) (i := (s : Int)) rfl rfl (by lia) hs' (by rw [B.m]; lia)
 rw [show ((s : Int)).toNat = s from rfl, hvv] at s1
 have I0 : HI n t m v s t.hp t.pl := ⟨B.m, hs, by rw [hset], by rw [hset]; exact P⟩
 have rule := zdn (t := z9 .Gt (zd 1) (zh (.int 0))) (b := xc) (n := zjf)
  (fun k lo H1 => (∃ u, lo = hlo t k v u) ∧ ∃ h pl, Op t H { t with hp := h, pl := pl } H1 ∧ HI n t m v k h pl ∧ Up m (kf t (h.set k v)) k)
  (Q := fun lo H1 => ∃ k u, lo = hlo t k v u ∧ ∃ h pl, Op t H { t with hp := h, pl := pl } H1 ∧ HI n t m v k h pl ∧ Ord m (kf t (h.set k v))) (R := fun _ _ _ => False)
  (fun k lo H1 hI => by
   obtain ⟨⟨u, hlo'⟩, h, pl, O, I, U⟩ := hI
   subst hlo'
   refine ⟨decide (0 < (k : Int)), H1, wi (x := .int k) (y := .int 0) rfl rfl rfl, ?_⟩
   by_cases h0 : 0 < k
   ·rw [if_pos (decide_eq_true (by lia))]
    refine ⟨k - 1, by omega, ?_⟩
    have hks := I.hs
    have hp : (k - 1) / 2 < m := by omega
    have ne : k ≠ (k - 1) / 2 := by omega
    obtain ⟨p1, p2⟩ := I.at B hp ne
    obtain ⟨v1, v2⟩ := I.rv B
    obtain ⟨k1, k2⟩ := I.keys hp ne
    have hpl : (k - 1) / 2 < h.length := by rw [I.len]; exact hp
    have a1 : wo o.fdiv (wo o.sub (zd 1) (zh (.int 1))) (zh (.int 2)) (hlo t k v u) H1 = some (.int ((k - 1) / 2 : Nat), H1) := by
     rw [zbh (x := .int ((k : Int) - 1)) (y := .int 2) (vy (x := (k : Int)) (y := 1) rfl rfl) rfl]
     show some (MV.int (((k : Int) - 1).fdiv 2), H1) = _
     rw [half h0]
    have a2 := zhy O.rep (f := zd 0) (g := zd 3) (lo := hlo t k v (some (.int ((k - 1) / 2 : Nat)))) (i := ((k - 1) / 2 : Nat)) rfl rfl (by lia) hpl (by show h.length < 1000; rw [I.len]; lia)
    have a3 := (ul (F := wr) (f := zd 0) (g := zd 2) (lo := hlo t k v (some (.int ((k - 1) / 2 : Nat)))) rfl (O.rep.at' .hob _ rfl) rfl a2).trans
     (zfo O.rep (by show t.ac.length ≤ 100; rw [B.aclen]; lia) (by lia) (by show v.toNat < t.ac.length; rw [B.aclen]; omega) (by show 0 ≤ h.getD ((k - 1) / 2) 0; lia) (by show (h.getD ((k - 1) / 2) 0).toNat < t.ac.length; rw [B.aclen]; omega))
    have a4 := zet a3
    unfold xc
    rw [zj (wc a1 (by simp))]
    show zeh (zw _ _ (hlo t k v (some (.int ((k - 1) / 2 : Nat)))) H1) _ _ _
    by_cases lt : kf t h ((k - 1) / 2) < key t.ac v
    ·have a5 : (!decide (key t.ac (h.getD ((k - 1) / 2) 0) < key t.ac v)) = false := by rw [decide_eq_true (show key t.ac (h.getD ((k - 1) / 2) 0) < key t.ac v from lt)]; rfl
     rw [show ({ t with hp := h, pl := pl } : T).ac = t.ac from rfl, show ({ t with hp := h, pl := pl } : T).hp = h from rfl, show ((((k - 1) / 2 : Nat) : Int)).toNat = (k - 1) / 2 from rfl, a5] at a4
     rw [zj ((yw a4).trans rfl)]
     obtain ⟨H2, e2, O2⟩ := zjl (i := k) (v := h.getD ((k - 1) / 2) 0) O.rep (by show k < h.length; rw [I.len]; exact hks) (by lia) (by show _ < pl.length; rw [I.pl.len]; omega) (by show h.length < 1000; rw [I.len]; lia) (by show pl.length < 1000; rw [I.pl.len]; lia)
     rw [zj (qj ((ul (F := yp) (f := zd 0) (g := zd 1) rfl (O.rep.at' .hob _ rfl) rfl a2).trans e2)), zj (wc (i := 1) (v := .int ((k - 1) / 2 : Nat)) rfl (by simp))]
     refine ⟨(k - 1) / 2, by lia, ⟨_, rfl⟩, _, _, O.trans O2, I.move B hp ne, ?_⟩
     refine U.step rfl h0 hks ?_ ?_ ?_ fun i i1 i2 => ?_
     ·rw [k1, k1, if_neg (Ne.symm ne), if_pos rfl]; exact lt
     ·rw [k2, if_pos rfl, k1, if_neg (Ne.symm ne)]
     ·rw [k2, if_neg (Ne.symm ne), if_pos rfl, k1, if_pos rfl]
     ·rw [k2, k1, if_neg i1, if_neg i2, if_neg i1]
    ·have a5 : (!decide (key t.ac (h.getD ((k - 1) / 2) 0) < key t.ac v)) = true := by rw [decide_eq_false (show ¬ key t.ac (h.getD ((k - 1) / 2) 0) < key t.ac v from lt)]; rfl
     rw [show ({ t with hp := h, pl := pl } : T).ac = t.ac from rfl, show ({ t with hp := h, pl := pl } : T).hp = h from rfl, show ((((k - 1) / 2 : Nat) : Int)).toNat = (k - 1) / 2 from rfl, a5] at a4
     rw [zcl ((kr a4).trans (zcl rfl))]
     refine ⟨k, _, rfl, h, pl, O, I, U.ord (.inr ?_)⟩
     rw [k1, k1, if_pos rfl, if_neg (Ne.symm ne)]
     exact Int.not_lt.mp lt
   ·rw [if_neg (by simp; lia)]
    exact ⟨k, u, rfl, h, pl, O, I, U.ord (.inl (by lia))⟩)
  (k := s) (by show s < 200; lia) (lo := hlo t s v none) (H := H) ⟨⟨none, rfl⟩, t.hp, t.pl, Op.refl R, I0, by rw [hset]; exact U⟩
 refine zvt fun hq0 => ?_
 obtain ⟨lo, H1, e2, k, u, rfl, h, pl, O, I, K⟩ := rule.next
 obtain ⟨H', hp', pl', e3, O3, h3, h4⟩ := zkw R B O I K (k := 0) (u := u)
 refine hq0 ?_
 refine ⟨H', hp', pl', us rfl (lo' := hlo t k v u) ?_, O3, h3, h4⟩
 unfold xu
 show zw _ _ [some (.ref (t.r + 9)), some (.int s), none, none] H = _
 rw [zj (wc s1 (by simp))]
 show zw _ _ (hlo t s v none) H = _
 rw [zj e2]
 exact e3
end
end Mine
namespace Mine
section
variable {n m s p : Nat} {t : T} {v : Int} {h pl : List Int} {H : St}
noncomputable def Kids (t : T) (m s : Nat) (h : List Int) (r : Int) : Prop := (r = -1 ∧ ∀ i, 0 < i → i < m → (i - 1) / 2 ≠ s) ∨ ∃ c : Nat, r = c ∧ 0 < c ∧ c < m ∧ (c - 1) / 2 = s ∧ ∀ i, 0 < i → i < m → (i - 1) / 2 = s → kf t h i ≤ kf t h c
theorem zqc (R : Rep t H) (hm : t.hp.length = m) (hn : n ≤ 50) (ha : t.ac.length = n + 1) (hmn : m ≤ n) (hs : s < m) (hr : ∀ i, i < m → i ≠ s → 1 ≤ t.hp.getD i 0 ∧ t.hp.getD i 0 ≤ n) :
  ∃ r, yi [.ref (t.r + 9), .int s] H = some (.int r, H) ∧ Kids t m s t.hp r := by
 have a1 : wo o.add (wo o.mul (zh (.int 2)) (zd 1)) (zh (.int 1)) [some (.ref (t.r + 9)), some (.int s), none, none] H = some (.int ((2 * s + 1 : Nat) : Int), H) :=
  (jt (y := 1) (zdy (x := 2) (y := (s : Int)) rfl rfl (by decide)) rfl).trans (congrArg (fun z => some (MV.int z, H)) (by rfl))
 have hl : ∀ u w, z4 b.len [zp 0 3 (zd 0)] [some (.ref (t.r + 9)), some (.int s), u, w] H = some (.int (m : Int), H) := fun u w => by
  rw [← hm]; exact zgw R rfl (by lia)
 have c1 := wi (op := .GtE) (f := zd 2) (lo := [some (.ref (t.r + 9)), some (.int s), some (.int ((2 * s + 1 : Nat) : Int)), none]) (x := .int ((2 * s + 1 : Nat) : Int)) rfl (hl (some (.int ((2 * s + 1 : Nat) : Int))) none) (b := decide ((m : Int) ≤ ((2 * s + 1 : Nat) : Int))) rfl
 unfold yi
 by_cases h1 : m ≤ 2 * s + 1
 ·refine ⟨-1, y8 rfl (lo' := [some (.ref (t.r + 9)), some (.int s), some (.int ((2 * s + 1 : Nat) : Int)), none]) ?_, .inl ⟨rfl, fun i i0 im => by lia⟩⟩
  rw [decide_eq_true (by lia)] at c1
  unfold qn
  show zw _ _ [some (.ref (t.r + 9)), some (.int s), none, none] H = _
  rw [zj (wc a1 (by simp))]
  exact wq ((kr c1).trans (wq (qc rfl)))
 ·rw [decide_eq_false (by lia)] at c1
  have a2 : wo o.add (zd 2) (zh (.int 1)) [some (.ref (t.r + 9)), some (.int s), some (.int ((2 * s + 1 : Nat) : Int)), none] H = some (.int ((2 * s + 2 : Nat) : Int), H) := (jt (x := ((2 * s + 1 : Nat) : Int)) (y := 1) rfl rfl).trans (congrArg (fun z => some (MV.int z, H)) (by rfl))
  generalize hlo : ([some (.ref (t.r + 9)), some (.int s), some (.int ((2 * s + 1 : Nat) : Int)), some (.int ((2 * s + 2 : Nat) : Int))] : Lo) = lo
  have l0 : zd 0 lo H = some (.ref (t.r + 9), H) := jc (by rw [← hlo]; rfl)
  have l2 : zd 2 lo H = some (.int ((2 * s + 1 : Nat) : Int), H) := jc (by rw [← hlo]; rfl)
  have l3 : zd 3 lo H = some (.int ((2 * s + 2 : Nat) : Int), H) := jc (by rw [← hlo]; rfl)
  have hl' : z4 b.len [zp 0 3 (zd 0)] lo H = some (.int (m : Int), H) := by rw [← hlo]; exact hl _ _
  have c2 := wi (op := .Lt) l3 hl' (b := decide (((2 * s + 2 : Nat) : Int) < (m : Int))) rfl
  have pre : ∀ (r : Int), zw (yt (km (z9 .Lt (zd 3) (z4 b.len [(zp 0 3 (zd 0))])) (km (qd (z5 0 wr (zd 0) [(wd (zp 0 3 (zd 0)) (zd 3)), (wd (zp 0 3 (zd 0)) (zd 2))])) zg8)) (zw (qb (zd 3))
   z3) z3) (zw (qb (zd 2)) z3) lo H = some (.ret (.int r), lo, H) → jl 2 4 [] qn [.ref (t.r + 9), .int s] H = some (.int r, H) := fun r e => by
   refine y8 rfl (lo' := lo) ?_
   unfold qn
   show zw _ _ [some (.ref (t.r + 9)), some (.int s), none, none] H = _
   refine (zj (wc a1 (by simp))).trans ((zj ((yw c1).trans rfl)).trans ((zj (wc a2 (by simp))).trans ?_))
   show zw _ _ [some (.ref (t.r + 9)), some (.int s), some (.int ((2 * s + 1 : Nat) : Int)), some (.int ((2 * s + 2 : Nat) : Int))] H = _
   rw [hlo]; exact e
  have one : ∀ i, 0 < i → i < m → (i - 1) / 2 = s → i = 2 * s + 1 ∨ i = 2 * s + 2 := fun i i0 im e => by lia
  by_cases h2 : 2 * s + 2 < m
  ·rw [decide_eq_true (by omega)] at c2
   obtain ⟨q1, q2⟩ := hr (2 * s + 2) h2 (by lia)
   obtain ⟨q3, q4⟩ := hr (2 * s + 1) (by lia) (by lia)
   have b1 := (ul (F := wr) l0 (R.at' .hob _ rfl) (zhy R (f := zd 0) l0 l3 (by lia) (by rw [hm]; exact h2) (by lia)) (zhy R (f := zd 0) l0 l2 (by lia) (by rw [hm]; show 2 * s + 1 < m; lia) (by lia))).trans
    (zfo R (by lia) (by show 0 ≤ t.hp.getD (2 * s + 2) 0; lia) (by show (t.hp.getD (2 * s + 2) 0).toNat < _; rw [ha]; lia) (by show 0 ≤ t.hp.getD (2 * s + 1) 0; lia) (by show (t.hp.getD (2 * s + 1) 0).toNat < _; rw [ha]; lia))
   have b2 := (vo (g := km (qd (z5 0 wr (zd 0) [(wd (zp 0 3 (zd 0)) (zd 3)), (wd (zp 0 3 (zd 0)) (zd 2))])) zg8) c2)
   by_cases h3 : kf t t.hp (2 * s + 1) < kf t t.hp (2 * s + 2)
   ·have e : decide (key t.ac (t.hp.getD (2 * s + 1) 0) < key t.ac (t.hp.getD (2 * s + 2) 0)) = true := decide_eq_true h3
    refine ⟨_, pre _ (wq ((kr (b2.trans ((vo ((uj b1).trans (congrArg (fun b => some (b, H)) e))).trans rfl))).trans (wq (qc l3)))), .inr ⟨2 * s + 2, rfl, by lia, h2, by lia, fun i i0 im e => ?_⟩⟩
    rcases one i i0 im e with rfl | rfl <;> lia
   ·have e : decide (key t.ac (t.hp.getD (2 * s + 1) 0) < key t.ac (t.hp.getD (2 * s + 2) 0)) = false := decide_eq_false h3
    refine ⟨_, pre _ ((zj ((yw (b2.trans (x4 ((uj b1).trans (congrArg (fun b => some (b, H)) e))))).trans rfl)).trans (wq (qc l2))), .inr ⟨2 * s + 1, rfl, by lia, by lia, by lia, fun i i0 im e => ?_⟩⟩
    rcases one i i0 im e with rfl | rfl <;> lia
  ·rw [decide_eq_false (by lia)] at c2
   refine ⟨_, pre _ ((zj ((yw (x4 c2)).trans rfl)).trans (wq (qc l2))), .inr ⟨2 * s + 1, rfl, by lia, by lia, by lia, fun i i0 im e => ?_⟩⟩
   rcases one i i0 im e with rfl | rfl
   ·lia
   ·lia
theorem zrc (R : Rep t H) (B : HB n t m) (hs : s < m) (P : znl n t.hp t.pl s) (U : zpb m (kf t t.hp) s) :
  ∃ H' hp' pl', jr [.ref (t.r + 9), .int s] H = some (.none, H') ∧ Op t H { t with hp := hp', pl := pl' } H' ∧ HOk n t.ac hp' pl' ∧ hp'.Perm t.hp := by
 have hm := B.le
 have hn := B.n50
 have hs' : s < t.hp.length := by rw [B.m]; exact hs
 have hv := qi hs'
 generalize hvv : t.hp.getD s 0 = v at hv
 have hset : t.hp.set s v = t.hp := ztl fun i => by
  rw [zs8]
  by_cases e : s = i
  ·rw [if_pos e, if_pos (e ▸ hs'), ← e, hv]
  ·rw [if_neg e]
 have s1 := zhy R (f := zd 0) (g := zd 1) (lo := [some (.ref (t.r + 9)), some (.int s), none, none]) (i := (s : Int)) rfl rfl (by lia) hs' (by rw [B.m]; lia)
 rw [show ((s : Int)).toNat = s from rfl, hvv] at s1
 have I0 : HI n t m v s t.hp t.pl := ⟨B.m, hs, by rw [hset], by rw [hset]; exact P⟩
 have kid : ∀ {k : Nat} {h pl : List Int} {H1 : St}, Op t H { t with hp := h, pl := pl } H1 → HI n t m v k h pl → ∃ r, yi [.ref (t.r + 9), .int k] H1 = some (.int r, H1) ∧ Kids t m k h r := fun {k h pl H1} O I => by
  obtain ⟨r, e, K⟩ := zqc (n := n) (s := k) O.rep I.len hn B.aclen hm I.hs fun i im ne => I.at B im (Ne.symm ne)
  exact ⟨r, e, K⟩
 refine zvt fun hq0 => ?_
 obtain ⟨r0, e0, K0⟩ := kid (Op.refl R) I0
 have rule := zdn (t := km (z9 .GtE (zd 3) (zh (.int 0))) (km (qd (z5 0 wr (zd 0) [(wd (zp 0 3 (zd 0)) (zd 3)), (zd 2)])) zg8)) (b := xb) (n := zjf)
  (fun j lo H1 => ∃ k r, j = m - k ∧ lo = hlo t k v (some (.int r)) ∧ ∃ h pl, Op t H { t with hp := h, pl := pl } H1 ∧ HI n t m v k h pl ∧ zpb m (kf t (h.set k v)) k ∧ Kids t m k h r)
  (Q := fun lo H1 => ∃ k u, lo = hlo t k v u ∧ ∃ h pl, Op t H { t with hp := h, pl := pl } H1 ∧ HI n t m v k h pl ∧ Ord m (kf t (h.set k v))) (R := fun _ _ _ => False)
  (fun j lo H1 hI => by
   obtain ⟨k, r, hj, hlo', h, pl, O, I, U, Kd⟩ := hI
   subst hlo'
   have c1 := wi (op := .GtE) (f := zd 3) (g := zh (.int 0)) (lo := hlo t k v (some (.int r))) (H := H1) (x := .int r) (y := .int 0) (b := decide (0 ≤ r)) rfl rfl rfl
   rcases Kd with ⟨rfl, no⟩ | ⟨c, rfl, c0, cm, cs, best⟩
   ·exact ⟨false, H1, x4 c1, by rw [if_neg (by decide)]; exact ⟨k, _, rfl, h, pl, O, I, U.ord fun i i0 im e => absurd e (no i i0 im)⟩⟩
   ·have ne : k ≠ c := by omega
    obtain ⟨p1, p2⟩ := I.at B cm ne
    obtain ⟨v1, v2⟩ := I.rv B
    obtain ⟨k1, k2⟩ := I.keys cm ne
    have hcl : c < h.length := by rw [I.len]; exact cm
    have a2 := zhy O.rep (f := zd 0) (g := zd 3) (lo := hlo t k v (some (.int (c : Int)))) (i := (c : Int)) rfl rfl (by lia) hcl (by show h.length < 1000; rw [I.len]; lia)
    have a3 := (ul (F := wr) (f := zd 0) (h := zd 2) (lo := hlo t k v (some (.int (c : Int)))) rfl (O.rep.at' .hob _ rfl) a2 rfl).trans
     (zfo O.rep (by show t.ac.length ≤ 100; rw [B.aclen]; lia) (by show 0 ≤ h.getD c 0; lia) (by show (h.getD c 0).toNat < t.ac.length; rw [B.aclen]; omega) (by lia) (by show v.toNat < t.ac.length; rw [B.aclen]; omega))
    rw [decide_eq_true (by lia)] at c1
    have c2 := vo (g := km (qd (z5 0 wr (zd 0) [(wd (zp 0 3 (zd 0)) (zd 3)), (zd 2)])) zg8) c1
    by_cases lt : key t.ac v < kf t h c
    ·have e : decide (key t.ac v < key t.ac (h.getD c 0)) = true := decide_eq_true lt
     refine ⟨true, H1, c2.trans ((vo ((uj a3).trans (congrArg (fun b => some (b, H1)) e))).trans rfl), ?_⟩
     rw [if_pos rfl]
     refine ⟨m - k - 1, by have := I.hs; lia, ?_⟩
     obtain ⟨H2, e2, O2⟩ := zjl (i := k) (v := h.getD c 0) O.rep (by show k < h.length; rw [I.len]; exact I.hs) (by lia) (by show _ < pl.length; rw [I.pl.len]; omega) (by show h.length < 1000; rw [I.len]; lia) (by show pl.length < 1000; rw [I.pl.len]; lia)
     have I2 := I.move B cm ne
     obtain ⟨r', e3, K3⟩ := kid (O.trans O2) I2
     unfold xb
     rw [zj (qj ((ul (F := yp) (f := zd 0) (g := zd 1) rfl (O.rep.at' .hob _ rfl) rfl a2).trans e2)), zj (wc (i := 1) (v := .int (c : Int)) rfl (by simp))]
     show zeh (zw _ _ (hlo t c v (some (.int (c : Int)))) H2) _ _ _
     rw [zj (wc ((yu (F := yi) (f := zd 0) (g := zd 1) rfl ((O.trans O2).rep.at' .hob _ rfl) rfl).trans e3) (by simp))]
     refine ⟨m - c, by omega, c, r', rfl, rfl, _, _, O.trans O2, I2, ?_, K3⟩
     refine U.step cs c0 cm ?_ (fun i i0 im ie => ?_) ?_ ?_ fun i i1 i2 => ?_
     ·rw [k1, k1, if_pos rfl, if_neg (Ne.symm ne)]; exact lt
     ·rw [k1, k1, if_neg (by omega), if_neg (Ne.symm ne)]; exact best i i0 im ie
     ·rw [k2, if_pos rfl, k1, if_neg (Ne.symm ne)]
     ·rw [k2, if_neg (Ne.symm ne), if_pos rfl, k1, if_pos rfl]
     ·rw [k2, k1, if_neg i1, if_neg i2, if_neg i1]
    ·have e : decide (key t.ac v < key t.ac (h.getD c 0)) = false := decide_eq_false lt
     refine ⟨false, H1, c2.trans (x4 ((uj a3).trans (congrArg (fun b => some (b, H1)) e))), ?_⟩
     rw [if_neg (by decide)]
     refine ⟨k, _, rfl, h, pl, O, I, U.ord fun i i0 im ie => ?_⟩
     rw [k1, k1, if_pos rfl, if_neg (by omega)]
     exact zwd (best i i0 im ie) (Int.not_lt.mp lt))
  (k := m - s) (by show m - s < 200; lia) (lo := hlo t s v (some (.int r0))) (H := H) ⟨s, r0, rfl, rfl, t.hp, t.pl, Op.refl R, I0, by rw [hset]; exact U, K0⟩
 obtain ⟨lo, H1, e2, k, u, rfl, h, pl, O, I, K⟩ := rule.next
 obtain ⟨H', hp', pl', e3, O3, h3, h4⟩ := zkw R B O I K (k := 0) (u := u)
 refine hq0 ?_
 refine ⟨H', hp', pl', us rfl (lo' := hlo t k v u) ?_, O3, h3, h4⟩
 unfold xt
 show zw _ _ [some (.ref (t.r + 9)), some (.int s), none, none] H = _
 rw [zj (wc s1 (by simp))]
 show zw _ _ (hlo t s v none) H = _
 rw [zj (wc ((yu (F := yi) (f := zd 0) (g := zd 1) rfl (R.at' .hob _ rfl) rfl).trans e0) (by simp))]
 show zw _ _ (hlo t s v (some (.int r0))) H = _
 rw [zj e2]
 exact e3
end
end Mine
namespace Mine
section
variable {n m s p : Nat} {t : T} {v : Int} {h pl : List Int} {H : St}
theorem zex {op : CmpOp} {f g : DE} {lo : Lo} {H H1 H2 : St} {x y : MV} {b : Bool} (hf : f lo H = some (x, H1)) (hg : g lo H1 = some (y, H2)) (hc : Mine.cmp op x y H2 = some b) : zch op f g lo H = some (.bool b, H2) := by
 unfold zch zb2; rw [wi hf hg hc]; rfl
theorem HOk.hb (K : HOk n t.ac t.hp t.pl) : HB n t t.hp.length := ⟨K.aclen, K.n50, K.rng, K.nd, rfl⟩
theorem HOk.le (K : HOk n t.ac t.hp t.pl) : t.hp.length ≤ n := zdv K.rng K.nd
theorem ev_pl (R : Rep t H) (K : HOk n t.ac t.hp t.pl) {f g : DE} {lo : Lo} (hf : f lo H = some (.ref (t.r + 9), H)) (hg : g lo H = some (.int v, H)) (h0 : 1 ≤ v) (hv : v ≤ n) :
  wd (zp 0 4 f) g lo H = some (.int (t.pl.getD v.toNat 0), H) :=
 yo (R.hattr rfl hf rfl) hg (R.at' .pl _ rfl) (by lia) (qi (by rw [K.pllen]; lia)) (by rw [K.pllen]; have := K.n50; lia)
theorem zm9 (R : Rep t H) (K : HOk n t.ac t.hp t.pl) (h0 : 1 ≤ v) (hv : v ≤ n) : yh [.ref (t.r + 9), .int v] H = some (.bool (decide (v ∈ t.hp)), H) := by
 have e := ev_pl R K (f := zd 0) (g := zd 1) (lo := [some (.ref (t.r + 9)), some (.int v)]) rfl rfl h0 hv
 refine y8 rfl (lo' := [some (.ref (t.r + 9)), some (.int v)]) (wq (qc ((zex (op := .GtE) e (g := zh (.int 0)) (y := .int 0) rfl (b := decide (0 ≤ t.pl.getD v.toNat 0)) rfl).trans ?_)))
 congr 3
 rw [decide_eq_decide]
 by_cases hm : v ∈ t.hp
 ·obtain ⟨i, hi, e⟩ := zs6.mp hm
  have := K.on i v (by rw [zsv hi, e])
  rw [za0 this]
  exact ⟨fun _ => hm, fun _ => by lia⟩
 ·have := K.off v.toNat (by lia) (by lia) (by rw [show ((v.toNat : Nat) : Int) = v by lia]; exact hm)
  rw [za0 this]
  exact ⟨fun q => absurd q (by decide), fun q => absurd q hm⟩
theorem zmx (R : Rep t H) (K : HOk n t.ac t.hp t.pl) (h0 : 1 ≤ v) (hv : v ≤ n) :
  ∃ H' hp' pl', gn [.ref (t.r + 9), .int v] H = some (.none, H') ∧ Op t H { t with hp := hp', pl := pl' } H' ∧ HOk n t.ac hp' pl' ∧ ∀ w, w ∈ hp' ↔ w ∈ t.hp ∨ w = v := by
 have hl := K.le
 have hn := K.n50
 have hh := zm9 R K h0 hv
 have c1 := uj ((yu (F := yh) (f := zd 0) (g := zd 1) (lo := [some (.ref (t.r + 9)), some (.int v)]) rfl (R.at' .hob _ rfl) rfl).trans hh)
 by_cases hm : v ∈ t.hp
 ·rw [decide_eq_true hm] at c1
  refine ⟨H, t.hp, t.pl, ?_, Op.refl R, K, fun w => ⟨.inl, fun q => q.elim id fun e => e ▸ hm⟩⟩
  exact y8 rfl (lo' := [some (.ref (t.r + 9)), some (.int v)]) (wq ((kr c1).trans (wq rfl)))
 ·rw [decide_eq_false hm] at c1
  have s2 := qu (f := zp 0 3 (zd 0)) (g := zd 1) (lo := [some (.ref (t.r + 9)), some (.int v)]) (H := H) (v := .int v) (R.hattr rfl rfl rfl) rfl ⟨_, R.at' .hp _ rfl⟩ (R.at' .hp _ rfl) (by rw [zsk]; lia)
  rw [ky] at s2
  have O1 := zqx R (t.hp ++ [v])
  generalize H.set (t.r + 11) (il (t.hp ++ [v])) = H1 at s2 O1
  have hl2 : ∀ {t' : T} {H2 : St}, Rep t' H2 → t'.hp = t.hp ++ [v] → t'.r = t.r → wo o.sub (z4 b.len [(zp 0 3 (zd 0))]) (zh (.int 1)) [some (.ref (t.r + 9)), some (.int v)] H2 = some (.int (t.hp.length : Int), H2) := fun {t' H2} R' e er => by
   have := zgw R' (f := zd 0) (lo := [some (.ref (t.r + 9)), some (.int v)]) (by rw [er]; rfl) (by rw [e]; simp; lia)
   refine (vy this rfl).trans (congrArg (fun z => some (MV.int z, H2)) ?_)
   rw [e]; simp
  have s3 := ki (fa := zp 0 4 (zd 0)) (fi := zd 1) (hl2 O1.rep rfl rfl) (i := v) (O1.rep.hattr rfl rfl rfl) rfl (O1.rep.at' .pl _ rfl) (by lia) (by rw [zsk]; show _ < t.pl.length; rw [K.pllen]; lia) (by rw [zsk]; show t.pl.length < _; rw [K.pllen]; lia)
  rw [map_set] at s3
  have O2 := O1.trans (zo3 O1.rep (t.pl.set v.toNat t.hp.length))
  change zq _ _ _ H1 = some (.next, _, H1.set (t.r + 12) (il (t.pl.set v.toNat t.hp.length))) at s3
  generalize H1.set (t.r + 12) (il (t.pl.set v.toNat t.hp.length)) = H2 at s3 O2
  have gt : ∀ i, i < t.hp.length → (t.hp ++ [v]).getD i 0 = t.hp.getD i 0 := fun i hi => by
   rw [zsz, zst hi, zsz]
  have nd : (t.hp ++ [v]).Nodup := by
   rw [zte]
   exact ⟨K.nd, by simp, fun a ha b hb e => by simp at hb; exact hm (hb ▸ e ▸ ha)⟩
  obtain ⟨H3, hp3, pl3, e3, O3, K3, p3⟩ := zmu (t := { t with hp := t.hp ++ [v], pl := t.pl.set v.toNat t.hp.length }) (n := n) (m := t.hp.length + 1) (s := t.hp.length) O2.rep
   ⟨K.aclen, hn, fun w hw => (zs0.mp hw).elim (K.rng w) fun q => by simp at q; lia, nd, by simp⟩ (by lia)
   ⟨by rw [zsx]; exact K.pllen, fun i w ne hw => by
    have hi : i < t.hp.length := by
     have := (zsl.mp hw).1
     simp at this; lia
    rw [zst hi] at hw
    have rw' := K.rng w (zsm hw)
    have : w ≠ v := fun e => hm (e ▸ zsm hw)
    rw [zsn (by lia)]
    exact K.on i w hw, fun w w1 w2 hw => by
    have h1 : (w : Int) ∉ t.hp := fun q => hw (zta _ q)
    have h2 : (w : Int) ≠ v := fun q => hw (by rw [q]; simp)
    rw [zsn (by lia)]
    exact K.off w w1 w2 h1⟩
   ⟨fun i i0 im ne => by
    show key t.ac ((t.hp ++ [v]).getD i 0) ≤ key t.ac ((t.hp ++ [v]).getD ((i - 1) / 2) 0)
    rw [gt i (by lia), gt _ (by lia)]
    exact K.ord i i0 (by lia), fun i i0 im e s0 => by lia⟩
  refine ⟨H3, hp3, pl3, ?_, O2.trans O3, K3, fun w => ?_⟩
  ·refine us rfl (lo' := [some (.ref (t.r + 9)), some (.int v)]) ?_
   refine (zj ((yw c1).trans rfl)).trans ((zj s2).trans ((zj s3).trans ((zj (qj (v := .none) ?_)).trans rfl)))
   exact (yu (F := kn) rfl (O2.rep.at' .hob _ rfl) (hl2 O2.rep rfl rfl)).trans e3
  ·rw [p3.mem_iff]
   simp
theorem zqg (R : Rep t H) (K : HOk n t.ac t.hp t.pl) :
  ∃ b H' hp' pl', gf [.ref (t.r + 9)] H = some (.int b, H') ∧ Op t H { t with hp := hp', pl := pl' } H' ∧ HOk n t.ac hp' pl' ∧
   ((b = 0 ∧ t.hp = [] ∧ hp' = []) ∨ (b ∈ t.hp ∧ (∀ w ∈ t.hp, key t.ac w ≤ key t.ac b) ∧ (∀ w, w ∈ hp' ↔ w ∈ t.hp ∧ w ≠ b) ∧ hp'.length + 1 = t.hp.length)) := by
 have hl := K.le
 have hn := K.n50
 have c1 := wi (op := .Eq) (zgw R (f := zd 0) (lo := [some (.ref (t.r + 9)), none, none]) rfl (by lia)) (g := zh (.int 0)) (y := .int 0) rfl (b := (t.hp.length : Int) == 0) rfl
 by_cases he : t.hp = []
 ·refine ⟨0, H, t.hp, t.pl, ?_, Op.refl R, K, .inl ⟨rfl, he, he⟩⟩
  have : ((t.hp.length : Int) == 0) = true := by rw [he]; rfl
  rw [this] at c1
  exact y8 rfl (lo' := [some (.ref (t.r + 9)), none, none]) (wq ((kr c1).trans (wq (qc rfl))))
 ·have hpos : 0 < t.hp.length := zvg.mpr he
  have : ((t.hp.length : Int) == 0) = false := beq_eq_false_iff_ne.mpr (by lia)
  rw [this] at c1
  have s2 := zhy R (f := zd 0) (g := zh (.int 0)) (lo := [some (.ref (t.r + 9)), none, none]) (i := 0) rfl rfl (by decide) hpos (by lia)
  have gb := qi hpos
  change wd _ _ _ H = some (.int (t.hp.getD 0 0), H) at s2
  generalize hb : t.hp.getD 0 0 = bb at s2 gb
  have rb := K.rng bb (zsm gb)
  have gz := qi (l := t.hp) (i := t.hp.length - 1) (by omega)
  generalize hz : t.hp.getD (t.hp.length - 1) 0 = z at gz
  have rz := K.rng z (zsm gz)
  have top : ∀ w ∈ t.hp, key t.ac w ≤ key t.ac bb := fun w hw => by
   obtain ⟨i, hi, e⟩ := zs6.mp hw
   have := K.ord.top i hi
   rw [hb, za0 (x := w) (by rw [zsv hi, e])] at this
   exact this
  have s3 : yj m.pop (zp 0 3 (zd 0)) [] [some (.ref (t.r + 9)), some (.int bb), none] H = some (.int z, H.set (t.r + 11) (il (t.hp.take (t.hp.length - 1)))) := by
   unfold yj
   rw [R.hattr rfl rfl rfl]
   dsimp only [bnd]
   rw [if_pos (zdp (R.at' .hp _ rfl))]
   show y4 H[t.r + 11]? _ = _
   rw [R.at' .hp _ rfl]
   show (t.hp.map MV.int)[(t.hp.map MV.int).length - 1]?.bind _ = _
   rw [zsk, zhn gz]
   show (if small t.hp.length = true then some (MV.int z, H.set _ (.list ((t.hp.map MV.int).take (t.hp.length - 1)))) else none) = _
   rw [if_pos (zbx (by lia)), ← zt9]
  have O1 := zqx R (t.hp.take (t.hp.length - 1))
  generalize H.set (t.r + 11) (il (t.hp.take (t.hp.length - 1))) = H1 at s3 O1
  have s4 := ki (f := uf (zh (.int 1))) (v := .int (-1)) (fa := zp 0 4 (zd 0)) (fi := zd 1) (lo := [some (.ref (t.r + 9)), some (.int bb), some (.int z)]) (H := H1) rfl (i := bb) (O1.rep.hattr rfl rfl rfl) rfl (O1.rep.at' .pl _ rfl) (by lia) (by rw [zsk]; show _ < t.pl.length; rw [K.pllen]; lia) (by rw [zsk]; show t.pl.length < _; rw [K.pllen]; lia)
  rw [map_set] at s4
  have O2 := O1.trans (zo3 O1.rep (t.pl.set bb.toNat (-1)))
  change zq _ _ _ H1 = some (.next, _, H1.set (t.r + 12) (il (t.pl.set bb.toNat (-1)))) at s4
  generalize H1.set (t.r + 12) (il (t.pl.set bb.toNat (-1))) = H2 at s4 O2
  have tl : (t.hp.take (t.hp.length - 1)).length = t.hp.length - 1 := by rw [zti]; lia
  have c5 := wi (op := .Gt) (zgw O2.rep (f := zd 0) (lo := [some (.ref (t.r + 9)), some (.int bb), some (.int z)]) rfl (by show (t.hp.take (t.hp.length - 1)).length < 1000; omega)) (g := zh (.int 0)) (y := .int 0) rfl (b := decide ((0 : Int) < ((t.hp.take (t.hp.length - 1)).length : Int))) rfl
  rw [tl] at c5
  have pre : ∀ {H3 : St}, yt (z9 .Gt (z4 b.len [(zp 0 3 (zd 0))]) (zh (.int 0))) (zw (wh (z5 0 yp (zd 0) [(zh (.int 0)), (zd 2)]))
    (zw (wh (z5 0 jr (zd 0) [(zh (.int 0))])) z3)) z3 [some (.ref (t.r + 9)), some (.int bb), some (.int z)] H2 = some (.next, [some (.ref (t.r + 9)), some (.int bb), some (.int z)], H3) →
    gf [.ref (t.r + 9)] H = some (.int bb, H3) := fun {H3} e => by
   refine y8 rfl (lo' := [some (.ref (t.r + 9)), some (.int bb), some (.int z)]) ?_
   exact (zj ((yw c1).trans rfl)).trans ((zj (wc s2 (by simp))).trans ((zj (wc s3 (by simp))).trans ((zj s4).trans ((zj e).trans (wq (qc rfl))))))
  by_cases h1 : t.hp.length = 1
  ·rw [decide_eq_false (by lia)] at c5
   have hnil : t.hp.take (t.hp.length - 1) = [] := by rw [h1]; rfl
   refine ⟨bb, H2, t.hp.take (t.hp.length - 1), t.pl.set bb.toNat (-1), pre ((yw c5).trans rfl), O2, ?_, .inr ⟨zsm gb, top, fun w => ?_, by lia⟩⟩
   ·rw [hnil]
    refine ⟨K.aclen, by rw [zsx]; exact K.pllen, hn, (fun _ q => nomatch q), zty, fun i w q => (by simp at q), fun w w1 w2 _ => ?_, fun i i0 im => absurd im (by simp)⟩
    by_cases e : bb.toNat = w
    ·rw [e, zsy (by rw [K.pllen]; lia)]
    ·rw [zsn e]
     refine K.off w w1 w2 fun q => e ?_
     obtain ⟨i, hi, e2⟩ := zs6.mp q
     have : i = 0 := by lia
     subst this
     rw [zsv hi, e2] at gb
     have := zvu.inj gb
     rw [← this]; rfl
   ·rw [hnil]
    refine ⟨(fun q => nomatch q), fun ⟨q, ne⟩ => ?_⟩
    obtain ⟨i, hi, e2⟩ := zs6.mp q
    have : i = 0 := by lia
    subst this
    rw [zsv hi, e2] at gb
    exact absurd (zvu.inj gb) ne
  ·rw [decide_eq_true (by lia)] at c5
   have zb : z ≠ bb := fun e => by
    have := qm K.nd (e ▸ gz) gb
    lia
   generalize hT : t.hp.take (t.hp.length - 1) = tk at O2 tl
   have tkg : ∀ i, i < t.hp.length - 1 → tk[i]? = t.hp[i]? := fun i hi => by rw [← hT, ztz, if_pos hi]
   obtain ⟨H3, e3, O3⟩ := zjl (i := 0) (v := z) O2.rep (by show 0 < tk.length; lia) (by lia) (by show _ < (t.pl.set bb.toNat (-1)).length; rw [zsx, K.pllen]; lia) (by show tk.length < 1000; omega) (by show (t.pl.set bb.toNat (-1)).length < 1000; rw [zsx, K.pllen]; lia)
   have O23 := O2.trans O3
   have memT : ∀ w, w ∈ tk ↔ ∃ i, i < t.hp.length - 1 ∧ t.hp[i]? = some w := fun w => by
    rw [zvh]
    constructor
    ·rintro ⟨i, hi⟩
     have := (zsl.mp hi).1
     rw [tl] at this
     exact ⟨i, this, by rw [← tkg i this]; exact hi⟩
    ·rintro ⟨i, hi, e⟩
     exact ⟨i, by rw [tkg i hi]; exact e⟩
   have sg : ∀ i, (tk.set 0 z)[i]? = if i = 0 then some z else tk[i]? := fun i => by
    rw [zs8]
    by_cases e : i = 0
    ·subst e; rw [if_pos rfl, if_pos (by lia), if_pos rfl]
    ·rw [if_neg (Ne.symm e), if_neg e]
   have mem : ∀ w, w ∈ tk.set 0 z ↔ w ∈ t.hp ∧ w ≠ bb := fun w => by
    rw [zvh]
    constructor
    ·rintro ⟨i, hi⟩
     rw [sg] at hi
     by_cases e : i = 0
     ·rw [if_pos e] at hi; cases hi
      exact ⟨zsm gz, zb⟩
     ·rw [if_neg e] at hi
      have h2 := (zsl.mp hi).1
      rw [tkg i (by lia)] at hi
      exact ⟨zsm hi, fun q => e (qm K.nd (q ▸ hi) gb)⟩
    ·rintro ⟨hw, ne⟩
     obtain ⟨i, hi, e⟩ := zs6.mp hw
     have hi' : t.hp[i]? = some w := by rw [zsv hi, e]
     have i0 : i ≠ 0 := fun q => by rw [q, gb] at hi'; exact ne (zvu.inj hi').symm
     by_cases e2 : i = t.hp.length - 1
     ·rw [e2, gz] at hi'
      exact ⟨0, by rw [sg, if_pos rfl]; exact hi'⟩
     ·exact ⟨i, by rw [sg, if_neg i0, tkg i (by lia)]; exact hi'⟩
   have nd : (tk.set 0 z).Nodup := by
    refine zh7 (K.nd.sublist (hT ▸ zut _ _)) (fun q => ?_) 0
    obtain ⟨i, hi, e⟩ := (memT z).mp q
    have := qm K.nd e gz
    lia
   have kk : ∀ i, i < t.hp.length - 1 → i ≠ 0 → (tk.set 0 z).getD i 0 = t.hp.getD i 0 := fun i hi i0 => by
    rw [zki (by lia), if_neg i0, zsz, tkg i hi, zsz]
   obtain ⟨H4, hp4, pl4, e4, O4, K4, p4⟩ := zrc (t := { t with hp := tk.set 0 z, pl := (t.pl.set bb.toNat (-1)).set z.toNat (0 : Nat) }) (n := n) (m := t.hp.length - 1) (s := 0) O23.rep
    ⟨K.aclen, hn, fun w hw => K.rng w ((mem w).mp hw).1, nd, by rw [zsx]; exact tl⟩ (by lia)
    ⟨by rw [zsx, zsx]; exact K.pllen, fun i w i0 hw => by
     rw [sg, if_neg i0] at hw
     have h2 := (zsl.mp hw).1
     rw [tkg i (by lia)] at hw
     have rw' := K.rng w (zsm hw)
     have w1 : w ≠ z := fun q => by
      have := qm K.nd (q ▸ hw) gz
      lia
     have w2 : w ≠ bb := fun q => i0 (qm K.nd (q ▸ hw) gb)
     rw [zsn (by lia), zsn (by lia)]
     exact K.on i w hw, fun w w1 w2 hw => by
     have hw' := fun q => hw ((mem w).mpr q)
     have zz : (w : Int) ≠ z := fun q => hw' ⟨by rw [q]; exact zsm gz, by rw [q]; exact zb⟩
     rw [zsn (by lia)]
     by_cases e : bb.toNat = w
     ·rw [e, zsy (by rw [K.pllen]; lia)]
     ·rw [zsn e]
      exact K.off w w1 w2 fun q => hw' ⟨q, by lia⟩⟩
    ⟨fun i i0 im ne => by
     show key t.ac ((tk.set 0 z).getD i 0) ≤ key t.ac ((tk.set 0 z).getD ((i - 1) / 2) 0)
     rw [kk i im (by lia), kk _ (by lia) ne]
     exact K.ord i i0 (by lia), fun i i0 im e s0 => absurd s0 (by decide)⟩
   refine ⟨bb, H4, hp4, pl4, pre ?_, O23.trans O4, K4, .inr ⟨zsm gb, top, fun w => ?_, ?_⟩⟩
   ·refine (kr c5).trans ((zj (qj ((ul (F := yp) (g := zh (.int 0)) (v := .int ((0 : Nat) : Int)) rfl (O2.rep.at' .hob _ rfl) rfl rfl).trans e3))).trans ((zj (qj (v := .none) ?_)).trans rfl))
    exact (yu (F := jr) (g := zh (.int 0)) (v := .int ((0 : Nat) : Int)) rfl (O23.rep.at' .hob _ rfl) rfl).trans e4
   ·rw [p4.mem_iff]; exact mem w
   ·rw [p4.length_eq]; show (tk.set 0 z).length + 1 = _; rw [zsx]; lia
end
end Mine
namespace Mine
structure znn (as ac hp hp' : List Int) (b : Int) : Prop where
 best : (b = 0 ∧ ∀ w ∈ hp, as.getD w.toNat 0 ≠ 0) ∨ (b ∈ hp ∧ as.getD b.toNat 0 = 0 ∧ ∀ w ∈ hp, as.getD w.toNat 0 = 0 → key ac w ≤ key ac b)
 left : ∀ w, as.getD w.toNat 0 = 0 → (w ∈ hp' ↔ w ∈ hp ∧ w ≠ b)
 sub : ∀ w ∈ hp', w ∈ hp
section
variable {n m s p : Nat} {t : T} {v : Int} {h pl : List Int} {H : St}
structure PB (t : T) (b : Int) (h : List Int) : Prop where
 has : ∀ w ∈ t.hp, t.as.getD w.toNat 0 = 0 → w ∈ h ∨ w = b
 sub : ∀ w ∈ h, w ∈ t.hp
 out : b ∉ h
 top : (b = 0 ∧ h = []) ∨ (b ∈ t.hp ∧ ∀ w ∈ h, key t.ac w ≤ key t.ac b)
theorem za8 (R : Rep t H) (K : HOk n t.ac t.hp t.pl) (ha : t.as.length = n + 1) :
  ∃ b H' hp' pl', wp [.ref (t.r + 9), .ref (t.r + 1)] H = some (.int b, H') ∧ Op t H { t with hp := hp', pl := pl' } H' ∧ HOk n t.ac hp' pl' ∧ znn t.as t.ac t.hp hp' b := by
 have hn := K.n50
 have nz : ∀ {h pl : List Int}, HOk n t.ac h pl → (0 : Int) ∉ h := fun K q => by have := K.rng 0 q; omega
 refine zvt fun hq0 => ?_
 obtain ⟨b0, H0, h0, pl0, e0, O0, K0, p0⟩ := zqg R K
 have I0 : PB t b0 h0 := by
  rcases p0 with ⟨rfl, q1, q2⟩ | ⟨q1, q2, q3, q4⟩
  ·exact ⟨fun w hw => by rw [q1] at hw; (nomatch hw), fun w hw => by rw [q2] at hw; (nomatch hw), nz K0, .inl ⟨rfl, q2⟩⟩
  ·exact ⟨fun w hw _ => if e : w = b0 then .inr e else .inl ((q3 w).mpr ⟨hw, e⟩), fun w hw => ((q3 w).mp hw).1, fun q => ((q3 b0).mp q).2 rfl, .inr ⟨q1, fun w hw => q2 w ((q3 w).mp hw).1⟩⟩
 have rule := zdn (t := km (z9 .Gt (zd 2) (zh (.int 0))) (km (z9 .NotEq (wd (zd 1) (zd 2)) (zh (.int 0))) zg8)) (b := j6) (n := zjf)
  (fun k lo H1 => ∃ b h pl, lo = [some (.ref (t.r + 9)), some (.ref (t.r + 1)), some (.int b)] ∧ k = h.length + (if b = 0 then 0 else 1) ∧ Op t H { t with hp := h, pl := pl } H1 ∧ HOk n t.ac h pl ∧ PB t b h)
  (Q := fun lo H1 => ∃ b h pl, lo = [some (.ref (t.r + 9)), some (.ref (t.r + 1)), some (.int b)] ∧ Op t H { t with hp := h, pl := pl } H1 ∧ HOk n t.ac h pl ∧ PB t b h ∧ (b = 0 ∨ t.as.getD b.toNat 0 = 0)) (R := fun _ _ _ => False)
  (fun k lo H1 hI => by
   obtain ⟨b, h, pl, hlo, hk, O, K1, I⟩ := hI
   subst hlo
   have c1 := wi (op := .Gt) (f := zd 2) (g := zh (.int 0)) (lo := [some (.ref (t.r + 9)), some (.ref (t.r + 1)), some (.int b)]) (H := H1) (x := .int b) (y := .int 0) (b := decide (0 < b)) rfl rfl rfl
   rcases I.top with ⟨rfl, q⟩ | ⟨q1, q2⟩
   ·exact ⟨false, H1, x4 c1, by rw [if_neg (by decide)]; exact ⟨0, h, pl, rfl, O, K1, I, .inl rfl⟩⟩
   ·obtain ⟨r1, r2⟩ := K.rng b q1
    rw [decide_eq_true (by assumption)] at c1
    have e2 := yo (f := zd 1) (g := zd 2) (lo := [some (.ref (t.r + 9)), some (.ref (t.r + 1)), some (.int b)]) (H := H1) (a := t.r + 1) (i := b) rfl rfl (O.rep.at' .as _ rfl) (by lia) (qi (by show _ < t.as.length; omega)) (by show t.as.length < 1000; lia)
    have c2 := wi (op := .NotEq) e2 (g := zh (.int 0)) (y := .int 0) rfl (b := t.as.getD b.toNat 0 != 0) rfl
    have c3 := vo (g := km (z9 .NotEq (wd (zd 1) (zd 2)) (zh (.int 0))) zg8) c1
    by_cases hz : t.as.getD b.toNat 0 = 0
    ·have e : (t.as.getD b.toNat 0 != 0) = false := by rw [hz]; rfl
     rw [e] at c2
     exact ⟨false, H1, c3.trans (x4 c2), by rw [if_neg (by decide)]; exact ⟨b, h, pl, rfl, O, K1, I, .inr hz⟩⟩
    ·have e : (t.as.getD b.toNat 0 != 0) = true := bne_iff_ne.mpr hz
     rw [e] at c2
     refine ⟨true, H1, c3.trans ((vo c2).trans rfl), ?_⟩
     rw [if_pos rfl]
     refine ⟨h.length, by rw [hk, if_neg (by lia)], ?_⟩
     obtain ⟨b2, H2, h2, pl2, e2, O2, K2, p2⟩ := zqg O.rep K1
     have s1 := wc (i := 2) ((qf (F := gf) (f := zd 0) (lo := [some (.ref (t.r + 9)), some (.ref (t.r + 1)), some (.int b)]) rfl (O.rep.at' .hob _ rfl)).trans e2) (by simp)
     unfold j6
     rw [zj s1]
     have sb : ∀ w ∈ t.hp, t.as.getD w.toNat 0 = 0 → w ∈ h := fun w hw hz2 => (I.has w hw hz2).resolve_right fun e => hz (e ▸ hz2)
     rcases p2 with ⟨rfl, q3, q4⟩ | ⟨q3, q4, q5, q6⟩
     ·have q3' : h = [] := q3
      exact ⟨_, zwv _, 0, h2, pl2, rfl, by rw [q4]; rfl, O.trans O2, K2, fun w hw hz2 => by have := sb w hw hz2; rw [q3'] at this; (nomatch this), fun w hw => by rw [q4] at hw; (nomatch hw), nz K2, .inl ⟨rfl, q4⟩⟩
     ·have q6' : h2.length + 1 = h.length := q6
      have b20 : b2 ≠ 0 := fun e => nz K1 (e ▸ q3)
      exact ⟨_, Nat.le_of_eq q6', b2, h2, pl2, rfl, by rw [if_neg b20], O.trans O2, K2, fun w hw hz2 => if e : w = b2 then .inr e else .inl ((q5 w).mpr ⟨sb w hw hz2, e⟩), fun w hw => I.sub w ((q5 w).mp hw).1, fun q => ((q5 b2).mp q).2 rfl, .inr ⟨I.sub b2 q3, fun w hw => q4 w ((q5 w).mp hw).1⟩⟩)
  (k := h0.length + (if b0 = 0 then 0 else 1)) (by
   have h9 : h0.length ≤ n := zdv K0.rng K0.nd
   show h0.length + _ < 200
   split <;> lia) (lo := [some (.ref (t.r + 9)), some (.ref (t.r + 1)), some (.int b0)]) (H := H0) ⟨b0, h0, pl0, rfl, rfl, O0, K0, I0⟩
 obtain ⟨lo, H1, e2, b, h, pl, rfl, O, K1, I, hb⟩ := rule.next
 refine hq0 ?_
 refine ⟨b, H1, h, pl, y8 rfl (lo' := [some (.ref (t.r + 9)), some (.ref (t.r + 1)), some (.int b)]) ?_, O, K1, ?_, fun w hz => ⟨fun q => ⟨I.sub w q, fun e => I.out (e ▸ q)⟩, fun ⟨q, ne⟩ => (I.has w q hz).resolve_right ne⟩, I.sub⟩
 ·exact (zj (wc ((qf (F := gf) (f := zd 0) (lo := [some (.ref (t.r + 9)), some (.ref (t.r + 1)), none]) rfl (R.at' .hob _ rfl)).trans e0) (by simp))).trans ((zj e2).trans (wq (qc rfl)))
 ·rcases I.top with ⟨rfl, q⟩ | ⟨q1, q2⟩
  ·refine .inl ⟨rfl, fun w hw hz => ?_⟩
   rcases I.has w hw hz with q3 | q3
   ·rw [q] at q3; (nomatch q3)
   ·have := K.rng w hw; lia
  ·have r := K.rng b q1
   refine .inr ⟨q1, hb.resolve_left (by lia), fun w hw hz => ?_⟩
   rcases I.has w hw hz with q3 | q3
   ·exact q2 w q3
   ·rw [q3]; exact zv7 _
theorem zng (R : Rep t H) (K : HOk n t.ac t.hp t.pl) (h0 : 1 ≤ v) (hv : v ≤ n) (hb : t.ac.getD v.toNat 0 ≤ 1000000) :
  ∃ H' hp' pl', ql [.ref (t.r + 9), .int v] H = some (.none, H') ∧ Op t H { t with ac := t.ac.set v.toNat (t.ac.getD v.toNat 0 + 1024), hp := hp', pl := pl' } H' ∧ HOk n (t.ac.set v.toNat (t.ac.getD v.toNat 0 + 1024)) hp' pl' ∧ ∀ w, w ∈ hp' ↔ w ∈ t.hp := by
 have hn := K.n50
 have hvl : v.toNat < t.ac.length := by rw [K.aclen]; lia
 have a1 := zo6 R (f := zd 0) (g := zd 1) (lo := [some (.ref (t.r + 9)), some (.int v)]) rfl rfl (by lia) hvl (by rw [K.aclen]; lia)
 have a2 : zp 0 1 (zd 0) [some (.ref (t.r + 9)), some (.int v)] H = some (.int 1024, H) := R.hattr rfl rfl rfl
 have s1 := ki (jt a1 a2) (fa := zp 0 2 (zd 0)) (fi := zd 1) (i := v) (R.hattr rfl rfl rfl) rfl (R.at' .ac _ rfl) (by lia) (by rw [zsk]; exact hvl) (by rw [zsk, K.aclen]; lia)
 rw [map_set] at s1
 have O1 := op_ac R (t.ac.set v.toNat (t.ac.getD v.toNat 0 + 1024))
 generalize H.set (t.r + 10) (il (t.ac.set v.toNat (t.ac.getD v.toNat 0 + 1024))) = H1 at s1 O1
 have vg : (t.ac.set v.toNat (t.ac.getD v.toNat 0 + 1024)).getD v.toNat 0 = t.ac.getD v.toNat 0 + 1024 := za0 (zsy hvl)
 have a3 := zo6 O1.rep (f := zd 0) (g := zd 1) (lo := [some (.ref (t.r + 9)), some (.int v)]) (v := v) rfl rfl (by lia) (by show _ < (t.ac.set _ _).length; rw [zsx]; exact hvl) (by show (t.ac.set _ _).length < _; rw [zsx, K.aclen]; lia)
 have c1 := wi (op := .Gt) a3 (O1.rep.hattr (k := 0) (f := zd 0) rfl rfl rfl : zp 0 0 (zd 0) _ H1 = some (.int 1000000000000, H1)) (b := decide ((1000000000000 : Int) < (t.ac.set v.toNat (t.ac.getD v.toNat 0 + 1024)).getD v.toNat 0)) rfl
 rw [vg, decide_eq_false (by lia)] at c1
 have key' : ∀ w : Int, 1 ≤ w → (w = v → key (t.ac.set v.toNat (t.ac.getD v.toNat 0 + 1024)) w = key t.ac w + 1024000) ∧ (w ≠ v → key (t.ac.set v.toNat (t.ac.getD v.toNat 0 + 1024)) w = key t.ac w) := fun w w1 => by
  unfold key
  refine ⟨fun e => ?_, fun ne => ?_⟩
  ·rw [e, vg]; lia
  ·rw [zsz, zsn (by lia), ← zsz]
 have K1 : HOk n t.ac t.hp t.pl := K
 have hh : yh [.ref (t.r + 9), .int v] H1 = some (.bool (decide (v ∈ t.hp)), H1) := by
  have e := yo (f := zp 0 4 (zd 0)) (g := zd 1) (lo := [some (.ref (t.r + 9)), some (.int v)]) (H := H1) (a := t.r + 12) (i := v) (O1.rep.hattr rfl rfl rfl) rfl (O1.rep.at' .pl _ rfl) (by lia) (qi (by show _ < t.pl.length; rw [K.pllen]; lia)) (by show t.pl.length < 1000; rw [K.pllen]; lia)
  have e0 := ev_pl R K (f := zd 0) (g := zd 1) (lo := [some (.ref (t.r + 9)), some (.int v)]) rfl rfl h0 hv
  refine y8 rfl (lo' := [some (.ref (t.r + 9)), some (.int v)]) (wq (qc ((zex (op := .GtE) e (g := zh (.int 0)) (y := .int 0) rfl (b := decide (0 ≤ t.pl.getD v.toNat 0)) rfl).trans ?_)))
  congr 3
  rw [decide_eq_decide]
  by_cases hm : v ∈ t.hp
  ·obtain ⟨i, hi, e⟩ := zs6.mp hm
   have := K.on i v (by rw [zsv hi, e])
   rw [za0 this]
   exact ⟨fun _ => hm, fun _ => by lia⟩
  ·have := K.off v.toNat (by lia) (by lia) (by rw [show ((v.toNat : Nat) : Int) = v by lia]; exact hm)
   rw [za0 this]
   exact ⟨fun q => absurd q (by decide), fun q => absurd q hm⟩
 have c2 := uj ((yu (F := yh) (f := zd 0) (g := zd 1) (lo := [some (.ref (t.r + 9)), some (.int v)]) rfl (O1.rep.at' .hob _ rfl) rfl).trans hh)
 have pre : ∀ {H2 : St}, yt (qd (z5 0 yh (zd 0) [(zd 1)])) (zw (wh (z5 0 kn (zd 0) [(wd (zp 0 4 (zd 0)) (zd 1))])) z3) z3 [some (.ref (t.r + 9)), some (.int v)] H1 = some (.next, [some (.ref (t.r + 9)), some (.int v)], H2) →
   ql [.ref (t.r + 9), .int v] H = some (.none, H2) := fun {H2} e =>
  us rfl (lo' := [some (.ref (t.r + 9)), some (.int v)]) ((zj s1).trans ((zj ((yw c1).trans ((zj e).trans rfl))).trans rfl))
 have kl : ∀ i, i < t.hp.length → 1 ≤ t.hp.getD i 0 := fun i hi => (K.rng _ (zsm (qi hi))).1
 by_cases hm : v ∈ t.hp
 ·rw [decide_eq_true hm] at c2
  obtain ⟨s, hs, es⟩ := zs6.mp hm
  have gs : t.hp[s]? = some v := by rw [zsv hs, es]
  have ps := K.on s v gs
  have e3 := yo (f := zp 0 4 (zd 0)) (g := zd 1) (lo := [some (.ref (t.r + 9)), some (.int v)]) (H := H1) (a := t.r + 12) (i := v) (O1.rep.hattr rfl rfl rfl) rfl (O1.rep.at' .pl _ rfl) (by lia) ps (by show t.pl.length < 1000; rw [K.pllen]; lia)
  have same : ∀ i, i < t.hp.length → i ≠ s → t.hp.getD i 0 ≠ v := fun i hi ne e => ne (qm K.nd (e ▸ qi hi) gs)
  obtain ⟨H2, hp2, pl2, e4, O2, K2, p2⟩ := zmu (t := { t with ac := t.ac.set v.toNat (t.ac.getD v.toNat 0 + 1024) }) (n := n) (m := t.hp.length) (s := s) O1.rep ⟨by show (t.ac.set _ _).length = _; rw [zsx]; exact K.aclen, hn, K.rng, K.nd, rfl⟩ hs
   ⟨K.pllen, fun i w _ hw => K.on i w hw, K.off⟩ ⟨fun i i0 im ne => by
    show key (t.ac.set v.toNat (t.ac.getD v.toNat 0 + 1024)) (t.hp.getD i 0) ≤ key (t.ac.set v.toNat (t.ac.getD v.toNat 0 + 1024)) (t.hp.getD ((i - 1) / 2) 0)
    have h1 : key t.ac (t.hp.getD i 0) ≤ key t.ac (t.hp.getD ((i - 1) / 2) 0) := K.ord i i0 im
    rw [(key' _ (kl i im)).2 (same i im ne)]
    by_cases e : t.hp.getD ((i - 1) / 2) 0 = v
    ·rw [(key' _ (kl _ (by lia))).1 e]; lia
    ·rw [(key' _ (kl _ (by lia))).2 e]; exact h1, fun i i0 im e s0 => by
    show key (t.ac.set v.toNat (t.ac.getD v.toNat 0 + 1024)) (t.hp.getD i 0) ≤ key (t.ac.set v.toNat (t.ac.getD v.toNat 0 + 1024)) (t.hp.getD ((s - 1) / 2) 0)
    have h1 : key t.ac (t.hp.getD i 0) ≤ key t.ac (t.hp.getD ((i - 1) / 2) 0) := K.ord i i0 im
    have h2 : key t.ac (t.hp.getD s 0) ≤ key t.ac (t.hp.getD ((s - 1) / 2) 0) := K.ord s s0 hs
    rw [e] at h1
    rw [(key' _ (kl i im)).2 (same i im (by lia)), (key' _ (kl _ (by lia))).2 (same _ (by lia) (by lia))]
    lia⟩
  exact ⟨H2, hp2, pl2, pre ((kr c2).trans ((zj (qj (v := .none) ((yu (F := kn) (f := zd 0) rfl (O1.rep.at' .hob _ rfl) e3).trans e4))).trans rfl)), O1.trans O2, K2, fun w => p2.mem_iff⟩
 ·rw [decide_eq_false hm] at c2
  refine ⟨H1, t.hp, t.pl, pre ((yw c2).trans rfl), O1, ⟨by rw [zsx]; exact K.aclen, K.pllen, hn, K.rng, K.nd, K.on, K.off, fun i i0 im => ?_⟩, fun w => Iff.rfl⟩
  have ne : ∀ i, i < t.hp.length → t.hp.getD i 0 ≠ v := fun i hi e => hm (e ▸ zsm (qi hi))
  show key (t.ac.set v.toNat (t.ac.getD v.toNat 0 + 1024)) (t.hp.getD i 0) ≤ key (t.ac.set v.toNat (t.ac.getD v.toNat 0 + 1024)) (t.hp.getD ((i - 1) / 2) 0)
  rw [(key' _ (kl i im)).2 (ne i im), (key' _ (kl _ (by lia))).2 (ne _ (by lia))]
  exact K.ord i i0 im
end
end Mine
namespace Mine
noncomputable abbrev Ls := List (Option (List Int))
noncomputable def WL (ls : Ls) (P Q : List Int) : Prop := ∀ (j : Nat) x y rest, ls[j]? = some (some (x :: y :: rest)) → (-x ∈ P → y ∈ Q) ∧ (-y ∈ P → x ∈ Q)
noncomputable def Wat (ls : Ls) (x l : Int) : Prop := ∃ j : Nat, x = j ∧ ∃ a b rest, ls[j]? = some (some (a :: b :: rest)) ∧ (a = l ∨ b = l)
noncomputable def zmg (lots : List (List Int)) (S : Int → Prop) : Prop := ∀ c ∈ lots, ∀ l ∈ c, (∀ l' ∈ c, l' ≠ l → S (-l')) → S l
theorem ug {L : Ls} {k : Nat} {c c' : List Int} (h : L[k]? = some (some c)) (j : Nat) : (L.set k (some c'))[j]? = if k = j then some (some c') else L[j]? := by
 rw [zs8]
 by_cases e : k = j
 ·rw [if_pos e, if_pos e, if_pos (e ▸ (zsl.mp h).1)]
 ·rw [if_neg e, if_neg e]
theorem WL.set {L : Ls} {k : Nat} {c : List Int} {P Q : List Int} (W : WL L P Q) (h : L[k]? = some (some c)) {u v : Int} {rest : List Int} (n1 : -u ∈ P → v ∈ Q) (n2 : -v ∈ P → u ∈ Q) : WL (L.set k (some (u :: v :: rest))) P Q := fun j x y r e => by
 rw [ug h] at e
 by_cases q : k = j
 ·rw [if_pos q] at e; cases e; exact ⟨n1, n2⟩
 ·rw [if_neg q] at e; exact W j x y r e
theorem WL.more {L : Ls} {P Q : List Int} (W : WL L P Q) (o : Int) : WL L P (Q ++ [o]) := fun j x y r e => ⟨fun q => zta _ ((W j x y r e).1 q), fun q => zta _ ((W j x y r e).2 q)⟩
theorem Wat.set {L : Ls} {k : Nat} {c : List Int} (h : L[k]? = some (some c)) {u v y l : Int} {rest : List Int} : Wat (L.set k (some (u :: v :: rest))) y l ↔ (y = k ∧ (u = l ∨ v = l)) ∨ (y ≠ k ∧ Wat L y l) := by
 constructor
 ·rintro ⟨j, rfl, a, b, r, e, hl⟩
  rw [ug h] at e
  by_cases q : k = j
  ·rw [if_pos q] at e; cases e; exact .inl ⟨by lia, hl⟩
  ·rw [if_neg q] at e; exact .inr ⟨by lia, j, rfl, a, b, r, e, hl⟩
 ·rintro (⟨rfl, hl⟩ | ⟨ne, j, rfl, a, b, r, e, hl⟩)
  ·exact ⟨k, rfl, u, v, rest, by rw [ug h, if_pos rfl], hl⟩
  ·exact ⟨j, rfl, a, b, r, by rw [ug h, if_neg (by lia)]; exact e, hl⟩
theorem zfv {p : Int → Bool} {g : Int} : ∀ {l : List Int}, q0 p g l = none → ∀ y ∈ l, p y = false
 | [], _, _, h => nomatch h
 | a :: r, h, y, hy => by
  simp only [q0] at h
  split at h
  ·cases h
  ·rename_i hp
   rcases zss.mp hy with rfl | hy
   ·simpa using hp
   ·exact zfv (Option.map_eq_none_iff.mp h) y hy
structure VI (n : Nat) (lots : List (List Int)) (gone : Int) (t : T) (h0 : Nat) (s : LS) (todo : List Int) : Prop where
 ones : s.ones = t.tr ++ s.forced.map (·.1)
 perm : ∀ (j : Nat) c, s.lists[j]? = some (some c) → ∃ c0, lots[j]? = some c0 ∧ c.Perm c0
 wl : WL s.lists (t.tr.take h0) s.ones
 cut : ∀ q, q ≤ h0 → WL t.init.lists (t.tr.take q) (t.tr.take q) → WL s.lists (t.tr.take q) (t.tr.take q)
 dn : s.told = -1 → ∀ (j : Nat) x y rest, s.lists[j]? = some (some (x :: y :: rest)) → (j : Int) ∉ todo → (x = gone → y ∈ s.ones) ∧ (y = gone → x ∈ s.ones)
 conf : s.told ≠ -1 → ∃ c, s.lists[s.told.toNat]? = some (some c) ∧ ∀ l ∈ c, -l ∈ s.ones
 rs : ∀ (i : Nat) p, s.forced[i]? = some p → ∃ j : Nat, p.2 = j ∧ ∃ c, s.lists[j]? = some (some c) ∧ ∀ l ∈ c, l = p.1 ∨ -l ∈ t.tr ++ (s.forced.take i).map (·.1)
 sem : ∀ S, zmg lots S → (∀ l ∈ t.tr, S l) → ∀ l ∈ s.ones, S l
 wat : ∀ l : Int, 1 ≤ l.natAbs → l.natAbs ≤ n → l ≠ gone → ∃ b ns, (s.goes.foldl zcq t.W)[(plc l).toNat]? = some (b, ns) ∧ ns.Nodup ∧ ∀ x, x ∈ ns ↔ Wat s.lists x l
 nd : (s.stays ++ todo).Nodup
 own : ∀ x, x ∈ s.stays ++ todo ↔ Wat s.lists x gone
section
variable {n h0 : Nat} {lots : List (List Int)} {gone : Int} {t : T} {s : LS} {todo : List Int} {x oth o : Int} {rest rest' : List Int}
theorem xz {l : List Int} {x : Int} {r : List Int} : (l ++ [x]) ++ r = l ++ x :: r := by rw [zs7]; rfl
theorem VI.swap (V : VI n lots gone t h0 s (x :: todo)) {a b : Int} (hc : s.lists[x.toNat]? = some (some (a :: b :: rest))) (hx : 0 ≤ x) (hab : a = gone ∨ b = gone) :
  VI n lots gone t h0 { s with lists := s.lists.set x.toNat (some ((if b = gone then a else b) :: gone :: rest)) } (x :: todo) := by
 have hp := zec (rest := rest) hab
 have two : ∀ {P Q : List Int}, WL s.lists P Q → (-(if b = gone then a else b) ∈ P → gone ∈ Q) ∧ (-gone ∈ P → (if b = gone then a else b) ∈ Q) := fun {P Q} W => by
  obtain ⟨h1, h2⟩ := W _ _ _ _ hc
  by_cases q : b = gone
  ·subst q; rw [if_pos rfl]; exact ⟨h1, h2⟩
  ·have q' := hab.resolve_right q
   subst q'; rw [if_neg q]; exact ⟨h2, h1⟩
 have wt : ∀ y l, Wat (s.lists.set x.toNat (some ((if b = gone then a else b) :: gone :: rest))) y l ↔ Wat s.lists y l := fun y l => by
  rw [Wat.set hc]
  constructor
  ·rintro (⟨e, q⟩ | ⟨_, q⟩)
   ·refine ⟨x.toNat, e, a, b, rest, hc, ?_⟩
    by_cases q2 : b = gone
    ·subst q2; rw [if_pos rfl] at q; exact q
    ·have q' := hab.resolve_right q2
     subst q'; rw [if_neg q2] at q; exact q.symm
   ·exact q
  ·intro q
   by_cases e : y = x.toNat
   ·refine .inl ⟨e, ?_⟩
    obtain ⟨j, rfl, a', b', r', e', hl⟩ := q
    have : j = x.toNat := by lia
    subst this
    rw [hc] at e'; cases e'
    by_cases q2 : b = gone
    ·subst q2; rw [if_pos rfl]; exact hl
    ·have q' := hab.resolve_right q2
     subst q'; rw [if_neg q2]; exact hl.symm
   ·exact .inr ⟨e, q⟩
 generalize (if b = gone then a else b) = oth at hp two wt ⊢
 refine ⟨V.ones, fun j c h => ?_, V.wl.set hc (two V.wl).1 (two V.wl).2, fun q hq W => (V.cut q hq W).set hc (two (V.cut q hq W)).1 (two (V.cut q hq W)).2, fun ht j u v r h hj => ?_, fun ht => ?_, fun i p hp' => ?_, V.sem, fun l h1 h2 h3 => ?_, V.nd, fun y => (V.own y).trans (wt y gone).symm⟩
 ·dsimp only at h
  rw [ug hc] at h
  by_cases e : x.toNat = j
  ·rw [if_pos e] at h; cases h
   subst e
   obtain ⟨c0, e0, p0⟩ := V.perm _ _ hc
   exact ⟨c0, e0, hp.trans p0⟩
  ·rw [if_neg e] at h; exact V.perm j c h
 ·dsimp only at h
  rw [ug hc] at h
  have e : x.toNat ≠ j := fun e => hj (by rw [← e, zv8 hx]; exact .head _)
  rw [if_neg e] at h
  exact V.dn ht j u v r h hj
 ·obtain ⟨c, h1, h2⟩ := V.conf ht
  dsimp only
  rw [ug hc]
  by_cases e : x.toNat = s.told.toNat
  ·rw [← e, hc] at h1; cases h1
   exact ⟨_, if_pos e, fun l hl => h2 l (hp.mem_iff.mp hl)⟩
  ·exact ⟨c, by rw [if_neg e]; exact h1, h2⟩
 ·obtain ⟨j, e1, c, h1, h2⟩ := V.rs i p hp'
  refine ⟨j, e1, ?_⟩
  dsimp only
  rw [ug hc]
  by_cases e : x.toNat = j
  ·rw [← e, hc] at h1; cases h1
   exact ⟨_, if_pos e, fun l hl => h2 l (hp.mem_iff.mp hl)⟩
  ·exact ⟨c, by rw [if_neg e]; exact h1, h2⟩
 ·obtain ⟨b1, ns, e, nd, hx⟩ := V.wat l h1 h2 h3
  exact ⟨b1, ns, e, nd, fun y => (hx y).trans (wt y l).symm⟩
theorem VI.pass_dn (V : VI n lots gone t h0 s (x :: todo)) (hx : 0 ≤ x) (ht : s.told = -1) (hc : s.lists[x.toNat]? = some (some (oth :: gone :: rest))) (hne : oth ≠ gone) {os : List Int} (ho : ∀ l ∈ s.ones, l ∈ os) (hm : oth ∈ os) :
  ∀ (j : Nat) u v r, s.lists[j]? = some (some (u :: v :: r)) → (j : Int) ∉ todo → (u = gone → v ∈ os) ∧ (v = gone → u ∈ os) := fun j u v r h hj => by
 by_cases e : x.toNat = j
 ·subst e
  rw [hc] at h; cases h
  exact ⟨fun q => absurd q hne, fun _ => hm⟩
 ·obtain ⟨h1, h2⟩ := V.dn ht j u v r h fun q => by
   rcases zss.mp q with q | q
   ·lia
   ·exact hj q
  exact ⟨fun q => ho _ (h1 q), fun q => ho _ (h2 q)⟩
theorem VI.keep (V : VI n lots gone t h0 s (x :: todo)) (hx : 0 ≤ x) (ht : s.told = -1) (hc : s.lists[x.toNat]? = some (some (oth :: gone :: rest))) (hne : oth ≠ gone) (hm : oth ∈ s.ones) : VI n lots gone t h0 { s with stays := s.stays ++ [x] } todo :=
 ⟨V.ones, V.perm, V.wl, V.cut, fun _ => V.pass_dn hx ht hc hne (fun _ h => h) hm, V.conf, V.rs, V.sem, V.wat, by show ((s.stays ++ [x]) ++ todo).Nodup; rw [xz]; exact V.nd, fun y => by show y ∈ (s.stays ++ [x]) ++ todo ↔ _; rw [xz]; exact V.own y⟩
theorem VI.tell (V : VI n lots gone t h0 s (x :: todo)) (ht : s.told ≠ -1) : VI n lots gone t h0 { s with stays := s.stays ++ [x] } todo :=
 ⟨V.ones, V.perm, V.wl, V.cut, fun q => absurd q ht, V.conf, V.rs, V.sem, V.wat, by show ((s.stays ++ [x]) ++ todo).Nodup; rw [xz]; exact V.nd, fun y => by show y ∈ (s.stays ++ [x]) ++ todo ↔ _; rw [xz]; exact V.own y⟩
theorem VI.clash (V : VI n lots gone t h0 s (x :: todo)) (hx : 0 ≤ x) (hc : s.lists[x.toNat]? = some (some (oth :: gone :: rest))) (hg : -gone ∈ s.ones) (ho : -oth ∈ s.ones) (hr : ∀ l ∈ rest, -l ∈ s.ones) : VI n lots gone t h0 { s with stays := s.stays ++ [x], told := x } todo := by
 refine ⟨V.ones, V.perm, V.wl, V.cut, fun q => absurd (show x = -1 from q) (by lia), fun _ => ⟨_, hc, fun l hl => ?_⟩, V.rs, V.sem, V.wat, by show ((s.stays ++ [x]) ++ todo).Nodup; rw [xz]; exact V.nd, fun y => by show y ∈ (s.stays ++ [x]) ++ todo ↔ _; rw [xz]; exact V.own y⟩
 rcases zss.mp hl with rfl | hl
 ·exact ho
 ·rcases zss.mp hl with rfl | hl
  ·exact hg
  ·exact hr l hl
theorem VI.force (V : VI n lots gone t h0 s (x :: todo)) (hx : 0 ≤ x) (ht : s.told = -1) (hc : s.lists[x.toNat]? = some (some (oth :: gone :: rest))) (hne : oth ≠ gone) (hg : -gone ∈ s.ones) (hr : ∀ l ∈ rest, -l ∈ s.ones) :
  VI n lots gone t h0 { s with stays := s.stays ++ [x], forced := s.forced ++ [(oth, x)], ones := s.ones ++ [oth] } todo := by
 have fal : ∀ l ∈ oth :: gone :: rest, l = oth ∨ -l ∈ s.ones := fun l hl => by
  rcases zss.mp hl with rfl | hl
  ·exact .inl rfl
  ·rcases zss.mp hl with rfl | hl
   ·exact .inr hg
   ·exact .inr (hr l hl)
 refine ⟨?_, V.perm, V.wl.more oth, V.cut, fun _ => V.pass_dn hx ht hc hne (fun _ h => zta _ h) (zth _ (.head _)), fun q => absurd ht q, fun i p hp => ?_, fun S hS hb l hl => ?_, V.wat, by show ((s.stays ++ [x]) ++ todo).Nodup; rw [xz]; exact V.nd, fun y => by show y ∈ (s.stays ++ [x]) ++ todo ↔ _; rw [xz]; exact V.own y⟩
 ·show s.ones ++ [oth] = t.tr ++ (s.forced ++ [(oth, x)]).map (·.1)
  rw [V.ones, zs3, zs7]; rfl
 ·dsimp only at hp ⊢
  by_cases hi : i < s.forced.length
  ·rw [zst hi] at hp
   rw [zt0 (zw3 hi)]
   exact V.rs i p hp
  ·have hi' : i = s.forced.length := by
    have := (zsl.mp hp).1
    simp at this; lia
   subst hi'
   rw [zs2 (zwt _), zww] at hp
   cases hp
   refine ⟨x.toNat, (zv8 hx).symm, _, hc, fun l hl => ?_⟩
   rw [zvi, ← V.ones]
   exact fal l hl
 ·rcases zs0.mp hl with hl | hl
  ·exact V.sem S hS hb l hl
  ·rw [zsq.mp hl]
   obtain ⟨c0, e0, p0⟩ := V.perm _ _ hc
   refine hS c0 (zsm e0) oth (p0.mem_iff.mp (.head _)) fun l' h1 h2 => ?_
   exact V.sem S hS hb _ ((fal l' (p0.mem_iff.mpr h1)).resolve_left h2)
theorem VI.move (V : VI n lots gone t h0 s (x :: todo)) (hx : 0 ≤ x) (ht : s.told = -1) (hc : s.lists[x.toNat]? = some (some (oth :: gone :: rest))) (hW : t.W.length = 2 * n + 2) (hp : (oth :: o :: rest').Perm (oth :: gone :: rest)) (hne : oth ≠ gone) (hog : o ≠ gone) (hoo : o ≠ oth) (o1 : 1 ≤ o.natAbs) (o2 : o.natAbs ≤ n)
  (g1 : 1 ≤ gone.natAbs) (hg : gone ∉ s.ones) (hno : -o ∉ s.ones) (sub : ∀ q, q ≤ h0 → ∀ l ∈ t.tr.take q, l ∈ s.ones) :
  VI n lots gone t h0 { s with goes := s.goes ++ [(o, x)], lists := s.lists.set x.toNat (some (oth :: o :: rest')) } todo := by
 have xx : ((x.toNat : Nat) : Int) = x := zv8 hx
 have two : ∀ q, q ≤ h0 → ∀ {Q : List Int}, (∀ l ∈ Q, l ∈ s.ones) → WL s.lists (t.tr.take q) Q → (-oth ∈ t.tr.take q → o ∈ Q) ∧ (-o ∈ t.tr.take q → oth ∈ Q) := fun q hq {Q} hQ W =>
  ⟨fun h => absurd (hQ _ ((W _ _ _ _ hc).1 h)) hg, fun h => absurd (sub q hq _ h) hno⟩
 refine ⟨V.ones, fun j c h => ?_, V.wl.set hc (two h0 (zwt _) (fun _ h => h) V.wl).1 (two h0 (zwt _) (fun _ h => h) V.wl).2, fun q hq W => (V.cut q hq W).set hc (two q hq (sub q hq) (V.cut q hq W)).1 (two q hq (sub q hq) (V.cut q hq W)).2, fun _ j u v r h hj => ?_, fun q => absurd ht q, fun i p hp' => ?_, V.sem, fun l h1 h2 h3 => ?_, ?_, fun y => ?_⟩
 ·dsimp only at h
  rw [ug hc] at h
  by_cases e : x.toNat = j
  ·rw [if_pos e] at h; cases h
   subst e
   obtain ⟨c0, e0, p0⟩ := V.perm _ _ hc
   exact ⟨c0, e0, hp.trans p0⟩
  ·rw [if_neg e] at h; exact V.perm j c h
 ·dsimp only at h ⊢
  rw [ug hc] at h
  by_cases e : x.toNat = j
  ·rw [if_pos e] at h; cases h
   exact ⟨fun q => absurd q hne, fun q => absurd q hog⟩
  ·rw [if_neg e] at h
   exact V.dn ht j u v r h fun q => by
    rcases zss.mp q with q | q
    ·lia
    ·exact hj q
 ·obtain ⟨j, e1, c, h1, h2⟩ := V.rs i p hp'
  refine ⟨j, e1, ?_⟩
  dsimp only
  rw [ug hc]
  by_cases e : x.toNat = j
  ·rw [← e, hc] at h1; cases h1
   exact ⟨_, if_pos e, fun l hl => h2 l (hp.mem_iff.mp hl)⟩
  ·exact ⟨c, by rw [if_neg e]; exact h1, h2⟩
 ·obtain ⟨b1, ns, e, nd, hxs⟩ := V.wat l h1 h2 h3
  show ∃ b ns, ((s.goes ++ [(o, x)]).foldl zcq t.W)[(plc l).toNat]? = some (b, ns) ∧ _
  rw [ztu]
  show ∃ b ns, (zcq (s.goes.foldl zcq t.W) (o, x))[(plc l).toNat]? = some (b, ns) ∧ _
  have ag : ∀ (W : List (Nat × List Int)) (p : Int × Int) (i : Nat), (zcq W p)[i]? = if (plc p.1).toNat = i then (W[i]?).map (fun q => (q.1, q.2 ++ [p.2])) else W[i]? := fun W p i => by
   unfold zcq
   rw [ztg]
   by_cases h : (plc p.1).toNat = i
   ·simp [h]
   ·simp [h]
  rw [ag]
  by_cases hlo : l = o
  ·subst hlo
   rw [if_pos rfl, e]
   have hn : x ∉ ns := fun q => by
    obtain ⟨j, ej, a, b, r, e', hl⟩ := (hxs x).mp q
    have : j = x.toNat := by lia
    subst this
    rw [hc] at e'; cases e'
    rcases hl with hl | hl
    ·exact hoo hl.symm
    ·exact hog hl.symm
   refine ⟨b1, ns ++ [x], rfl, ?_, fun y => ?_⟩
   ·rw [zte]
    exact ⟨nd, by simp, fun y hy z hz e => hn (by rw [zsq.mp hz] at e; exact e ▸ hy)⟩
   ·rw [Wat.set hc, xx, zs0, zsq, hxs y]
    by_cases q : y = x
    ·exact ⟨fun _ => .inl ⟨q, .inr rfl⟩, fun _ => .inr q⟩
    ·exact ⟨fun h => .inr ⟨q, h.resolve_right q⟩, fun h => .inl ((h.resolve_left fun h => q h.1).2)⟩
  ·rw [if_neg (fun h => hlo (zcn h o1 h1).symm), e]
   refine ⟨b1, ns, rfl, nd, fun y => ?_⟩
   rw [Wat.set hc, xx, hxs y]
   by_cases q : y = x
   ·subst q
    constructor
    ·rintro ⟨j, ej, a, b, r, e', hl⟩
     have : j = y.toNat := by lia
     subst this
     rw [hc] at e'; cases e'
     exact .inl ⟨rfl, hl.elim .inl fun q => absurd q.symm h3⟩
    ·rintro (⟨_, q | q⟩ | ⟨q, _⟩)
     ·exact ⟨_, xx.symm, _, _, _, hc, .inl q⟩
     ·exact absurd q.symm hlo
     ·exact absurd rfl q
   ·exact ⟨fun h => .inr ⟨q, h⟩, fun h => (h.resolve_left fun h => q h.1).2⟩
 ·exact (zvj.append_left (zvk ..) _).nodup V.nd
 ·have hn : x ∉ s.stays ++ todo := fun h => by
   have := V.nd
   rw [zte] at this
   rcases zs0.mp h with h | h
   ·exact this.2.2 x h x (.head _) rfl
   ·exact (zs4.mp this.2.1).1 h
  have ho := V.own y
  dsimp only
  rw [Wat.set hc, xx, ← ho]
  constructor
  ·intro h
   exact .inr ⟨fun q => hn (q ▸ h), (zvj.append_left (zvk ..) _).subset h⟩
  ·rintro (⟨_, q | q⟩ | ⟨q, h⟩)
   ·exact absurd q hne
   ·exact absurd q hog
   ·rcases zs0.mp h with h | h
    ·exact zta _ h
    ·rcases zss.mp h with h | h
     ·exact absurd h q
     ·exact zth _ h
theorem VI.step (V : VI n lots gone t h0 s (x :: todo)) (F : Fit n gone t s (x :: todo)) (hsome : ∀ j : Nat, s.lists[j]? ≠ some none) (ht : s.told = -1) (hW : t.W.length = 2 * n + 2) (g1 : 1 ≤ gone.natAbs) : VI n lots gone t h0 (g9 gone s x) todo := by
 rcases F.item with ⟨i1, i2⟩ | ⟨a, b, rest, a1, c0, i1, i2, hab⟩
 ·exact absurd i1 (hsome _)
 ·rw [zb5 ht i1]
  have hx := (F.wat x (.head _)).1
  have hperm := zec (rest := rest) hab
  have hlt : x.toNat < s.lists.length := (zsl.mp i1).1
  obtain ⟨-, -, g3, g4⟩ := F.good _ _ i1
  have V1 := V.swap i1 hx hab
  generalize hoth : (if b = gone then a else b) = oth at hperm V1 ⊢
  have ndp : ((oth :: gone :: rest).map zv6).Nodup := (hperm.map _).nodup_iff.mpr g3
  simp only [zs9, zs4] at ndp
  have hne : oth ≠ gone := fun e => ndp.1 (by rw [e]; exact .head _)
  have hc : (s.lists.set x.toNat (some (oth :: gone :: rest)))[x.toNat]? = some (some (oth :: gone :: rest)) := zsy hlt
  have base : (oth ∉ s.ones → ∀ l ∈ rest, -l ∈ s.ones) → VI n lots gone t h0 (if -oth ∈ s.ones then { s with lists := s.lists.set x.toNat (some (oth :: gone :: rest)), stays := s.stays ++ [x], told := x }
    else if oth ∈ s.ones then { s with lists := s.lists.set x.toNat (some (oth :: gone :: rest)), stays := s.stays ++ [x] }
    else { s with lists := s.lists.set x.toNat (some (oth :: gone :: rest)), stays := s.stays ++ [x], forced := s.forced ++ [(oth, x)], ones := s.ones ++ [oth] }) todo := fun hr => by
   by_cases h1 : -oth ∈ s.ones
   ·rw [if_pos h1]; exact V1.clash hx hc F.gon h1 (hr fun h => F.neg h h1)
   ·rw [if_neg h1]
    by_cases h2 : oth ∈ s.ones
    ·rw [if_pos h2]; exact V1.keep hx ht hc hne h2
    ·rw [if_neg h2]; exact V1.force hx ht hc hne F.gon (hr h2)
  unfold zjo
  by_cases h2 : oth ∈ s.ones
  ·rw [if_pos h2]; exact base fun h => absurd h2 h
  ·rw [if_neg h2]
   cases hfo : q0 (fun l => decide (-l ∉ s.ones)) gone rest with
   | none => exact base fun _ l hl => by have := zfv hfo l hl; simpa using this
   | some p =>
    obtain ⟨o, rest'⟩ := p
    obtain ⟨m1, m2⟩ := zc3 hfo
    have m2' : -o ∉ s.ones := by simpa using m2
    have hoo : o ≠ oth := fun e => ndp.1 (by rw [← e]; exact .tail _ (zs5 m1))
    have hin := g4 o (hperm.mem_iff.mp (.tail _ (.tail _ m1)))
    have hg : gone ∉ s.ones := fun h => F.neg h F.gon
    have K2 := V1.move (o := o) (oth := oth) (rest := rest) (rest' := rest') hx ht hc hW ((zab hfo).cons oth) hne (fun e => m2' (e ▸ F.gon)) hoo hin.1 hin.2 g1 hg m2' fun q _ l hl => by
     show l ∈ s.ones
     rw [V.ones]; exact zta _ (zt1 hl)
    dsimp only at K2 ⊢
    rw [zuc] at K2
    exact K2
end
end Mine
namespace Mine
noncomputable def T.ls (t : T) : Ls := t.C.map fun o => o.map (·.2)
structure LG (n : Nat) (lots : List (List Int)) : Prop where
 few : lots.length ≤ 5
 good : ∀ c ∈ lots, 2 ≤ c.length ∧ c.length ≤ 3 ∧ (c.map zv6).Nodup ∧ ∀ l ∈ c, 1 ≤ l.natAbs ∧ l.natAbs ≤ n
structure TI (n : Nat) (lots : List (List Int)) (t : T) : Prop where
 as : t.as.length = n + 1
 n1 : 1 ≤ n
 n6 : n ≤ 6
 len : Len t
 ph : t.ph.length = n + 1
 W : t.W.length = 2 * n + 2
 C : t.C.length = lots.length
 cl : ∀ (j : Nat) c0, lots[j]? = some c0 → ∃ a c, t.C[j]? = some (some (a, c)) ∧ c.Perm c0
 val : ∀ l : Int, 1 ≤ l.natAbs → l.natAbs ≤ n → t.val l = if l ∈ t.tr then 1 else if -l ∈ t.tr then -1 else 0
 one : ∀ l ∈ t.tr, 1 ≤ l.natAbs ∧ l.natAbs ≤ n
 ndo : (t.tr.map zv6).Nodup
 sp : ∀ (i : Nat) l, t.tr[i]? = some l → t.sp[l.natAbs]? = some (i : Int)
 unk : ∀ v : Nat, 1 ≤ v → v ≤ n → t.as.getD v 0 = 0 → t.rs[v]? = some (-1)
 rsn : ∀ (i : Nat) l, t.tr[i]? = some l → t.rs[l.natAbs]? = some (-1) ∨ ∃ (j a : Nat) (c : List Int), t.rs[l.natAbs]? = some (j : Int) ∧ t.C[j]? = some (some (a, c)) ∧ ∀ l' ∈ c, l' = l ∨ -l' ∈ t.tr.take i
 wat : ∀ l : Int, 1 ≤ l.natAbs → l.natAbs ≤ n → ∃ b ns, t.W[(plc l).toNat]? = some (b, ns) ∧ ns.Nodup ∧ ∀ x, x ∈ ns ↔ Wat t.ls x l
 cut : ∀ q : Nat, (q : Int) ∈ t.st → WL t.ls (t.tr.take q) (t.tr.take q)
 st : t.st.Pairwise (· < ·)
 stl : ∀ q ∈ t.st, 0 ≤ q ∧ q < t.tr.length
 a0 : t.as[0]? = some 0
structure Ext (t t' : T) : Prop where
 tr : t.tr <+: t'.tr
 old : ∀ v : Nat, (∀ l ∈ t'.tr, l ∉ t.tr → l.natAbs ≠ v) → t'.lv[v]? = t.lv[v]? ∧ t'.rs[v]? = t.rs[v]? ∧ t'.sp[v]? = t.sp[v]?
 new : ∀ l ∈ t'.tr, l ∉ t.tr → t'.lv[l.natAbs]? = some (t.st.length : Int)
 st : t'.st = t.st
 ph : t'.ph = t.ph
 hp : t'.hp = t.hp ∧ t'.pl = t.pl ∧ t'.ac = t.ac
theorem Ext.refl (t : T) : Ext t t := ⟨zsw, fun _ _ => ⟨rfl, rfl, rfl⟩, fun l h1 h2 => absurd h1 h2, rfl, rfl, rfl, rfl, rfl⟩
theorem zff {l : List Int} (nd : (l.map zv6).Nodup) {a b : Int} (ha : a ∈ l) (hb : b ∈ l) (e : a.natAbs = b.natAbs) : a = b := by
 refine zvt fun hq0 => ?_
 obtain ⟨i, hi, e1⟩ := zs6.mp ha
 obtain ⟨j, hj, e2⟩ := zs6.mp hb
 have := qm nd (i := i) (j := j) (a := a.natAbs) (by rw [zsu, zsv hi, e1]; rfl) (by rw [zsu, zsv hj, e2, e]; rfl)
 subst this
 refine hq0 ?_
 rw [← e1, ← e2]
theorem Ext.trans {t t' t'' : T} (x : Ext t t') (y : Ext t' t'') (nd : (t''.tr.map zv6).Nodup) : Ext t t'' := by
 have s1 := x.tr.subset
 have s2 := y.tr.subset
 refine ⟨x.tr.trans y.tr, fun v hv => ?_, fun l h1 h2 => ?_, y.st.trans x.st, y.ph.trans x.ph, y.hp.1.trans x.hp.1, y.hp.2.1.trans x.hp.2.1, y.hp.2.2.trans x.hp.2.2⟩
 ·obtain ⟨a1, a2, a3⟩ := x.old v fun l h1 h2 => hv l (s2 h1) h2
  obtain ⟨b1, b2, b3⟩ := y.old v fun l h1 h2 => hv l h1 fun q => h2 (s1 q)
  exact ⟨b1.trans a1, b2.trans a2, b3.trans a3⟩
 ·by_cases h : l ∈ t'.tr
  ·have e := x.new l h h2
   rw [(y.old l.natAbs fun l' h1' h2' q => h2' (zff nd h1' h1 q ▸ h)).1, e]
  ·rw [y.new l h1 h, x.st]
section
variable {n h0 : Nat} {lots : List (List Int)} {gone : Int} {t : T} {s : LS} {todo : List Int} {H : St}
theorem zbv : ∀ {fs : List (Int × Int)} {t : T} {v : Nat}, (∀ p ∈ fs, p.1.natAbs ≠ v) → (t.enqs fs).lv[v]? = t.lv[v]? ∧ (t.enqs fs).rs[v]? = t.rs[v]? ∧ (t.enqs fs).sp[v]? = t.sp[v]?
 | [], _, _, _ => ⟨rfl, rfl, rfl⟩
 | p :: fs, t, v, h => by
  obtain ⟨h1, h2, h3⟩ := zbv (fs := fs) (t := t.enq p.1 p.2) fun q hq => h q (.tail _ hq)
  have hp := h p (.head _)
  exact ⟨h1.trans (zsn hp), h2.trans (zsn hp), h3.trans (zsn hp)⟩
theorem zk0 {fs : List (Int × Int)} {t : T} {p : Int × Int} (L : Len t) (nd : (fs.map fun q => q.1.natAbs).Nodup) (hp : p ∈ fs) (hb : p.1.natAbs < t.as.length) : (t.enqs fs).lv[p.1.natAbs]? = some (t.st.length : Int) ∧ (t.enqs fs).rs[p.1.natAbs]? = some p.2 := by
 have l1 := L.lv
 have l2 := L.rs
 clear L
 induction fs generalizing t with
 | nil => cases hp
 | cons q fs ih =>
  rw [zs9, zs4] at nd
  rcases zss.mp hp with rfl | hp
  ·obtain ⟨h1, h2, -⟩ := zbv (fs := fs) (t := t.enq p.1 p.2) (v := p.1.natAbs) fun q hq e => nd.1 (zso.mpr ⟨q, hq, e⟩)
   exact ⟨h1.trans (zsy (by rw [l1]; exact hb)), h2.trans (zsy (by rw [l2]; exact hb))⟩
  ·exact ih (t := t.enq q.1 q.2) nd.2 hp (by simp [T.enq]; exact hb) (by simp [T.enq, l1]) (by simp [T.enq, l2])
theorem zk1 : ∀ {fs : List (Int × Int)} {t : T}, (∀ p ∈ fs, 1 ≤ p.1.natAbs) → (t.enqs fs).as[0]? = t.as[0]?
 | [], _, _ => rfl
 | p :: fs, t, h => (zk1 (fs := fs) (t := t.enq p.1 p.2) fun q hq => h q (.tail _ hq)).trans (zsn (by have := h p (.head _); lia))
theorem znd : ∀ {fs : List (Int × Int)} {t : T}, (t.enqs fs).hp = t.hp ∧ (t.enqs fs).pl = t.pl ∧ (t.enqs fs).ac = t.ac
 | [], t => ⟨rfl, rfl, rfl⟩
 | p :: fs, t => znd (fs := fs) (t := t.enq p.1 p.2)
noncomputable def zk6 (t : T) : Prop := ∀ (i : Nat) l, t.tr[i]? = some l → t.sp[l.natAbs]? = some (i : Int)
theorem zk6.enq {t : T} (S : zk6 t) {o num : Int} (hb : o.natAbs < t.sp.length) (hn : o.natAbs ∉ t.tr.map zv6) : zk6 (t.enq o num) := by
 intro i l h
 have h' : (t.tr ++ [o])[i]? = some l := h
 show (t.sp.set o.natAbs t.tr.length)[l.natAbs]? = _
 by_cases hi : i < t.tr.length
 ·rw [zst hi] at h'
  rw [zsn (fun e => hn (by rw [e]; exact zs5 (zsm h')))]
  exact S i l h'
 ·rw [zs2 (by lia)] at h'
  have : i - t.tr.length = 0 := by
   have := (zsl.mp h').1
   simp at this; assumption
  rw [this] at h'
  simp at h'
  subst h'
  rw [zsy hb, show i = t.tr.length by lia]
theorem zk6.enqs : ∀ {fs : List (Int × Int)} {t : T}, zk6 t → (∀ q ∈ fs, q.1.natAbs < t.sp.length) → ((t.tr ++ fs.map (·.1)).map zv6).Nodup → zk6 (t.enqs fs)
 | [], t, S, _, _ => S
 | p :: fs, t, S, hb, nd => by
  show zk6 ((t.enq p.1 p.2).enqs fs)
  have e : t.tr ++ (p :: fs).map (·.1) = (t.tr ++ [p.1]) ++ fs.map (·.1) := by simp
  rw [e] at nd
  refine zk6.enqs (S.enq (hb p (.head _)) ?_) (fun q hq => by simp only [T.enq, zsx]; exact hb q (.tail _ hq)) nd
  rw [zs3, zte, zs3, zte] at nd
  exact fun hm => nd.1.2.2 _ hm _ (by simp) rfl
end
end Mine
namespace Mine
section
variable {n h0 : Nat} {lots : List (List Int)} {gone : Int} {t : T} {s : LS} {todo : List Int} {H : St}
theorem TI.get (I : TI n lots t) {j : Nat} (h : j < t.C.length) : ∃ a c c0, t.C[j]? = some (some (a, c)) ∧ lots[j]? = some c0 ∧ c.Perm c0 := by
 rw [I.C] at h
 refine zvt fun hq0 => ?_
 obtain ⟨a, c, e, p⟩ := I.cl j _ (zsv h)
 refine hq0 ?_
 exact ⟨a, c, _, e, zsv h, p⟩
theorem TI.ls_get (I : TI n lots t) {j : Nat} {o : Option (List Int)} (h : t.ls[j]? = some o) : ∃ a c c0, o = some c ∧ t.C[j]? = some (some (a, c)) ∧ lots[j]? = some c0 ∧ c.Perm c0 := by
 unfold T.ls at h
 rw [zsu] at h
 refine zvt fun hq0 => ?_
 obtain ⟨p, hp, e⟩ := zvv.mp h
 obtain ⟨a, c, c0, e1, e2, e3⟩ := I.get (zsl.mp hp).1
 refine hq0 ?_
 rw [hp] at e1; cases e1
 exact ⟨a, c, c0, e.symm, hp, e2, e3⟩
theorem LG.perm (G : LG n lots) {j : Nat} {c c0 : List Int} (h : lots[j]? = some c0) (p : c.Perm c0) : 2 ≤ c.length ∧ c.length ≤ 3 ∧ (c.map zv6).Nodup ∧ ∀ l ∈ c, 1 ≤ l.natAbs ∧ l.natAbs ≤ n := by
 refine zvt fun hq0 => ?_
 obtain ⟨g1, g2, g3, g4⟩ := G.good c0 (zsm h)
 refine hq0 ?_
 exact ⟨by rw [p.length_eq]; exact g1, by rw [p.length_eq]; exact g2, (p.map _).nodup_iff.mpr g3, fun l hl => g4 l (p.mem_iff.mp hl)⟩
theorem Wat.range (I : TI n lots t) {x l : Int} (h : Wat t.ls x l) : 0 ≤ x ∧ x.toNat < t.C.length ∧ ∀ a b rest, t.ls[x.toNat]? = some (some (a :: b :: rest)) → a = l ∨ b = l := by
 refine zvt fun hq0 => ?_
 obtain ⟨j, rfl, a, b, r, e, hl⟩ := h
 have hj := (zsl.mp e).1
 unfold T.ls at hj
 rw [zsk] at hj
 refine hq0 ?_
 refine ⟨by lia, hj, fun a' b' r' e' => ?_⟩
 rw [show ((j : Int)).toNat = j from rfl, e] at e'
 cases e'; exact hl
theorem TI.short (I : TI n lots t) (G : LG n lots) {ns : List Int} {l : Int} (nd : ns.Nodup) (h : ∀ x, x ∈ ns ↔ Wat t.ls x l) : ns.length ≤ 5 := by
 have := zdv (n := lots.length) (g := ns.map (· + 1)) (fun v hv => by
  obtain ⟨x, hx, rfl⟩ := zso.mp hv
  have := Wat.range I ((h x).mp hx)
  rw [I.C] at this
  lia) (by
  rw [ztq, ztr]
  exact nd.imp fun hne e => hne (by lia))
 rw [zsk] at this
 have := G.few
 lia
theorem TI.fit (I : TI n lots t) (G : LG n lots) (hg : -gone ∈ t.tr) {wa : Nat} {nums : List Int} (hw : t.W[(plc gone).toNat]? = some (wa, nums)) : Fit n gone t t.init nums := by
 refine zvt fun hq0 => ?_
 obtain ⟨g1, g2⟩ := I.one _ hg
 obtain ⟨b, ns, e, nd, hx⟩ := I.wat gone (by lia) (by omega)
 rw [hw] at e
 refine hq0 ?_
 cases e
 refine ⟨by simp [T.init], fun j => ?_, fun l h1 h2 => by rw [zfb]; exact I.val l h1 h2, I.one, I.ndo, by rw [zfb]; rfl, hg, fun j c h => ?_, fun y hy => ?_, nd⟩
 ·show _ ↔ (t.C.map fun o => o.map (·.2))[j]?.join = none
  rw [zsu]
  cases t.C[j]? with
  | none => simp
  | some o => cases o <;> simp
 ·obtain ⟨a, c', c0, e1, e2, e3, e4⟩ := I.ls_get (o := some c) h
  cases e1
  obtain ⟨q1, q2, q3, q4⟩ := G.perm e3 e4
  exact ⟨q1, by lia, q3, q4⟩
 ·exact Wat.range I ((hx y).mp hy)
theorem TI.vi (I : TI n lots t) {wa : Nat} {nums : List Int} (g1 : 1 ≤ gone.natAbs) (g2 : gone.natAbs ≤ n) (hw : t.W[(plc gone).toNat]? = some (wa, nums)) (wl : WL t.ls (t.tr.take h0) t.tr) : VI n lots gone t h0 t.init nums := by
 refine zvt fun hq0 => ?_
 obtain ⟨b, ns, e, nd, hx⟩ := I.wat gone g1 g2
 rw [hw] at e
 refine hq0 ?_
 cases e
 refine ⟨by simp [T.init], fun j c h => ?_, wl, fun q _ W => W, fun _ j x y r h hj => ?_, fun q => absurd rfl q, (fun i p h => by simp [T.init] at h), fun S _ hb l hl => hb l hl, fun l h1 h2 h3 => I.wat l h1 h2, nd, hx⟩
 ·obtain ⟨a, c', c0, e1, e2, e3, e4⟩ := I.ls_get (o := some c) h
  cases e1
  exact ⟨c0, e3, e4⟩
 ·exact ⟨fun q => absurd ((hx _).mpr ⟨j, rfl, x, y, r, h, .inl q⟩) hj, fun q => absurd ((hx _).mpr ⟨j, rfl, x, y, r, h, .inr q⟩) hj⟩
theorem zdf (I : TI n lots t) (F : Fit n gone t s todo) (j : Nat) : s.lists[j]? ≠ some none := fun h => by
 have hj := (zsl.mp h).1
 rw [F.len] at hj
 obtain ⟨a, c, c0, e, -⟩ := I.get hj
 have := (F.same j).mpr (by rw [h]; rfl)
 rw [e] at this; cases this
theorem zlr {x : Int} (h : s.told ≠ -1) : g9 gone s x = { s with stays := s.stays ++ [x] } := by unfold g9; rw [if_pos h]
theorem zl3 (I : TI n lots t) (g1 : 1 ≤ gone.natAbs) : ∀ {todo : List Int} {s : LS}, (s.told = -1 → Fit n gone t s todo) → VI n lots gone t h0 s todo → VI n lots gone t h0 (todo.foldl (g9 gone) s) []
 | [], _, _, V => V
 | x :: todo, s, F, V => by
  rw [zt4]
  by_cases h : s.told = -1
  ·exact zl3 I g1 (fun _ => (F h).step h I.as) (V.step (F h) (zdf I (F h)) h I.W g1)
  ·rw [zlr h]
   exact zl3 I g1 (fun h' => absurd h' h) (V.tell h)
theorem of_ls (I : TI n lots t) (F : Fit n gone t s todo) : (t.of s).ls = s.lists ∧ ∀ (j : Nat) a c, (t.of s).C[j]? = some (some (a, c)) ↔ (s.lists[j]? = some (some c) ∧ ∃ c1, t.C[j]? = some (some (a, c1))) := by
 have h2 : ∀ (j : Nat) a c, (t.of s).C[j]? = some (some (a, c)) ↔ (s.lists[j]? = some (some c) ∧ ∃ c1, t.C[j]? = some (some (a, c1))) := fun j a c => by
  simp only [T.of, cOf, ztx]
  cases h1 : t.C[j]? with
  | none => simp
  | some o =>
   have hj := (zsl.mp h1).1
   obtain ⟨a1, c1, c0, e, -⟩ := I.get hj
   rw [h1] at e; cases e
   cases h2 : s.lists[j]? with
   | none => simp
   | some l =>
    cases l with
    | none => exact absurd h2 (zdf I F j)
    | some l => simp; exact and_comm
 refine ⟨ztl fun j => ?_, h2⟩
 unfold T.ls
 rw [zsu]
 by_cases hj : j < s.lists.length
 ·obtain ⟨a1, c1, c0, e, -⟩ := I.get (F.len ▸ hj)
  cases h3 : s.lists[j]? with
  | none => rw [ztk] at h3; lia
  | some o =>
   cases o with
   | none => exact absurd h3 (zdf I F j)
   | some c =>
    rw [(h2 j a1 c).mpr ⟨h3, c1, e⟩]; rfl
 ·have hj2 : (t.of s).C.length ≤ j := by rw [zi9 F.len, ← F.len]; lia
  rw [ztf hj2, ztf (zw5 hj)]; rfl
theorem TI.next (I : TI n lots t) (G : LG n lots) (hg : -gone ∈ t.tr) {wa : Nat} {nums : List Int} (hw : t.W[(plc gone).toNat]? = some (wa, nums)) (K : Nat) (F : Fit n gone t s []) (V : VI n lots gone t h0 s []) (hst : ∀ q : Nat, (q : Int) ∈ t.st → q ≤ h0) :
  TI n lots ((t.of s).newW (plc gone).toNat K s.stays) ∧ Ext t ((t.of s).newW (plc gone).toNat K s.stays) := by
 refine zvt fun hq0 => ?_
 obtain ⟨g1, g2⟩ := I.one _ hg
 obtain ⟨l1, l2⟩ := of_ls I F
 obtain ⟨k1, k2, k3, k4, k5, k6, k7, k8, k9, k10, -⟩ := vp (t := t) (fs := s.forced)
 have Ln := F.lenT I.len I.as
 have htr : (t.of s).tr = s.ones := F.tr
 have hsub : ∀ l ∈ t.tr, l ∈ s.ones := fun l hl => by rw [V.ones]; exact zta _ hl
 have nd : ((t.tr ++ s.forced.map (·.1)).map zv6).Nodup := by rw [← V.ones]; exact F.ndo
 have ndf : (s.forced.map fun q => q.1.natAbs).Nodup := by
  rw [zs3, zte, ztc] at nd
  exact nd.2.1
 have fone : ∀ p ∈ s.forced, 1 ≤ p.1.natAbs ∧ p.1.natAbs ≤ n := fun p hp => F.one _ (by rw [V.ones]; exact zth _ (zso.mpr ⟨p, hp, rfl⟩))
 have fout : ∀ p ∈ s.forced, p.1 ∉ t.tr := fun p hp h => by
  rw [zs3, zte] at nd
  exact nd.2.2 _ (zs5 h) _ (zs5 (zso.mpr ⟨p, hp, rfl⟩)) rfl
 have skip : ∀ v : Nat, (∀ l ∈ s.ones, l ∉ t.tr → l.natAbs ≠ v) → ∀ p ∈ s.forced, p.1.natAbs ≠ v := fun v hv p hp => hv _ (by rw [V.ones]; exact zth _ (zso.mpr ⟨p, hp, rfl⟩)) (fout p hp)
 have pre : t.tr <+: (t.of s).tr := by rw [htr, V.ones]; exact ztj ..
 have tk : ∀ q, q ≤ t.tr.length → (t.of s).tr.take q = t.tr.take q := fun q hq => by rw [htr, V.ones, zt0 hq]
 have oldskip : ∀ l ∈ t.tr, ∀ p ∈ s.forced, p.1.natAbs ≠ l.natAbs := fun l hl p hp e => by
  rw [zs3, zte] at nd
  exact nd.2.2 _ (zs5 hl) _ (zs5 (zso.mpr ⟨p, hp, rfl⟩)) e.symm
 have hplt : (plc gone).toNat < t.W.length := (zsl.mp hw).1
 have hh : (t.enqs s.forced).hp = t.hp ∧ (t.enqs s.forced).pl = t.pl ∧ (t.enqs s.forced).ac = t.ac := znd
 refine hq0 ?_
 refine ⟨⟨zhw.trans I.as, I.n1, I.n6, ⟨Ln.lv, Ln.rs, Ln.sp, Ln.as, Ln.tr, Ln.st⟩, by show (t.enqs s.forced).ph.length = _; rw [k10]; exact I.ph, ?_, by show (t.of s).C.length = _; rw [zi9 F.len]; exact I.C, fun j c0 h => ?_, fun l h1 h2 => ?_, fun l hl => F.one l (htr ▸ hl), by show ((t.of s).tr.map _).Nodup; rw [htr]; exact F.ndo, ?_, fun v h1 h2 h => ?_, fun i l h => ?_, fun l h1 h2 => ?_, fun q hq => ?_, by show (t.enqs s.forced).st.Pairwise _; rw [k4]; exact I.st, fun q hq => ?_, (zk1 fun p hp => (fone p hp).1).trans I.a0⟩,
  ⟨pre, fun v hv => zbv (skip v fun l hl => hv l (by show l ∈ (t.of s).tr; rw [htr]; exact hl)), fun l hl hn => ?_, k4, k10, hh⟩⟩
 ·show ((t.of s).W.set _ _).length = _
  rw [zsx]; exact zrs.trans I.W
 ·obtain ⟨a, c, e, p⟩ := I.cl j c0 h
  have hj : j < s.lists.length := by rw [F.len]; exact (zsl.mp e).1
  cases h3 : s.lists[j]? with
  | none => rw [ztk] at h3; lia
  | some o =>
   cases o with
   | none => exact absurd h3 (zdf I F j)
   | some c' =>
    obtain ⟨c1, e1, p1⟩ := V.perm j c' h3
    rw [h] at e1; cases e1
    exact ⟨a, c', (l2 j a c').mpr ⟨h3, c, e⟩, p1⟩
 ·show (t.of s).val l = if l ∈ (t.of s).tr then 1 else if -l ∈ (t.of s).tr then -1 else 0
  rw [htr]; exact F.val l h1 h2
 ·exact zk6.enqs (t := t) I.sp (fun q hq => by have := fone q hq; rw [I.len.sp, I.as]; lia) nd
 ·have hv : (t.of s).val (v : Int) = (t.of s).as.getD v 0 := by unfold T.val; rw [if_pos (by lia)]; rfl
  have h' : (t.of s).val (v : Int) = 0 := hv.trans h
  obtain ⟨n1, n2⟩ := (F.val0 (l := (v : Int)) (by assumption) (by assumption)).mp h'
  have sk : ∀ p ∈ s.forced, p.1.natAbs ≠ v := fun p hp e => by
   have hm : p.1 ∈ s.ones := by rw [V.ones]; exact zth _ (zso.mpr ⟨p, hp, rfl⟩)
   rcases zwi p.1 with q | q
   ·rw [e] at q; exact n1 (q ▸ hm)
   ·rw [e] at q; exact n2 (q ▸ hm)
  have hv0 : t.as.getD v 0 = 0 := by
   have := I.val (v : Int) (by assumption) (by assumption)
   rw [if_neg (fun q => n1 (hsub _ q)), if_neg (fun q => n2 (hsub _ q))] at this
   unfold T.val at this
   rw [if_pos (by lia)] at this
   exact this
  show (t.enqs s.forced).rs[v]? = _
  rw [(zbv sk).2.1]
  exact I.unk v h1 h2 hv0
 ·have h' : (t.of s).tr[i]? = some l := h
  rw [htr, V.ones] at h'
  show (t.enqs s.forced).rs[l.natAbs]? = _ ∨ ∃ (j a : Nat) (c : List Int), (t.enqs s.forced).rs[l.natAbs]? = _ ∧ (t.of s).C[j]? = _ ∧ ∀ l' ∈ c, l' = l ∨ -l' ∈ (t.of s).tr.take i
  have key : ∀ (j : Nat) c, s.lists[j]? = some (some c) → ∃ a, (t.of s).C[j]? = some (some (a, c)) := fun j c h => by
   obtain ⟨a, c1, c0, e, -⟩ := I.get (j := j) (by rw [← F.len]; exact (zsl.mp h).1)
   exact ⟨a, (l2 j a c).mpr ⟨h, c1, e⟩⟩
  by_cases hi : i < t.tr.length
  ·rw [zst hi] at h'
   have hl := zsm h'
   rw [(zbv (oldskip l hl)).2.1, tk i (by lia)]
   rcases I.rsn i l h' with q | ⟨j, a, c, q1, q2, q3⟩
   ·exact .inl q
   ·have hj : j < s.lists.length := by rw [F.len]; exact (zsl.mp q2).1
    cases h3 : s.lists[j]? with
    | none => rw [ztk] at h3; omega
    | some o =>
     cases o with
     | none => exact absurd h3 (zdf I F j)
     | some c' =>
      obtain ⟨a', e'⟩ := key j c' h3
      obtain ⟨c0, e0, p0⟩ := V.perm j c' h3
      obtain ⟨a2, c2, e2, p2⟩ := I.cl j c0 e0
      rw [q2] at e2; cases e2
      exact .inr ⟨j, a', c', q1, e', fun l' hl' => q3 l' (p2.mem_iff.mpr (p0.mem_iff.mp hl'))⟩
  ·rw [zs2 (by lia), zsu] at h'
   obtain ⟨p, hp, rfl⟩ := zvv.mp h'
   obtain ⟨j, e1, c, e2, e3⟩ := V.rs _ p hp
   obtain ⟨a, e4⟩ := key j c e2
   have hpm := zsm hp
   obtain ⟨-, r2⟩ := zk0 (p := p) I.len ndf hpm (by have := fone p hpm; rw [I.as]; lia)
   refine .inr ⟨j, a, c, by rw [r2, e1], e4, fun l' hl' => ?_⟩
   rw [htr, V.ones, List.take_append, zvb (by lia)]
   rcases e3 l' hl' with q | q
   ·exact .inl q
   ·rw [← zt9]; exact .inr q
 ·show ∃ b ns, ((t.of s).W.set (plc gone).toNat (K, s.stays))[(plc l).toNat]? = some (b, ns) ∧ ns.Nodup ∧ ∀ x, x ∈ ns ↔ Wat (t.of s).ls x l
  rw [l1, zs8]
  by_cases hl : l = gone
  ·subst hl
   rw [if_pos rfl, if_pos (by rw [zrs]; exact hplt)]
   have e1 := V.nd; have e2 := V.own
   rw [zuq] at e1
   exact ⟨K, s.stays, rfl, e1, fun x => by have := e2 x; rw [zuq] at this; exact this⟩
  ·rw [if_neg (fun h => hl (zcn h (by lia) h1).symm)]
   exact V.wat l h1 h2 hl
 ·have hq' : (q : Int) ∈ t.st := k4 ▸ hq
  have h1 := (I.stl _ hq').2
  show WL (t.of s).ls ((t.of s).tr.take q) ((t.of s).tr.take q)
  rw [l1, tk q (by lia)]
  exact V.cut q (hst q hq') (I.cut q hq')
 ·have h1 := I.stl q (k4 ▸ hq)
  have h2 : t.tr.length ≤ (t.of s).tr.length := pre.length_le
  exact ⟨h1.1, by show q < ((t.of s).tr.length : Int); lia⟩
 ·have hl' : l ∈ (t.of s).tr := hl
  rw [htr, V.ones] at hl'
  rcases zs0.mp hl' with q | q
  ·exact absurd q hn
  ·obtain ⟨p, hp, rfl⟩ := zso.mp q
   exact (zk0 (p := p) I.len ndf hp (by have := fone p hp; rw [I.as]; lia)).1
end
end Mine
namespace Mine
section
variable {n h0 : Nat} {lots : List (List Int)} {gone : Int} {t : T} {H : St}
noncomputable def zg5 (lots : List (List Int)) (P Q : List Int) : Prop := ∀ S, zmg lots S → (∀ l ∈ P, S l) → ∀ l ∈ Q, S l
theorem zq1 (R : Rep t H) (I : TI n lots t) (G : LG n lots) (hpos : t.tr[h0]? = some (-gone)) (wl : WL t.ls (t.tr.take h0) t.tr) (hst : ∀ q : Nat, (q : Int) ∈ t.st → q ≤ h0) :
  ∃ c t' H', uw [.ref t.r, .int gone] H = some (.int c, H') ∧ Op t H t' H' ∧ TI n lots t' ∧ t'.he = t.he ∧ Ext t t' ∧ zg5 lots t.tr t'.tr ∧
   ((c = -1 ∧ WL t'.ls (t'.tr.take (h0 + 1)) t'.tr) ∨ (c ≠ -1 ∧ ∃ c0 ∈ lots, ∀ l ∈ c0, -l ∈ t'.tr)) := by
 have hg := zsm hpos
 refine zvt fun hq0 => ?_
 obtain ⟨g1, g2⟩ := I.one _ hg
 have n6 := I.n6
 obtain ⟨wa, nums, hw, nd, hx⟩ := I.wat gone (by lia) (by omega)
 have hsh := I.short G nd hx
 have F0 := I.fit G hg hw
 obtain ⟨H', e1, R1, F1, hl, hout⟩ := zpd R F0 I.len I.as (by lia) (by rw [I.W]; lia) (by lia) (by omega) hw (by lia) (by rw [I.C]; have := G.few; lia) fun l h1 h2 => by
  obtain ⟨b, ns, e, nd', hx'⟩ := I.wat l h1 h2
  have := I.short G nd' hx'
  exact ⟨b, ns, e, by lia⟩
 have V := zl3 I (by lia) (fun _ => F0) (I.vi (h0 := h0) (by lia) (by omega) hw wl)
 obtain ⟨I1, E1⟩ := I.next G hg hw H.length F1 V hst
 obtain ⟨l1, l2⟩ := of_ls I F1
 generalize nums.foldl (g9 gone) t.init = s at e1 R1 F1 V I1 E1 l1 l2
 have hat := zll (t := t) (s := s) F1.len
 have htr : (t.of s).tr = s.ones := F1.tr
 obtain ⟨k1, k2, k3, k4, k5, k6, k7, k8, k9, k10, -⟩ := vp (t := t) (fs := s.forced)
 refine hq0 ?_
 refine ⟨s.told, _, H', e1, ⟨R1, ⟨zw3 hl, hout⟩, fun k a h => ?_, k5⟩, I1, k8, E1, fun S hS hb l hm => V.sem S hS hb l (htr ▸ hm), ?_⟩
 ·by_cases hk : ∃ i, k = .w i
  ·obtain ⟨i, rfl⟩ := hk
   have h' : zvw (·.1) (((t.of s).W.set (plc gone).toNat (H.length, s.stays))[i]?) = some a := h
   rw [zs8] at h'
   by_cases e : (plc gone).toNat = i
   ·rw [if_pos e] at h'
    split at h'
    ·cases h'; exact .inl (zwt _)
    ·cases h'
   ·rw [if_neg e] at h'
    exact .inr ⟨.w i, (hat (.w i)).symm.trans h'⟩
  ·refine .inr ⟨k, (hat k).symm.trans ?_⟩
   rw [← h]
   cases k <;> first | rfl | exact absurd ⟨_, rfl⟩ hk
 ·by_cases ht : s.told = -1
  ·refine .inl ⟨ht, ?_⟩
   show WL (t.of s).ls ((t.of s).tr.take (h0 + 1)) (t.of s).tr
   rw [l1, htr]
   have hlen := (zsl.mp hpos).1
   have e2 : s.ones.take (h0 + 1) = t.tr.take h0 ++ [-gone] := by
    rw [V.ones, zt0 (by assumption), zud, hpos]; rfl
   rw [e2]
   intro j x y r h
   obtain ⟨w1, w2⟩ := V.wl j x y r h
   obtain ⟨d1, d2⟩ := V.dn ht j x y r h (by simp)
   refine ⟨fun q => ?_, fun q => ?_⟩
   ·rcases zs0.mp q with q | q
    ·exact w1 q
    ·have := zsq.mp q
     exact d1 (by lia)
   ·rcases zs0.mp q with q | q
    ·exact w2 q
    ·have := zsq.mp q
     exact d2 (by lia)
  ·obtain ⟨c, h1, h2⟩ := V.conf ht
   obtain ⟨c0, h3, h4⟩ := V.perm _ _ h1
   refine .inr ⟨ht, c0, zsm h3, fun l hl => ?_⟩
   show -l ∈ (t.of s).tr
   rw [htr]; exact h2 l (h4.mem_iff.mpr hl)
theorem xj {c k a : Nat} {f fo : DE} {lo : Lo} {H H1 : St} {l : List MV} {v : MV} (hf : f lo H = some (v, H1)) (ho : fo lo H1 = some (.ref a, H1)) (ha : H1[a]? = some (.obj c l)) (hk : k < l.length) :
  zq f (wm c k fo) lo H = some (.next, lo, H1.set a (.obj c (l.set k v))) := by
 unfold zq
 rw [hf]
 dsimp only [bnd]
 unfold wm
 rw [ho]
 show ((zeg c H1[a]? _).map _).map _ = _
 rw [ha]
 show ((if c = c then (if k < l.length then some (H1.set a (.obj c (l.set k v))) else _) else none).map _).map _ = _
 rw [if_pos rfl, if_pos hk]
 rfl
theorem zqy (R : Rep t H) (x : Int) : Op t H (t.wHe x) (H.set t.r (({ t with he := x } : T).is .obj)) :=
 .set (k := .obj) R rfl (fun k => by cases k <;> rfl) rfl (R.upd { t with he := x } (k := .obj) rfl (fun k => by cases k <;> rfl) (fun k h => by cases k <;> first | rfl | exact absurd rfl h) rfl)
theorem TI.he (I : TI n lots t) (x : Int) : TI n lots { t with he := x } := ⟨I.as, I.n1, I.n6, ⟨I.len.lv, I.len.rs, I.len.sp, I.len.as, I.len.tr, I.len.st⟩, I.ph, I.W, I.C, I.cl, I.val, I.one, I.ndo, I.sp, I.unk, I.rsn, I.wat, I.cut, I.st, I.stl, I.a0⟩
theorem Ext.he {t' : T} (E : Ext t t') (x : Int) : Ext t { t' with he := x } := ⟨E.tr, E.old, E.new, E.st, E.ph, E.hp⟩
theorem TI.trlen (I : TI n lots t) : t.tr.length ≤ n := by
 have := zbz (n := n) I.ndo fun x hx => by
  obtain ⟨l, hl, rfl⟩ := zso.mp hx
  exact I.one l hl
 rwa [zsk] at this
theorem zg5.trans {P Q Q' : List Int} (x : zg5 lots P Q) (y : zg5 lots Q Q') : zg5 lots P Q' := fun S hS hb => y S hS (x S hS hb)
theorem zrl (R : Rep t H) (I : TI n lots t) (G : LG n lots) {k : Nat} (hk : t.he = k) (hkl : k ≤ t.tr.length) (wl : WL t.ls (t.tr.take k) t.tr) (hst : ∀ q : Nat, (q : Int) ∈ t.st → q ≤ k) :
  ∃ c t' H', yd [.ref t.r] H = some (.int c, H') ∧ Op t H t' H' ∧ TI n lots t' ∧ t'.he = t'.tr.length ∧ Ext t t' ∧ zg5 lots t.tr t'.tr ∧
   ((c = -1 ∧ WL t'.ls t'.tr t'.tr) ∨ (c ≠ -1 ∧ ∃ c0 ∈ lots, ∀ l ∈ c0, -l ∈ t'.tr)) := by
 have n6 := I.n6
 have rule := zdn (t := z9 .Lt (zp 1 10 (zd 0)) (z4 b.len [(zp 1 8 (zd 0))])) (b := qt) (n := zjf)
  (fun m lo H1 => ∃ t1 k1, m = n - k1 ∧ (∃ u w, lo = [some (.ref t.r), u, w]) ∧ Op t H t1 H1 ∧ TI n lots t1 ∧ t1.he = (k1 : Nat) ∧ k1 ≤ t1.tr.length ∧ k ≤ k1 ∧ Ext t t1 ∧ zg5 lots t.tr t1.tr ∧ WL t1.ls (t1.tr.take k1) t1.tr)
  (Q := fun lo H1 => ∃ t1, (∃ u w, lo = [some (.ref t.r), u, w]) ∧ Op t H t1 H1 ∧ TI n lots t1 ∧ t1.he = t1.tr.length ∧ Ext t t1 ∧ zg5 lots t.tr t1.tr ∧ WL t1.ls t1.tr t1.tr)
  (R := fun v lo H1 => ∃ c t1, v = .int c ∧ Op t H t1 H1 ∧ TI n lots t1 ∧ t1.he = t1.tr.length ∧ Ext t t1 ∧ zg5 lots t.tr t1.tr ∧ c ≠ -1 ∧ ∃ c0 ∈ lots, ∀ l ∈ c0, -l ∈ t1.tr)
  (fun m lo H1 hI => by
   obtain ⟨t1, k1, hm, ⟨u, w, hlo⟩, O, I1, hk1, hkl1, hkk, E, Sm, wl1⟩ := hI
   subst hlo
   have hr := O.r
   have tl := I1.trlen
   have l0 : ∀ {u w : Option MV} {H : St}, zd 0 [some (.ref t.r), u, w] H = some (.ref t1.r, H) := by intro u w H; rw [hr]; rfl
   have a1 : ∀ {u w : Option MV}, zp 1 10 (zd 0) [some (.ref t.r), u, w] H1 = some (.int t1.he, H1) := O.rep.attr rfl l0 rfl
   have a2 : ∀ {u w : Option MV}, z4 b.len [zp 1 8 (zd 0)] [some (.ref t.r), u, w] H1 = some (.int t1.tr.length, H1) := by
    intro u w
    have := jh (f := zp 1 8 (zd 0)) (lo := [some (.ref t.r), u, w]) (O.rep.attr rfl l0 rfl) (O.rep.at' .tr _ rfl) (by rw [zsk]; lia)
    rw [zsk] at this; exact this
   refine ⟨decide (t1.he < t1.tr.length), H1, wi a1 a2 rfl, ?_⟩
   by_cases hlt : k1 < t1.tr.length
   ·rw [if_pos (decide_eq_true (by rw [hk1]; lia))]
    refine ⟨n - k1 - 1, by lia, ?_⟩
    have gx := qi hlt
    generalize t1.tr.getD k1 0 = x at gx
    have s1 := zma (yo (f := zp 1 8 (zd 0)) (g := zp 1 10 (zd 0)) (lo := [some (.ref t.r), u, w]) (O.rep.attr rfl l0 rfl) a1 (O.rep.at' .tr _ rfl) (by rw [hk1]; lia) (by rw [hk1]; exact gx) (by lia))
    have s2 := xj (jt (g := zh (.int 1)) (y := 1) (a1 (u := some (.int (-x))) (w := w)) rfl) (l0 (u := some (.int (-x)))) (O.rep.at' .obj _ rfl) (k := 10) (by show 10 < 17; decide)
    have O2 := O.trans (zqy O.rep (t1.he + 1))
    have e2 : (MO.obj 1 (List.set [.none, .ref (t1.r + 1), .ref (t1.r + 2), .ref (t1.r + 3), .ref (t1.r + 4), .ref (t1.r + 5), .ref (t1.r + 8), .ref (t1.r + 9), .ref t1.ta, .ref t1.sa, .int t1.he, .int t1.to, .ref (t1.r + 15), .ref (t1.r + 16), .ref (t1.r + 17), .ref (t1.r + 18), .int 0] 10 (.int (t1.he + 1)))) = (({ t1 with he := t1.he + 1 } : T).is .obj) := rfl
    rw [e2] at s2
    generalize H1.set t1.r (({ t1 with he := t1.he + 1 } : T).is .obj) = H2 at s2 O2
    obtain ⟨c, t3, H3, e3, O3, I3, h3, E3, Sm3, hc⟩ := zq1 (t := { t1 with he := t1.he + 1 }) (gone := -x) (h0 := k1) O2.rep (I1.he _) G (by rw [zwc]; exact gx) wl1 fun q hq => by
     have := hst q (E.st ▸ hq); lia
    have O13 := O2.trans O3
    have E13 : Ext t t3 := (E.he (t1.he + 1)).trans E3 I3.ndo
    have Sm13 : zg5 lots t.tr t3.tr := Sm.trans Sm3
    have s3 := wc (i := 2) (lo := [some (.ref t.r), some (.int (-x)), w]) ((yu (F := uw) (f := zd 0) (g := zd 1) (l0 (u := some (.int (-x)))) (O2.rep.at' .obj _ rfl) rfl).trans e3) (by simp)
    unfold qt
    rw [zj (wc s1 (by simp))]
    show zeh (zw _ _ [some (.ref t.r), some (.int (-x)), w] H1) _ _ _
    rw [zj s2, zj s3]
    show zeh (zw _ _ [some (.ref t.r), some (.int (-x)), some (.int c)] H3) _ _ _
    have hr3 : t3.r = t.r := O13.r
    have l0' : zd 0 [some (.ref t.r), some (.int (-x)), some (.int c)] H3 = some (.ref t3.r, H3) := by rw [hr3]; rfl
    have c4 := wi (op := .NotEq) (f := zd 2) (g := zh (.int (-1))) (lo := [some (.ref t.r), some (.int (-x)), some (.int c)]) (H := H3) (x := .int c) (y := .int (-1)) (b := c != -1) rfl rfl rfl
    have tl3 := I3.trlen
    rcases hc with ⟨rfl, wl3⟩ | ⟨hne, cf⟩
    ·rw [zj ((yw c4).trans rfl)]
     have h3' : t3.he = ((k1 + 1 : Nat) : Int) := by rw [h3]; show t1.he + 1 = _; rw [hk1]; rfl
     exact ⟨n - (k1 + 1), by lia, t3, k1 + 1, rfl, ⟨_, _, rfl⟩, O13, I3, h3', by have := E3.tr.length_le; show k1 + 1 ≤ _; have e9 : t1.tr.length ≤ t3.tr.length := this; lia, by lia, E13, Sm13, wl3⟩
    ·rw [bne_iff_ne.mpr hne] at c4
     have a5 := jh (f := zp 1 8 (zd 0)) (lo := [some (.ref t.r), some (.int (-x)), some (.int c)]) (O13.rep.attr rfl l0' rfl) (O13.rep.at' .tr _ rfl) (by rw [zsk]; lia)
     rw [zsk] at a5
     have s5 := xj a5 l0' (O13.rep.at' .obj _ rfl) (k := 10) (by show 10 < 17; decide)
     have O5 := O13.trans (zqy O13.rep t3.tr.length)
     rw [wq ((kr c4).trans ((zj s5).trans (wq (qc (f := zd 2) rfl))))]
     exact ⟨c, _, rfl, O5, I3.he _, rfl, E13.he _, Sm13, hne, cf⟩
   ·rw [if_neg (by rw [hk1]; simp; lia)]
    have : k1 = t1.tr.length := by lia
    exact ⟨t1, ⟨u, w, rfl⟩, O, I1, by rw [hk1, this], E, Sm, by rw [this, zto] at wl1; exact wl1⟩)
  (k := n - k) (by show n - k < 200; omega) (lo := [some (.ref t.r), none, none]) (H := H) ⟨t, k, rfl, ⟨none, none, rfl⟩, Op.refl R, I, hk, hkl, zwt _, Ext.refl t, fun S _ hb => hb, wl⟩
 rcases rule.both with ⟨lo, H1, e1, t1, ⟨u, w, rfl⟩, O, I1, h1, E, Sm, wl1⟩ | ⟨v, lo, H1, e1, c, t1, rfl, O, I1, h1, E, Sm, hne, cf⟩
 ·exact ⟨-1, t1, H1, y8 rfl ((zj e1).trans (wq (qc rfl))), O, I1, h1, E, Sm, .inl ⟨rfl, wl1⟩⟩
 ·exact ⟨c, t1, H1, y8 rfl (wq e1), O, I1, h1, E, Sm, .inr ⟨hne, cf⟩⟩
end
end Mine
namespace Mine
structure znm (t : T) (lit : Int) (t' : T) : Prop where
 tr : t.tr ++ [lit] <+: t'.tr
 old : ∀ v : Nat, (∀ l ∈ t'.tr, l ∉ t.tr → l.natAbs ≠ v) → t'.lv[v]? = t.lv[v]? ∧ t'.rs[v]? = t.rs[v]? ∧ t'.sp[v]? = t.sp[v]?
 new : ∀ l ∈ t'.tr, l ∉ t.tr → t'.lv[l.natAbs]? = some ((t.st.length + 1 : Nat) : Int)
 st : t'.st = t.st ++ [(t.tr.length : Int)]
 ph : t'.ph = t.ph
 hp : t'.hp = t.hp ∧ t'.pl = t.pl ∧ t'.ac = t.ac
section
variable {n : Nat} {lots : List (List Int)} {lit : Int} {t : T} {H : St}
noncomputable def T.lift (t : T) (lit : Int) : T := ({ t with st := t.st ++ [(t.tr.length : Int)] } : T).enq lit (-1)
theorem TI.stlen (I : TI n lots t) : t.st.length ≤ t.tr.length := by
 have := zdv (n := t.tr.length) (g := t.st.map (· + 1)) (fun v hv => by
  obtain ⟨x, hx, rfl⟩ := zso.mp hv
  have := I.stl x hx
  lia) (by
  rw [ztq, ztr]
  exact I.st.imp fun h e => by lia)
 rwa [zsk] at this
theorem TI.lift (I : TI n lots t) (h1 : 1 ≤ lit.natAbs) (h2 : lit.natAbs ≤ n) (n1 : lit ∉ t.tr) (n2 : -lit ∉ t.tr) (wl : WL t.ls t.tr t.tr) : TI n lots (t.lift lit) := by
 have hb : lit.natAbs < t.as.length := by rw [I.as]; lia
 have tl := I.trlen
 have sl := I.stlen
 have n6 := I.n6
 have nin : lit.natAbs ∉ t.tr.map zv6 := fun q => by
  obtain ⟨l, hl, e⟩ := zso.mp q
  rcases (show l = lit ∨ l = -lit by lia) with rfl | rfl
  ·exact n1 hl
  ·exact n2 hl
 have nd : ((t.tr ++ [lit]).map zv6).Nodup := by
  rw [zs3, zte]
  refine ⟨I.ndo, by simp, fun a ha b hb e => nin ?_⟩
  simp at hb
  exact hb ▸ e ▸ ha
 have tln : t.tr.length + 1 ≤ n := by
  have := zbz (n := n) nd fun x hx => by
   obtain ⟨l, hl, rfl⟩ := zso.mp hx
   rcases zs0.mp hl with q | q
   ·exact I.one l q
   ·rw [zsq.mp q]; exact ⟨h1, h2⟩
  rw [zsk, zs1] at this
  exact this
 have tk : ∀ i, i ≤ t.tr.length → (t.tr ++ [lit]).take i = t.tr.take i := fun i hi => zt0 hi
 refine ⟨by simp [T.lift, T.enq, I.as], I.n1, I.n6, ⟨by simp [T.lift, T.enq, I.len.lv], by simp [T.lift, T.enq, I.len.rs], by simp [T.lift, T.enq, I.len.sp], by simp [T.lift, T.enq]; exact I.len.as, by simp [T.lift, T.enq]; lia, by simp [T.lift, T.enq]; lia⟩, I.ph, I.W, I.C, I.cl, fun l a1 a2 => ?_, fun l hl => ?_, nd, ?_, fun v v1 v2 hv => ?_, fun i l hi => ?_, I.wat, fun q hq => ?_, ?_, fun q hq => ?_, (zsn (by lia)).trans I.a0⟩
 ·have := zmj (t := ({ t with st := t.st ++ [(t.tr.length : Int)] } : T)) (o := lit) (num := -1) (l := l) h1 hb a1
  unfold T.lift
  rw [this]
  show _ = if l ∈ t.tr ++ [lit] then (1 : Int) else if -l ∈ t.tr ++ [lit] then -1 else 0
  by_cases e1 : l = lit
  ·rw [if_pos e1, if_pos (zth _ (by rw [e1]; exact .head _))]
  ·by_cases e2 : l = -lit
   ·rw [if_neg e1, if_pos e2, if_neg (fun hm => ?_), if_pos (zth _ (by rw [e2, zwc]; exact .head _))]
    rcases zs0.mp hm with q | q
    ·exact n2 (e2 ▸ q)
    ·exact e1 (zsq.mp q)
   ·rw [if_neg e1, if_neg e2]
    have m1 : l ∈ t.tr ++ [lit] ↔ l ∈ t.tr := ⟨fun hm => (zs0.mp hm).resolve_right fun q => e1 (zsq.mp q), zta _⟩
    have m2 : -l ∈ t.tr ++ [lit] ↔ -l ∈ t.tr := ⟨fun hm => (zs0.mp hm).resolve_right fun q => e2 (by have := zsq.mp q; lia), zta _⟩
    simp only [m1, m2]
    exact I.val l a1 a2
 ·rcases zs0.mp hl with q | q
  ·exact I.one l q
  ·rw [zsq.mp q]; exact ⟨h1, h2⟩
 ·exact zk6.enq (t := ({ t with st := t.st ++ [(t.tr.length : Int)] } : T)) I.sp (by show _ < t.sp.length; rw [I.len.sp]; exact hb) nin
 ·have hv' : (t.as.set lit.natAbs (if lit > 0 then 1 else -1)).getD v 0 = 0 := hv
  show (t.rs.set lit.natAbs (-1))[v]? = _
  by_cases e : lit.natAbs = v
  ·rw [e, zsy (by rw [I.len.rs, ← e]; exact hb)]
  ·rw [zsz, zsn e, ← zsz] at hv'
   rw [zsn e]
   exact I.unk v v1 v2 hv'
 ·have hi' : (t.tr ++ [lit])[i]? = some l := hi
  show (t.rs.set lit.natAbs (-1))[l.natAbs]? = _ ∨ ∃ (j a : Nat) (c : List Int), (t.rs.set lit.natAbs (-1))[l.natAbs]? = _ ∧ t.C[j]? = _ ∧ ∀ l' ∈ c, l' = l ∨ -l' ∈ (t.tr ++ [lit]).take i
  by_cases hlt : i < t.tr.length
  ·rw [zst hlt] at hi'
   rw [zsn (fun e => nin (by rw [e]; exact zs5 (zsm hi'))), tk i (by lia)]
   exact I.rsn i l hi'
  ·rw [zs2 (by lia)] at hi'
   have : l = lit := by
    have h9 := (zsl.mp hi').1
    simp at h9
    have : i - t.tr.length = 0 := by assumption
    rw [this] at hi'
    exact (zvu.inj hi').symm
   rw [this]
   exact .inl (zsy (by rw [I.len.rs]; exact hb))
 ·show WL t.ls ((t.tr ++ [lit]).take q) ((t.tr ++ [lit]).take q)
  have hq' : (q : Int) ∈ t.st ++ [(t.tr.length : Int)] := hq
  rcases zs0.mp hq' with h | h
  ·have := I.stl _ h
   rw [tk q (by lia)]
   exact I.cut q h
  ·have : q = t.tr.length := by have := zsq.mp h; lia
   rw [tk q (by lia), this, zto]
   exact wl
 ·show (t.st ++ [(t.tr.length : Int)]).Pairwise _
  rw [List.pairwise_append]
  refine ⟨I.st, zvl .., fun a ha b hb => ?_⟩
  rw [zsq.mp hb]
  exact (I.stl a ha).2
 ·have hq' : q ∈ t.st ++ [(t.tr.length : Int)] := hq
  show 0 ≤ q ∧ q < ((t.tr ++ [lit]).length : Int)
  rw [zs1, ztt]
  rcases zs0.mp hq' with h | h
  ·have := I.stl _ h; lia
  ·have := zsq.mp h; lia
theorem op_st (R : Rep t H) (l : List Int) : Op t H (t.wSt l) (H.set t.sa (il l)) :=
 .set (k := .st) R rfl (fun k => by cases k <;> rfl) rfl (R.upd { t with st := l } (k := .st) rfl (fun k => by cases k <;> rfl) (fun k h => by cases k <;> first | rfl | exact absurd rfl h) rfl)
theorem zdi (R : Rep t H) {f : DE} {lo : Lo} (hf : f lo H = some (.ref t.r, H)) (hs : t.tr.length ≤ 1000) : z4 b.len [zp 1 8 f] lo H = some (.int t.tr.length, H) := by
 have := jh (f := zp 1 8 f) (lo := lo) (R.attr rfl hf rfl) (R.at' .tr _ rfl) (by rw [zsk]; lia)
 rw [zsk] at this; exact this
theorem zm8 (R : Rep t H) {f : DE} {lo : Lo} {a b : DS} (hf : f lo H = some (.ref t.r, H)) : yt (z9 .IsNot (zp 1 0 f) (zh .none)) a b lo H = b lo H :=
 yw (wi (x := .none) (R.attr rfl hf rfl) rfl rfl)
theorem zpw (R : Rep t H) (h1 : t.tr.length ≤ 1000) (h2 : t.st.length ≤ 1000) : ∃ H', jz [.ref t.r] H = some (.none, H') ∧ Op t H { t with st := t.st ++ [(t.tr.length : Int)] } H' := by
 have s1 := qu (f := zp 1 9 (zd 0)) (g := z4 b.len [zp 1 8 (zd 0)]) (lo := [some (.ref t.r)]) (H := H) (R.attr rfl rfl rfl) (zdi R rfl h1) ⟨_, R.at' .st _ rfl⟩ (R.at' .st _ rfl) (by rw [zsk]; lia)
 rw [ky] at s1
 have O := op_st R (t.st ++ [(t.tr.length : Int)])
 refine ⟨_, us rfl (lo' := [some (.ref t.r)]) ((zj s1).trans ((zj ((zm8 O.rep rfl).trans rfl)).trans rfl)), O⟩
theorem enq_op (R : Rep t H) (Ln : Len t) {l num : Int} (hb : l.natAbs < t.as.length) : ∃ H', qe [.ref t.r, .int l, .int num] H = some (.none, H') ∧ Op t H (t.enq l num) H' := by
 refine zvt fun hq0 => ?_
 obtain ⟨H', e, R', O, hl⟩ := zql R Ln hb (num := num)
 refine hq0 ?_
 exact ⟨H', e, R', O, fun k a h => .inr ⟨k, by rw [← h]; cases k <;> rfl⟩, rfl⟩
theorem zr0 (R : Rep t H) (I : TI n lots t) (G : LG n lots) (hh : t.he = t.tr.length) (wl : WL t.ls t.tr t.tr) (h1 : 1 ≤ lit.natAbs) (h2 : lit.natAbs ≤ n) (n1 : lit ∉ t.tr) (n2 : -lit ∉ t.tr) :
  ∃ b t' H', yr [.ref t.r, .int lit] H = some (.bool b, H') ∧ Op t H t' H' ∧ TI n lots t' ∧ t'.he = t'.tr.length ∧ znm t lit t' ∧ zg5 lots (t.tr ++ [lit]) t'.tr ∧
   ((b = true ∧ WL t'.ls t'.tr t'.tr) ∨ (b = false ∧ ∃ c0 ∈ lots, ∀ l ∈ c0, -l ∈ t'.tr)) := by
 have tl := I.trlen
 have sl := I.stlen
 have n6 := I.n6
 refine zvt fun hq0 => ?_
 obtain ⟨H1, e1, O1⟩ := zpw R (by lia) (by lia)
 have I2 := I.lift h1 h2 n1 n2 wl
 obtain ⟨H2, e2, O2⟩ := enq_op (t := { t with st := t.st ++ [(t.tr.length : Int)] }) (l := lit) (num := -1) O1.rep ⟨I.len.lv, I.len.rs, I.len.sp, I.len.as, I.len.tr, by show (t.st ++ [_]).length ≤ 100; simp; lia⟩ (by show _ < t.as.length; rw [I.as]; lia)
 have htr : (t.lift lit).tr = t.tr ++ [lit] := rfl
 obtain ⟨c, t3, H3, e3, O3, I3, h3, E3, Sm3, hc⟩ := zrl (t := t.lift lit) O2.rep I2 G (k := t.tr.length) hh (by rw [htr]; simp) (by
  rw [htr, zvi]; exact wl.more lit) fun q hq => by
   have hq' : (q : Int) ∈ t.st ++ [(t.tr.length : Int)] := hq
   rcases zs0.mp hq' with h | h
   ·have := I.stl _ h; lia
   ·have := zsq.mp h; lia
 have sub1 : ∀ l ∈ t.tr ++ [lit], l ∈ t3.tr := E3.tr.subset
 have ea : ∀ {lo : Lo} {H : St}, uf (zh (.int 1)) lo H = some (.int (-1), H) := rfl
 have b4 := zex (op := .Eq) (f := z5 1 yd (zd 0) []) (lo := [some (.ref t.r), some (.int lit)]) (H := H2) ((qf (F := yd) (f := zd 0) (lo := [some (.ref t.r), some (.int lit)]) rfl (O2.rep.at' .obj _ rfl)).trans e3) ea (b := c == -1) rfl
 refine hq0 ?_
 refine ⟨c == -1, t3, H3, ?_, (O1.trans O2).trans O3, I3, h3, ⟨E3.tr, fun v hv => ?_, fun l hl hn => ?_, E3.st, E3.ph, E3.hp⟩, Sm3, ?_⟩
 ·refine y8 rfl (lo' := [some (.ref t.r), some (.int lit)]) ?_
  refine (zj (qj (v := .none) ((qf (F := jz) (f := zd 0) rfl (R.at' .obj _ rfl)).trans e1))).trans ((zj (qj (v := .none) ?_)).trans (wq (qc b4)))
  exact (ul (F := qe) (f := zd 0) (g := zd 1) rfl (O1.rep.at' .obj _ rfl) rfl rfl).trans e2
 ·have hv2 : lit.natAbs ≠ v := hv lit (sub1 _ (by simp)) n1
  obtain ⟨q1, q2, q3⟩ := E3.old v fun l hl hn => hv l hl fun q => hn (by rw [htr]; exact zta _ q)
  exact ⟨q1.trans (zsn hv2), q2.trans (zsn hv2), q3.trans (zsn hv2)⟩
 ·have e9 : (t.lift lit).st.length = t.st.length + 1 := by show (t.st ++ [_]).length = _; simp
  by_cases q : l ∈ t.tr ++ [lit]
  ·have : l = lit := zsq.mp ((zs0.mp q).resolve_left hn)
   subst this
   rw [(E3.old l.natAbs fun l' h1' h2' e => h2' (by rw [htr, zff I3.ndo h1' (sub1 l q) e]; exact q)).1]
   show (t.lv.set l.natAbs ((t.st ++ [(t.tr.length : Int)]).length : Int))[l.natAbs]? = _
   rw [zsy (by rw [I.len.lv, I.as]; lia), zs1]; rfl
  ·rw [E3.new l hl q, e9]
 ·rcases hc with ⟨rfl, h⟩ | ⟨hne, h⟩
  ·exact .inl ⟨rfl, h⟩
  ·exact .inr ⟨beq_eq_false_iff_ne.mpr hne, h⟩
end
end Mine
namespace Mine
noncomputable def sgn (l : Int) : Int := if l > 0 then 1 else -1
structure Cut (t : T) (g s : Nat) (t' : T) : Prop where
 tr : t'.tr = t.tr.take s
 st : t'.st = t.st.take g
 he : t'.he = if (s : Int) < t.he then (s : Int) else t.he
 lv : t'.lv = t.lv
 sp : t'.sp = t.sp
 keep : ∀ v : Nat, v ∉ (t.tr.drop s).map zv6 → t'.as[v]? = t.as[v]? ∧ t'.rs[v]? = t.rs[v]? ∧ t'.ph[v]? = t.ph[v]?
 gone : ∀ l ∈ t.tr.drop s, t'.as[l.natAbs]? = some 0 ∧ t'.rs[l.natAbs]? = some (-1) ∧ t'.ph[l.natAbs]? = some (sgn l)
 phl : t'.ph.length = t.ph.length
 hp : ∀ w : Int, w ∈ t'.hp ↔ w ∈ t.hp ∨ ∃ l ∈ t.tr.drop s, w = l.natAbs
 ac : t'.ac = t.ac
section
variable {n : Nat} {lots : List (List Int)} {t t' : T} {H : St}
theorem op_as (R : Rep t H) (l : List Int) : Op t H (t.wAs l) (H.set (t.r + 1) (il l)) :=
 .set (k := .as) R rfl (fun k => by cases k <;> rfl) rfl (R.set_as l)
theorem op_rs (R : Rep t H) (l : List Int) : Op t H (t.wRs l) (H.set (t.r + 3) (il l)) :=
 .set (k := .rs) R rfl (fun k => by cases k <;> rfl) rfl (R.set_rs l)
theorem op_ph (R : Rep t H) (l : List Int) : Op t H (t.wPh l) (H.set (t.r + 5) (il l)) :=
 .set (k := .ph) R rfl (fun k => by cases k <;> rfl) rfl (R.upd { t with ph := l } (k := .ph) rfl (fun k => by cases k <;> rfl) (fun k h => by cases k <;> first | rfl | exact absurd rfl h) rfl)
theorem op_to (R : Rep t H) (x : Int) : Op t H (t.wTo x) (H.set t.r (({ t with to := x } : T).is .obj)) :=
 .set (k := .obj) R rfl (fun k => by cases k <;> rfl) rfl (R.upd { t with to := x } (k := .obj) rfl (fun k => by cases k <;> rfl) (fun k h => by cases k <;> first | rfl | exact absurd rfl h) rfl)
theorem zm0 (R : Rep t H) {k0 : Kd} (hk0 : k0 ≠ .obj) (hat0 : t'.at k0 = some H.length) (hat : ∀ k, k ≠ k0 → t'.at k = t.at k) (his : ∀ k, k ≠ k0 → k ≠ .obj → t'.is k = t.is k) (hr : t'.r = t.r) :
  Op t H t' ((H ++ [t'.is k0]).set t.r (t'.is .obj)) := by
 have ho : t.at .obj = some t.r := rfl
 have hlt := R.lt ho
 have ne : t.r ≠ H.length := zwu hlt
 have ho' : t'.at .obj = some t.r := (hat .obj (Ne.symm hk0)).trans ho
 refine ⟨⟨fun k a h => ?_, fun k1 k2 a h1 h2 => ?_⟩, ⟨by simp, fun a h1 h2 => ?_⟩, fun k a h => ?_, hr⟩
 ·by_cases e : k = k0
  ·subst e
   rw [hat0] at h; cases h
   rw [zsn ne]; simp
  ·rw [hat k e] at h
   by_cases e2 : k = .obj
   ·subst e2
    rw [ho] at h; cases h
    rw [zsy (by simp; lia)]
   ·have : t.r ≠ a := fun q => e2 (R.inj k .obj a h (q ▸ ho))
    rw [zsn this, zst (R.lt h), R.at' k a h, his k e e2]
 ·by_cases e1 : k1 = k0
  ·by_cases e2 : k2 = k0
   ·rw [e1, e2]
   ·subst e1
    rw [hat0] at h1; cases h1
    rw [hat k2 e2] at h2
    exact absurd (R.lt h2) (zwx _)
  ·by_cases e2 : k2 = k0
   ·subst e2
    rw [hat0] at h2; cases h2
    rw [hat k1 e1] at h1
    exact absurd (R.lt h1) (zwx _)
   ·rw [hat k1 e1] at h1; rw [hat k2 e2] at h2
    exact R.inj k1 k2 a h1 h2
 ·have : t.r ≠ a := fun q => h1 .obj (q ▸ ho)
  rw [zsn this, zst h2]
 ·by_cases e : k = k0
  ·subst e
   rw [hat0] at h; cases h
   exact .inl (zwt _)
  ·exact .inr ⟨k, (hat k e).symm.trans h⟩
theorem zil {f g : DE} {lo : Lo} {H : St} {a : Nat} {l : List MV} {i : Nat} (hf : f lo H = some (.ref a, H)) (hg : g lo H = some (.int (i : Int), H)) (ha : H[a]? = some (.list l)) (hs : l.length ≤ 1000000) :
  kx f none (some g) none lo H = some (.ref H.length, H ++ [.list (l.take i)]) := by
 unfold kx zf9
 simp only [hf, hg, bnd_some, zif ha]
 rw [if_neg (by simp)]; show (if small l.length then _ else _) = _; rw [if_pos (by simpa [small] using hs), zh6]
theorem zlk {a b : Nat} (h : b ≤ a) : j9 ((a : Int) - 1) ((b : Int) - 1) (-1) = (zsr (a - b)).map fun i : Nat => .int ((a : Int) - 1 - i) := by
 unfold j9 zxq
 rw [if_neg (by decide)]
 have e : (if (a : Int) - 1 > (b : Int) - 1 then ((a : Int) - 1 - ((b : Int) - 1) - 1) / (- -1) + 1 else 0).toNat = a - b := by
  by_cases h2 : b < a
  ·rw [if_pos (by lia), show (- -1 : Int) = 1 from rfl, Int.ediv_one]; lia
  ·rw [if_neg (by lia)]; lia
 rw [e]
 congr 1
 funext i
 congr 1
 lia
theorem zr6 {f : DE} {g : DT} {b : DS} {lo : Lo} {H H1 : St} {x y : Nat} (hf : f lo H = some (.rng ((x : Int) - 1) ((y : Int) - 1) (-1), H1)) (h : y ≤ x) (hx : x ≤ 1000) :
  u9 f g b lo H = zmf g b ((zsr (x - y)).map fun i : Nat => .int ((x : Int) - 1 - i)) lo H1 := by
 unfold u9; rw [hf]; simp only [bnd_some, zdj]
 have e : zxq ((x : Int) - 1) ((y : Int) - 1) (-1) = ((x - y : Nat) : Int) := by
  unfold zxq
  rw [if_neg (by decide)]
  by_cases h2 : y < x
  ·rw [if_pos (by lia), show (- -1 : Int) = 1 from rfl, Int.ediv_one]; lia
  ·rw [if_neg (by lia)]; lia
 have hs : zxr ((x : Int) - 1) ((y : Int) - 1) (-1) = true := by
  unfold zxr zxs
  rw [e]
  simp
  lia
 rw [if_pos hs, zlk h]; rfl
theorem zog {f g h : DE} {lo : Lo} {H H1 H2 H3 : St} {x y : Int} (hf : f lo H = some (.int x, H1)) (hg : g lo H1 = some (.int y, H2)) (hh : h lo H2 = some (.int (-1), H3)) : z4 b.range [f, g, h] lo H = some (.rng x y (-1), H3) := by
 unfold z4; rw [vu hf hg hh]; rfl
theorem zqk {f g : DE} {lo : Lo} {H H1 H2 : St} {x y : Int} (hf : f lo H = some (.int x, H1)) (hg : g lo H1 = some (.int y, H2)) : z4 b.min [f, g] lo H = some (.int (if y < x then y else x), H2) := by
 unfold z4; rw [zb0 hf hg]; rfl
end
end Mine
namespace Mine
section
variable {n g s : Nat} {lots : List (List Int)} {t t' : T} {H : St}
structure CI (n : Nat) (t : T) (Z : List Int) (a r p h q : List Int) : Prop where
 al : a.length = n + 1
 rl : r.length = n + 1
 pl : p.length = n + 1
 heap : HOk n t.ac h q
 keep : ∀ v : Nat, v ∉ Z.map zv6 → a[v]? = t.as[v]? ∧ r[v]? = t.rs[v]? ∧ p[v]? = t.ph[v]?
 gone : ∀ l ∈ Z, a[l.natAbs]? = some 0 ∧ r[l.natAbs]? = some (-1) ∧ p[l.natAbs]? = some (sgn l)
 hp : ∀ w : Int, w ∈ h ↔ w ∈ t.hp ∨ ∃ l ∈ Z, w = l.natAbs
theorem TI.sgn (I : TI n lots t) {l : Int} (h : l ∈ t.tr) : t.as[l.natAbs]? = some (sgn l) := by
 obtain ⟨h1, h2⟩ := I.one l h
 have := I.val l h1 h2
 rw [if_pos h] at this
 have hb : l.natAbs < t.as.length := by rw [I.as]; lia
 rw [qi hb]
 unfold T.val at this
 unfold Mine.sgn
 by_cases hl : l > 0
 ·rw [if_pos hl] at this ⊢; rw [this]
 ·rw [if_neg hl] at this ⊢; rw [show t.as.getD l.natAbs 0 = -1 by lia]
theorem zj8 (I : TI n lots t) {Z : List Int} {a r p h q : List Int} {H1 : St} (O : Op t H { t with as := a, rs := r, ph := p, hp := h, pl := q } H1) (C : CI n t Z a r p h q) {k : Nat} {x : Int} (hx : t.tr[k]? = some x) (hZ : x.natAbs ∉ Z.map zv6)
  {v1 v2 v3 v5 : Option MV} : ∃ a' r' p' h' q' H2, Op t H { t with as := a', rs := r', ph := p', hp := h', pl := q' } H2 ∧ CI n t (x :: Z) a' r' p' h' q' ∧
   qg [some (.ref t.r), v1, v2, v3, some (.int k), v5] H1 = some (.next, [some (.ref t.r), v1, v2, v3, some (.int k), some (.int x.natAbs)], H2) := by
 have hm := zsm hx
 refine zvt fun hq0 => ?_
 obtain ⟨x1, x2⟩ := I.one x hm
 have n6 := I.n6
 have tl := I.trlen
 have s1 := xk (yo (f := zp 1 8 (zd 0)) (g := zd 4) (lo := [some (.ref t.r), v1, v2, v3, some (.int k), v5]) (H := H1) (O.rep.attr rfl rfl rfl) rfl (O.rep.at' .tr _ rfl) (i := (k : Int)) (by lia) hx (by show t.tr.length < 1000; lia))
 have ka : ∀ {u : Option MV} {t1 : T} {H : St} {l : List MV} {j : Nat} {w : MV}, Rep t1 H → t1.r = t.r → t1.is .obj = .obj 1 l → l[j]? = some w → zp 1 j (zd 0) [some (.ref t.r), v1, v2, v3, some (.int k), u] H = some (w, H) := fun R e h1 h2 => R.attr h1 (by rw [e]; rfl) h2
 have gp : a[x.natAbs]? = some (sgn x) := (C.keep _ hZ).1.trans (I.sgn hm)
 have s2 := ki (f := wd (zp 1 1 (zd 0)) (zd 5)) (fa := zp 1 5 (zd 0)) (fi := zd 5) (lo := [some (.ref t.r), v1, v2, v3, some (.int k), some (.int x.natAbs)]) (H := H1) (v := .int (sgn x)) (i := (x.natAbs : Int))
  (yo (ka O.rep rfl rfl rfl) rfl (O.rep.at' .as _ rfl) (by lia) gp (by show a.length < 1000; rw [C.al]; lia)) (ka O.rep rfl rfl rfl) rfl (O.rep.at' .ph _ rfl) (by lia) (by rw [zsk]; show x.natAbs < p.length; rw [C.pl]; lia) (by rw [zsk]; show p.length < _; rw [C.pl]; lia)
 rw [map_set] at s2
 have O2 := O.trans (op_ph O.rep (p.set x.natAbs (sgn x)))
 change zq _ _ _ H1 = some (.next, _, H1.set (t.r + 5) (il (p.set x.natAbs (sgn x)))) at s2
 generalize H1.set (t.r + 5) (il (p.set x.natAbs (sgn x))) = H2 at s2 O2
 have s3 := ki (f := zh (.int 0)) (fa := zp 1 1 (zd 0)) (fi := zd 5) (lo := [some (.ref t.r), v1, v2, v3, some (.int k), some (.int x.natAbs)]) (H := H2) (v := .int 0) (i := (x.natAbs : Int)) rfl (ka O2.rep rfl rfl rfl) rfl (O2.rep.at' .as _ rfl) (by lia) (by rw [zsk]; show x.natAbs < a.length; rw [C.al]; lia) (by rw [zsk]; show a.length < _; rw [C.al]; lia)
 rw [map_set] at s3
 have O3 := O2.trans (op_as O2.rep (a.set x.natAbs 0))
 change zq _ _ _ H2 = some (.next, _, H2.set (t.r + 1) (il (a.set x.natAbs 0))) at s3
 generalize H2.set (t.r + 1) (il (a.set x.natAbs 0)) = H3 at s3 O3
 have s4 := ki (f := zh (.int (-1))) (fa := zp 1 3 (zd 0)) (fi := zd 5) (lo := [some (.ref t.r), v1, v2, v3, some (.int k), some (.int x.natAbs)]) (H := H3) (v := .int (-1)) (i := (x.natAbs : Int)) rfl (ka O3.rep rfl rfl rfl) rfl (O3.rep.at' .rs _ rfl) (by lia) (by rw [zsk]; show x.natAbs < r.length; rw [C.rl]; lia) (by rw [zsk]; show r.length < _; rw [C.rl]; lia)
 rw [map_set] at s4
 have O4 := O3.trans (op_rs O3.rep (r.set x.natAbs (-1)))
 change zq _ _ _ H3 = some (.next, _, H3.set (t.r + 3) (il (r.set x.natAbs (-1)))) at s4
 generalize H3.set (t.r + 3) (il (r.set x.natAbs (-1))) = H4 at s4 O4
 obtain ⟨H5, h5, q5, e5, O5, K5, m5⟩ := zmx (t := { t with as := a.set x.natAbs 0, rs := r.set x.natAbs (-1), ph := p.set x.natAbs (sgn x), hp := h, pl := q }) (v := (x.natAbs : Int)) O4.rep C.heap (by lia) (by lia)
 refine hq0 ?_
 refine ⟨_, _, _, h5, q5, H5, O4.trans O5, ⟨by rw [zsx]; exact C.al, by rw [zsx]; exact C.rl, by rw [zsx]; exact C.pl, K5, fun v hv => ?_, fun l hl => ?_, fun w => ?_⟩, ?_⟩
 ·rw [zs9, zss, not_or] at hv
  obtain ⟨c1, c2, c3⟩ := C.keep v hv.2
  exact ⟨(zsn (Ne.symm hv.1)).trans c1, (zsn (Ne.symm hv.1)).trans c2, (zsn (Ne.symm hv.1)).trans c3⟩
 ·rcases zss.mp hl with rfl | hl
  ·exact ⟨zsy (by rw [C.al]; lia), zsy (by rw [C.rl]; lia), zsy (by rw [C.pl]; lia)⟩
  ·have ne : x.natAbs ≠ l.natAbs := fun e => hZ (by rw [e]; exact zs5 hl)
   obtain ⟨c1, c2, c3⟩ := C.gone l hl
   exact ⟨(zsn ne).trans c1, (zsn ne).trans c2, (zsn ne).trans c3⟩
 ·have m5' : w ∈ h5 ↔ w ∈ h ∨ w = x.natAbs := m5 w
  rw [m5', C.hp w]
  constructor
  ·rintro ((q | ⟨l, hl, e⟩) | q)
   ·exact .inl q
   ·exact .inr ⟨l, .tail _ hl, e⟩
   ·exact .inr ⟨x, .head _, q⟩
  ·rintro (q | ⟨l, hl, e⟩)
   ·exact .inl (.inl q)
   ·rcases zss.mp hl with rfl | hl
    ·exact .inr e
    ·exact .inl (.inr ⟨l, hl, e⟩)
 ·unfold qg
  refine (zj (wc s1 (by simp))).trans ((zj s2).trans ((zj s3).trans ((zj s4).trans ((zj (qj (v := .none) ?_)).trans rfl))))
  exact (yu (F := gn) (f := zp 1 7 (zd 0)) (ka O4.rep rfl rfl rfl) (O4.rep.at' .hob _ rfl) rfl).trans e5
theorem zr8 {l : List Int} {k : Nat} {x : Int} (h : l[k]? = some x) : l.drop k = x :: l.drop (k + 1) := by
 obtain ⟨hk, e⟩ := zsl.mp h
 rw [zvd hk, e]
theorem zq3 (R : Rep t H) {lo : Lo} (l0 : ∀ H, zd 0 lo H = some (.ref t.r, H)) (l3 : zd 3 lo H = some (.int (s : Int), H)) (h : t.tr.length ≤ 1000) :
  ∃ H', zq (kx (zp 1 8 (zd 0)) none (some (zd 3)) none) (wm 1 8 (zd 0)) lo H = some (.next, lo, H') ∧ Op t H { t with ta := H.length, tr := t.tr.take s } H' := by
 have s2 := zil (f := zp 1 8 (zd 0)) (g := zd 3) (i := s) (R.attr rfl (l0 H) rfl) l3 (R.at' .tr _ rfl) (by rw [zsk]; lia)
 rw [← zt9] at s2
 have s2' := xj (c := 1) (k := 8) s2 (l0 _) (l := [.none, .ref (t.r + 1), .ref (t.r + 2), .ref (t.r + 3), .ref (t.r + 4), .ref (t.r + 5), .ref (t.r + 8), .ref (t.r + 9), .ref t.ta, .ref t.sa, .int t.he, .int t.to, .ref (t.r + 15), .ref (t.r + 16), .ref (t.r + 17), .ref (t.r + 18), .int 0]) (by rw [zst (R.lt (k := .obj) rfl)]; exact R.at' .obj _ rfl) (by show 8 < 17; decide)
 exact ⟨_, s2', zm0 (t' := { t with ta := H.length, tr := t.tr.take s }) R (k0 := .tr) (by simp) rfl (fun k hk => by cases k <;> first | rfl | exact absurd rfl hk) (fun k hk ho => by cases k <;> first | rfl | exact absurd rfl hk | exact absurd rfl ho) rfl⟩
theorem zq5 (R : Rep t H) {lo : Lo} (l0 : ∀ H, zd 0 lo H = some (.ref t.r, H)) (l1 : zd 1 lo H = some (.int (g : Int), H)) (h : t.st.length ≤ 1000) :
  ∃ H', zq (kx (zp 1 9 (zd 0)) none (some (zd 1)) none) (wm 1 9 (zd 0)) lo H = some (.next, lo, H') ∧ Op t H { t with sa := H.length, st := t.st.take g } H' := by
 have s2 := zil (f := zp 1 9 (zd 0)) (g := zd 1) (i := g) (R.attr rfl (l0 H) rfl) l1 (R.at' .st _ rfl) (by rw [zsk]; lia)
 rw [← zt9] at s2
 have s2' := xj (c := 1) (k := 9) s2 (l0 _) (l := [.none, .ref (t.r + 1), .ref (t.r + 2), .ref (t.r + 3), .ref (t.r + 4), .ref (t.r + 5), .ref (t.r + 8), .ref (t.r + 9), .ref t.ta, .ref t.sa, .int t.he, .int t.to, .ref (t.r + 15), .ref (t.r + 16), .ref (t.r + 17), .ref (t.r + 18), .int 0]) (by rw [zst (R.lt (k := .obj) rfl)]; exact R.at' .obj _ rfl) (by show 9 < 17; decide)
 exact ⟨_, s2', zm0 (t' := { t with sa := H.length, st := t.st.take g }) R (k0 := .st) (by simp) rfl (fun k hk => by cases k <;> first | rfl | exact absurd rfl hk) (fun k hk ho => by cases k <;> first | rfl | exact absurd rfl hk | exact absurd rfl ho) rfl⟩
theorem zq6 (R : Rep t H) {lo : Lo} (l0 : ∀ H, zd 0 lo H = some (.ref t.r, H)) (l3 : zd 3 lo H = some (.int (s : Int), H)) :
  ∃ H', zq (z4 b.min [(zp 1 10 (zd 0)), (zd 3)]) (wm 1 10 (zd 0)) lo H = some (.next, lo, H') ∧ Op t H { t with he := if (s : Int) < t.he then (s : Int) else t.he } H' :=
 ⟨_, xj (c := 1) (k := 10) (zqk (x := t.he) (R.attr rfl (l0 H) rfl) l3) (l0 H) (R.at' .obj _ rfl) (by show 10 < 17; decide), zqy R _⟩
theorem zq4 (R : Rep t H) {lo : Lo} (l0 : ∀ H, zd 0 lo H = some (.ref t.r, H)) (l3 : zd 3 lo H = some (.int (s : Int), H)) :
  ∃ H', zq (z4 b.min [(zp 1 11 (zd 0)), (zd 3)]) (wm 1 11 (zd 0)) lo H = some (.next, lo, H') ∧ Op t H { t with to := if (s : Int) < t.to then (s : Int) else t.to } H' :=
 ⟨_, xj (c := 1) (k := 11) (zqk (x := t.to) (R.attr rfl (l0 H) rfl) l3) (l0 H) (R.at' .obj _ rfl) (by show 11 < 17; decide), op_to R _⟩
theorem zj9 (R : Rep t H) {lo : Lo} (l0 : ∀ H, zd 0 lo H = some (.ref t.r, H)) (l1 : ∀ H, zd 1 lo H = some (.int (g : Int), H)) (l3 : ∀ H, zd 3 lo H = some (.int (s : Int), H)) (h1 : t.tr.length ≤ 1000) (h2 : t.st.length ≤ 1000) :
  ∃ H' ta sa to, (zw (zq (kx (zp 1 8 (zd 0)) none (some (zd 3)) none) (wm 1 8 (zd 0)))
   (zw (zq (kx (zp 1 9 (zd 0)) none (some (zd 1)) none) (wm 1 9 (zd 0)))
   (zw (zq (z4 b.min [(zp 1 10 (zd 0)), (zd 3)]) (wm 1 10 (zd 0)))
   (zw (zq (z4 b.min [(zp 1 11 (zd 0)), (zd 3)]) (wm 1 11 (zd 0)))
   (zw (yt (z9 .IsNot (zp 1 0 (zd 0)) (zh .none)) (zw (wh (fun _ _ => none)) z3) z3) z3))))) lo H = some (.next, lo, H') ∧
   Op t H { t with ta := ta, tr := t.tr.take s, sa := sa, st := t.st.take g, he := if (s : Int) < t.he then (s : Int) else t.he, to := to } H' := by
 refine zvt fun hq0 => ?_
 obtain ⟨H1, e1, O1⟩ := zq3 (s := s) R l0 (l3 H) h1
 obtain ⟨H2, e2, O2⟩ := zq5 (g := g) O1.rep l0 (l1 H1) h2
 obtain ⟨H3, e3, O3⟩ := zq6 (s := s) O2.rep l0 (l3 H2)
 obtain ⟨H4, e4, O4⟩ := zq4 (s := s) O3.rep l0 (l3 H3)
 refine hq0 ?_
 exact ⟨H4, _, _, _, (zj e1).trans ((zj e2).trans ((zj e3).trans ((zj e4).trans ((zj ((zm8 O4.rep (l0 H4)).trans rfl)).trans rfl)))), (((O1.trans O2).trans O3).trans O4)⟩
theorem zol (I : TI n lots t) (hg : t.st[g]? = some (s : Int)) {a r p h q : List Int} (C : CI n t (t.tr.drop s) a r p h q) {ta sa : Nat} {to : Int} (t' : T) (ht : t' = { t with as := a, rs := r, ph := p, hp := h, pl := q, ta := ta, tr := t.tr.take s, sa := sa, st := t.st.take g, he := if (s : Int) < t.he then (s : Int) else t.he, to := to }) :
  TI n lots t' ∧ HOk n t'.ac t'.hp t'.pl ∧ Cut t g s t' ∧ WL t'.ls t'.tr t'.tr ∧ t'.ls = t.ls := by
  subst ht
  have n6 := I.n6
  have tl := I.trlen
  have sl := I.stlen
  have hgl := (zsl.mp hg).1
  have hs := I.stl _ (zsm hg)
  have hst : s ≤ t.tr.length := by lia
  have dsub : ∀ l ∈ t.tr.drop s, l ∈ t.tr := fun l hl => zuu hl
  have tsub : ∀ l ∈ t.tr.take s, l ∈ t.tr := fun l hl => zt1 hl
  have apart : ∀ l ∈ t.tr.take s, l.natAbs ∉ (t.tr.drop s).map zv6 := fun l hl q => by
   have nd := I.ndo
   rw [← zue s t.tr, zs3, zte] at nd
   exact nd.2.2 _ (zs5 hl) _ q rfl
  have cutS : WL t.ls (t.tr.take s) (t.tr.take s) := I.cut s (zsm hg)
  have stp : ∀ q ∈ t.st.take g, q < (s : Int) := fun q hq => by
   obtain ⟨i, hi, e⟩ := zs6.mp hq
   rw [zti] at hi
   rw [zvm] at e
   have := zt3.mp I.st i g (by lia) hgl (by lia)
   rw [e, (zsl.mp hg).2] at this
   exact this
  have gv : ∀ v : Nat, a.getD v 0 = (if v ∈ (t.tr.drop s).map zv6 then 0 else t.as.getD v 0) := fun v => by
   by_cases hv : v ∈ (t.tr.drop s).map zv6
   ·rw [if_pos hv]
    obtain ⟨l, hl, rfl⟩ := zso.mp hv
    exact za0 (C.gone l hl).1
   ·rw [if_neg hv, zsz, (C.keep v hv).1, ← zsz]
  have LT : (t.tr.take s).length = s := by rw [zti]; lia
  refine ⟨⟨C.al, I.n1, I.n6, ⟨by show t.lv.length = a.length; rw [C.al, I.len.lv, I.as], by show r.length = a.length; rw [C.al, C.rl], by show t.sp.length = a.length; rw [C.al, I.len.sp, I.as], by show a.length ≤ 100; rw [C.al]; lia, by show (t.tr.take s).length ≤ 100; lia, by show (t.st.take g).length ≤ 100; rw [zti]; lia⟩, C.pl, I.W, I.C, I.cl, fun l h1 h2 => ?_, fun l hl => I.one l (tsub l hl), I.ndo.sublist ((zut ..).map _), fun i l hi => ?_, fun v v1 v2 hv => ?_, fun i l hi => ?_, I.wat, fun q hq => ?_, I.st.sublist (zut ..), fun q hq => ?_, (C.keep 0 fun q => by
   obtain ⟨l, hl, e⟩ := zso.mp q
   have := I.one l (dsub l hl); lia).1.trans I.a0⟩,
   C.heap, ⟨rfl, rfl, rfl, rfl, rfl, C.keep, C.gone, by show p.length = _; rw [C.pl, I.ph], C.hp, rfl⟩, cutS, rfl⟩
  ·have hv : ∀ l : Int, 1 ≤ l.natAbs → l.natAbs ≤ n → (if l > 0 then a.getD l.natAbs 0 else -(a.getD l.natAbs 0)) = if l ∈ t.tr.take s then 1 else if -l ∈ t.tr.take s then -1 else 0 := fun l h1 h2 => by
    have h0 := I.val l h1 h2
    unfold T.val at h0
    have mem : ∀ l : Int, l ∈ t.tr ↔ l ∈ t.tr.take s ∨ l ∈ t.tr.drop s := fun l => by rw [← zs0, zue]
    by_cases hd : l.natAbs ∈ (t.tr.drop s).map zv6
    ·rw [gv, if_pos hd, if_neg (fun q => apart l q hd), if_neg (fun q => apart (-l) q (by rw [zwa]; exact hd))]
     split <;> rfl
    ·rw [gv, if_neg hd, h0]
     have m1 : l ∈ t.tr ↔ l ∈ t.tr.take s := ⟨fun q => ((mem l).mp q).resolve_right fun q => hd (zs5 q), tsub l⟩
     have m2 : -l ∈ t.tr ↔ -l ∈ t.tr.take s := ⟨fun q => ((mem (-l)).mp q).resolve_right fun q => hd (by rw [← zwa]; exact zs5 q), tsub (-l)⟩
     simp only [m1, m2]
   exact hv l h1 h2
  ·have hi' : (t.tr.take s)[i]? = some l := hi
   rw [ztz] at hi'
   split at hi'
   ·exact I.sp i l hi'
   ·cases hi'
  ·have hv' : a.getD v 0 = 0 := hv
   show r[v]? = _
   by_cases hd : v ∈ (t.tr.drop s).map zv6
   ·obtain ⟨l, hl, rfl⟩ := zso.mp hd
    exact (C.gone l hl).2.1
   ·rw [gv, if_neg hd] at hv'
    rw [(C.keep v hd).2.1]
    exact I.unk v v1 v2 hv'
  ·have hi' : (t.tr.take s)[i]? = some l := hi
   have hm := zsm hi'
   rw [ztz] at hi'
   split at hi'
   ·rename_i his
    show r[l.natAbs]? = _ ∨ ∃ (j a : Nat) (c : List Int), r[l.natAbs]? = _ ∧ t.C[j]? = _ ∧ ∀ l' ∈ c, l' = l ∨ -l' ∈ (t.tr.take s).take i
    rw [(C.keep _ (apart l hm)).2.1, zuh, zw9 (by lia)]
    exact I.rsn i l hi'
   ·cases hi'
  ·have hq' : (q : Int) ∈ t.st.take g := hq
   have := stp _ hq'
   show WL t.ls ((t.tr.take s).take q) ((t.tr.take s).take q)
   rw [zuh, zw9 (by lia)]
   exact I.cut q (zt1 hq')
  ·have hq' : q ∈ t.st.take g := hq
   have h1 := stp _ hq'
   have h2 := I.stl q (zt1 hq')
   show 0 ≤ q ∧ q < ((t.tr.take s).length : Int)
   lia
theorem zot (R : Rep t H) (I : TI n lots t) (K : HOk n t.ac t.hp t.pl) (hg : t.st[g]? = some (s : Int)) :
  ∃ t' H', z7 [.ref t.r, .int g] H = some (.none, H') ∧ Op t H t' H' ∧ TI n lots t' ∧ HOk n t'.ac t'.hp t'.pl ∧ Cut t g s t' ∧ WL t'.ls t'.tr t'.tr ∧ t'.ls = t.ls := by
 have n6 := I.n6
 have tl := I.trlen
 have sl := I.stlen
 have hgl := (zsl.mp hg).1
 have hs := I.stl _ (zsm hg)
 have hst : s ≤ t.tr.length := by lia
 have c1 : wo o.sub (z5 1 wg (zd 0) []) (zd 1) [some (.ref t.r), some (.int g), none, none, none, none] H = some (.int ((t.st.length : Int) - g), H) :=
  vy ((qf (F := wg) (f := zd 0) rfl (R.at' .obj _ rfl)).trans (vc R (by lia))) rfl
 have c2 := wi (op := .LtE) (f := zd 2) (g := zh (.int 0)) (lo := [some (.ref t.r), some (.int g), some (.int ((t.st.length : Int) - g)), none, none, none]) (H := H) (x := .int ((t.st.length : Int) - g)) (y := .int 0) (b := decide ((t.st.length : Int) - g ≤ 0)) rfl rfl rfl
 rw [decide_eq_false (by lia)] at c2
 have c3 := yo (f := zp 1 9 (zd 0)) (g := zd 1) (lo := [some (.ref t.r), some (.int g), some (.int ((t.st.length : Int) - g)), none, none, none]) (H := H) (i := (g : Int)) (R.attr rfl rfl rfl) rfl (R.at' .st _ rfl) (by lia) hg (by lia)
 have fr := zr6 (g := zy 4) (b := qg) (zog (f := wo o.sub (z4 b.len [(zp 1 8 (zd 0))]) (zh (.int 1))) (g := wo o.sub (zd 3) (zh (.int 1))) (h := uf (zh (.int 1))) (lo := [some (.ref t.r), some (.int g), some (.int ((t.st.length : Int) - g)), some (.int s), none, none]) (H := H)
  (vy (zdi R rfl (by lia)) rfl) (vy (x := (s : Int)) (y := 1) rfl rfl) rfl) hst (by lia)
 have rule := jb (g := zy 4) (b := qg) (l := (zsr (t.tr.length - s)).map fun i : Nat => MV.int ((t.tr.length : Int) - 1 - i))
  (fun i lo H1 => (∃ u w, lo = [some (.ref t.r), some (.int g), some (.int ((t.st.length : Int) - g)), some (.int s), u, w]) ∧ ∃ a r p h q, Op t H { t with as := a, rs := r, ph := p, hp := h, pl := q } H1 ∧ CI n t (t.tr.drop (t.tr.length - i)) a r p h q)
  (Q := fun lo H1 => (∃ u w, lo = [some (.ref t.r), some (.int g), some (.int ((t.st.length : Int) - g)), some (.int s), u, w]) ∧ ∃ a r p h q, Op t H { t with as := a, rs := r, ph := p, hp := h, pl := q } H1 ∧ CI n t (t.tr.drop s) a r p h q) (R := fun _ _ _ => False)
  (fun i v lo H1 hv hI => by
   obtain ⟨⟨u, w, hlo⟩, a, r, p, h, q, O, C⟩ := hI
   subst hlo
   rw [zsu] at hv
   obtain ⟨j, hj, e⟩ := zvv.mp hv
   obtain ⟨h1, h2⟩ := zsl.mp hj
   simp at h1 h2
   subst h2
   subst e
   have hk : (t.tr.length : Int) - 1 - i = ((t.tr.length - 1 - i : Nat) : Int) := by omega
   have hx := qi (l := t.tr) (i := t.tr.length - 1 - i) (by omega)
   generalize t.tr.getD (t.tr.length - 1 - i) 0 = x at hx
   have hd := zr8 hx
   rw [show t.tr.length - 1 - i + 1 = t.tr.length - i by omega] at hd
   have nd : ((t.tr.drop (t.tr.length - 1 - i)).map zv6).Nodup := I.ndo.sublist ((zvn ..).map _)
   rw [hd, zs9, zs4] at nd
   obtain ⟨a', r', p', h', q', H2, O2, C2, e2⟩ := zj8 I O C hx nd.1 (v1 := some (.int g)) (v2 := some (.int ((t.st.length : Int) - g))) (v3 := some (.int s)) (v5 := w)
   refine ⟨_, H1, rfl, ?_⟩
   show zeh (qg [some (.ref t.r), some (.int g), some (.int ((t.st.length : Int) - g)), some (.int s), some (.int ((t.tr.length : Int) - 1 - i)), w] H1) _ _ _
   rw [hk, e2]
   refine ⟨⟨_, _, rfl⟩, a', r', p', h', q', O2, ?_⟩
   rw [← hd] at C2
   rw [show t.tr.length - (i + 1) = t.tr.length - 1 - i by lia]
   exact C2)
  (fun lo H1 hI => by
   obtain ⟨hlo, h⟩ := hI
   refine ⟨hlo, ?_⟩
   rw [zsk, zts, show t.tr.length - (t.tr.length - s) = s by omega] at h
   exact h)
  (lo := [some (.ref t.r), some (.int g), some (.int ((t.st.length : Int) - g)), some (.int s), none, none]) (H := H) ⟨⟨none, none, rfl⟩, t.as, t.rs, t.ph, t.hp, t.pl, Op.refl R, ⟨I.as, by rw [I.len.rs, I.as], I.ph, K, fun _ _ => ⟨rfl, rfl, rfl⟩, fun l hl => by rw [zxa, zuf] at hl; (nomatch hl), fun w => ⟨.inl, fun h => h.elim id fun ⟨l, hl, _⟩ => by rw [zxa, zuf] at hl; (nomatch hl)⟩⟩⟩
 refine zvt fun hq0 => ?_
 obtain ⟨lo, H1, e1, ⟨u, w, rfl⟩, a, r, p, h, q, O1, C⟩ := rule.next
 obtain ⟨H5, ta, sa, to, e5, O5⟩ := zj9 (g := g) (s := s) O1.rep (lo := [some (.ref t.r), some (.int g), some (.int ((t.st.length : Int) - g)), some (.int s), u, w]) (fun _ => rfl) (fun _ => rfl) (fun _ => rfl) (by show t.tr.length ≤ 1000; lia) (by show t.st.length ≤ 1000; lia)
 refine hq0 ?_
 refine ⟨_, H5, us rfl (lo' := [some (.ref t.r), some (.int g), some (.int ((t.st.length : Int) - g)), some (.int s), u, w]) ?_, O1.trans O5, zol I hg C (ta := ta) (sa := sa) (to := to) _ rfl⟩
 rw [← fr] at e1
 exact (zj (wc c1 (by simp))).trans ((zj ((yw c2).trans rfl)).trans ((zj (wc c3 (by simp))).trans ((zj e1).trans e5)))
theorem zf2 (R : Rep t H) (h : t.st.length ≤ 1000) {lv : Int} (hl : t.st.length ≤ lv) : z7 [.ref t.r, .int lv] H = some (.none, H) := by
 have c1 : wo o.sub (z5 1 wg (zd 0) []) (zd 1) [some (.ref t.r), some (.int lv), none, none, none, none] H = some (.int ((t.st.length : Int) - lv), H) :=
  vy ((qf (F := wg) (f := zd 0) rfl (R.at' .obj _ rfl)).trans (vc R h)) rfl
 have c2 := wi (op := .LtE) (f := zd 2) (g := zh (.int 0)) (lo := [some (.ref t.r), some (.int lv), some (.int ((t.st.length : Int) - lv)), none, none, none]) (H := H) (x := .int ((t.st.length : Int) - lv)) (y := .int 0) (b := decide ((t.st.length : Int) - lv ≤ 0)) rfl rfl rfl
 rw [decide_eq_true (by lia)] at c2
 exact y8 rfl ((zj (wc c1 (by simp))).trans (wq ((kr c2).trans (wq rfl))))
end
end Mine
namespace Mine
theorem op_app {t : T} {H : St} (R : Rep t H) (L : St) : Op t H t (H ++ L) := ⟨R.app, .app t H L, fun k a h => .inr ⟨k, h⟩, rfl⟩
theorem zgv {j : Int} : ∀ {ns : List Int}, ns.Nodup → (ns.filter fun i => i == j).length = if j ∈ ns then 1 else 0
 | [], _ => rfl
 | x :: ns, nd => by
  obtain ⟨h1, h2⟩ := zs4.mp nd
  have ih := zgv (j := j) h2
  by_cases e : x = j
  ·subst e
   rw [List.filter_cons_of_pos (p := fun i => i == x) (beq_self_eq_true x), ztd, ih, if_neg h1, if_pos (.head _)]
  ·rw [List.filter_cons_of_neg (p := fun i => i == j) (by simpa using e), ih]
   by_cases m : j ∈ ns
   ·rw [if_pos m, if_pos (.tail _ m)]
   ·rw [if_neg m, if_neg (fun q => (zss.mp q).elim (fun q => e q.symm) m)]
section
variable {n : Nat} {lots : List (List Int)} {t : T} {H : St}
theorem TI.count (I : TI n lots t) : (t.as.filter fun i => i != 0).length = t.tr.length := by
 have e1 : t.as = (zsr t.as.length).map fun i => t.as.getD i 0 := ztl fun i => by
  rw [zsu]
  by_cases h : i < t.as.length
  ·rw [zvo h, qi h]; rfl
  ·rw [ztf (zw5 h), ztf (by simpa using h)]; rfl
 have e2 : (t.as.filter fun i => i != 0).length = ((zsr t.as.length).filter fun i => t.as.getD i 0 != 0).length := by
  conv => lhs; rw [e1]
  rw [zve, zsk]; rfl
 have p : ((zsr t.as.length).filter fun i => t.as.getD i 0 != 0).Perm (t.tr.map zv6) := by
  rw [zvp (zvq.sublist (List.filter_sublist ..)) I.ndo]
  intro v
  rw [zua, ztn, I.as, zso]
  constructor
  ·rintro ⟨h1, h2⟩
   have h2' : t.as.getD v 0 ≠ 0 := bne_iff_ne.mp h2
   have v0 : v ≠ 0 := fun e => by subst e; exact h2' (za0 I.a0)
   have := I.val (v : Int) (by lia) (by lia)
   unfold T.val at this
   rw [if_pos (by lia)] at this
   by_cases m1 : (v : Int) ∈ t.tr
   ·exact ⟨v, m1, by rfl⟩
   ·rw [if_neg m1] at this
    by_cases m2 : -(v : Int) ∈ t.tr
    ·exact ⟨-v, m2, by lia⟩
    ·rw [if_neg m2] at this; exact absurd this h2'
  ·rintro ⟨l, hl, rfl⟩
   obtain ⟨h1, h2⟩ := I.one l hl
   refine ⟨by lia, bne_iff_ne.mpr ?_⟩
   rw [za0 (I.sgn hl)]
   unfold Mine.sgn
   split <;> decide
 rw [e2, p.length_eq, zsk]
noncomputable abbrev slo (t : T) (v1 v2 v3 v4 v5 v6 v7 : Option MV) : Lo := [some (.ref t.r), v1, v2, v3, v4, v5, v6, v7]
theorem zq8 (R : Rep t H) (I : TI n lots t) (G : LG n lots) {j a k : Nat} {c : List Int} (hC : t.C[j]? = some (some (a, c))) (hk : k < c.length) {v4 v5 v6 v7 : Option MV} :
  ∃ u L, jy (slo t (some (.int j)) (some (.ref a)) (some (.int k)) v4 v5 v6 v7) H = some (.next, slo t (some (.int j)) (some (.ref a)) (some (.int k)) u v5 v6 v7, H ++ L) := by
 have n6 := I.n6
 have hj : j < lots.length := by rw [← I.C]; exact (zsl.mp hC).1
 obtain ⟨a', c', e1, p⟩ := I.cl j _ (zsv hj)
 rw [hC] at e1; cases e1
 obtain ⟨g1, g2, g3, g4⟩ := G.perm (zsv hj) p
 have hx := qi hk
 generalize c.getD k 0 = x at hx
 obtain ⟨x1, x2⟩ := g4 x (zsm hx)
 have hc : H[a]? = some (il c) := (R.at' _ _ (T.at_c hC)).trans (congrArg some (T.is_c hC))
 obtain ⟨b, ns, hw, nd, hns⟩ := I.wat x x1 x2
 have e2 := zdh R (f := zd 0) (g := wd (zd 2) (zd 3)) (lo := slo t (some (.int j)) (some (.ref a)) (some (.int k)) v4 v5 v6 v7) (l := x) rfl (yo (i := (k : Int)) rfl rfl hc (by lia) hx (by lia)) (by lia) hw (by rw [I.W]; lia)
 have hb : H[b]? = some (il ns) := (R.at' _ _ (T.at_w hw)).trans (congrArg some (T.is_w hw))
 have sh := I.short G nd hns
 have e3 := zdz (q := 8) (t := z9 .Eq (zd 8) (zd 1)) (e := zd 8) (fun v => match v with | .int i => i == j | _ => false) (fun v => v) e2 hb rfl (by rw [zsk]; lia)
  (fun v hv => by
   obtain ⟨i, hi, rfl⟩ := zso.mp hv
   exact wi (x := .int i) (y := .int j) rfl rfl rfl) (fun v hv _ => rfl)
 have e3' : ((ns.map MV.int).filter fun v => match v with | .int i => i == (j : Int) | _ => false).map (fun v => v) = (ns.filter fun i => i == (j : Int)).map .int := by
  rw [zuv]; exact zc8 _
 rw [e3'] at e3
 have e4 := jh e3 (l := (ns.filter fun i => i == (j : Int)).map .int) (by simp) (by rw [zsk]; have := zus (fun i => i == (j : Int)) ns; lia)
 rw [zsk, zgv nd] at e4
 have mem : (j : Int) ∈ ns ↔ k < 2 := by
  rw [hns]
  match c, g1, g3, hx, hC with
  | u :: v :: r, g1, g3, hx, hC =>
   have hls : t.ls[j]? = some (some (u :: v :: r)) := by unfold T.ls; rw [zsu, hC]; rfl
   have inj : ∀ i y, (u :: v :: r)[i]? = some y → y = x → i = k := fun i y hy e => by
    refine qm g3 (a := x.natAbs) ?_ ?_
    ·rw [zsu, hy, e]; rfl
    ·rw [zsu, hx]; rfl
   constructor
   ·rintro ⟨j', ej, a1, b1, r1, e, hl⟩
    have : j' = j := by lia
    subst this
    rw [hls] at e; cases e
    rcases hl with hl | hl
    ·have := inj 0 _ rfl hl; lia
    ·have := inj 1 _ rfl hl; lia
   ·intro h
    refine ⟨j, rfl, u, v, r, hls, ?_⟩
    rcases (show k = 0 ∨ k = 1 by lia) with rfl | rfl
    ·exact .inl (zvu.inj hx)
    ·exact .inr (zvu.inj hx)
 have hm : (if (j : Int) ∈ ns then 1 else 0 : Nat) = if k < 2 then 1 else 0 := by
  by_cases hk2 : k < 2
  ·rw [if_pos (mem.mpr hk2), if_pos hk2]
  ·rw [if_neg (fun q => hk2 (mem.mp q)), if_neg hk2]
 rw [hm] at e4
 clear e3 e3' hm mem
 have c5 : ∀ {H' : St}, z9 .NotEq (zd 4) (zbt (z9 .Lt (zd 3) (zh (.int 2))) (zh (.int 1)) (zh (.int 0))) (slo t (some (.int j)) (some (.ref a)) (some (.int k)) (some (.int (if k < 2 then 1 else 0 : Nat))) v5 v6 v7) H' = some (false, H') := by
  intro H'
  by_cases hk2 : k < 2
  ·rw [if_pos hk2]
   have c6 := (zew (f := zh (.int 1)) (g := zh (.int 0)) (wi (op := .Lt) (f := zd 3) (g := zh (.int 2)) (lo := slo t (some (.int j)) (some (.ref a)) (some (.int k)) (some (.int (1 : Nat))) v5 v6 v7) (H := H') (x := .int k) (y := .int 2) (b := decide ((k : Int) < 2)) rfl rfl rfl)).trans (if_pos (decide_eq_true (by lia)))
   exact wi (op := .NotEq) (f := zd 4) (x := .int (1 : Nat)) (y := .int 1) (b := false) rfl c6 rfl
  ·rw [if_neg hk2]
   have c6 := (zew (f := zh (.int 1)) (g := zh (.int 0)) (wi (op := .Lt) (f := zd 3) (g := zh (.int 2)) (lo := slo t (some (.int j)) (some (.ref a)) (some (.int k)) (some (.int (0 : Nat))) v5 v6 v7) (H := H') (x := .int k) (y := .int 2) (b := decide ((k : Int) < 2)) rfl rfl rfl)).trans (if_neg (by simp; lia))
   exact wi (op := .NotEq) (f := zd 4) (x := .int (0 : Nat)) (y := .int 0) (b := false) rfl c6 rfl
 exact ⟨_, _, (zj (wc e4 (by simp))).trans ((zj ((yw c5).trans rfl)).trans rfl)⟩
end
end Mine
namespace Mine
theorem ut {f g : Lo → St → Option (Bool × St)} {lo : Lo} {H H1 : St} (h : f lo H = some (false, H1)) : ue f g lo H = g lo H1 := by unfold ue; rw [h]; rfl
section
variable {n : Nat} {lots : List (List Int)} {t : T} {H : St}
theorem zhm (m : Nat) : ((m : Int) - 0).toNat = m := by rfl
theorem zq9 (R : Rep t H) (I : TI n lots t) (G : LG n lots) {j : Nat} (hj : j < t.C.length) {v2 v3 v4 v5 v6 v7 : Option MV} :
  ∃ u2 u3 u4 L, jx (slo t (some (.int j)) v2 v3 v4 v5 v6 v7) H = some (.next, slo t (some (.int j)) u2 u3 u4 v5 v6 v7, H ++ L) := by
 refine zvt fun hq0 => ?_
 obtain ⟨a, c, c0, hC, h0, p⟩ := I.get hj
 obtain ⟨g1, g2, g3, g4⟩ := G.perm h0 p
 have few := G.few
 have hc : H[a]? = some (il c) := (R.at' _ _ (T.at_c hC)).trans (congrArg some (T.is_c hC))
 have s1 : zq (wd (zp 1 12 (zd 0)) (zd 1)) (zy 2) (slo t (some (.int j)) v2 v3 v4 v5 v6 v7) H = some (.next, slo t (some (.int j)) (some (.ref a)) v3 v4 v5 v6 v7, H) :=
  wc (v := .ref a) (zbg (i := (j : Int)) (R.attr rfl rfl rfl) rfl (j1 (R.at' .cl _ rfl) (by lia) (by rw [zsu, show ((j : Int)).toNat = j from rfl, hC]; rfl) (by rw [zsk, I.C]; lia))) (by simp)
 have hl : z4 b.len [zd 2] (slo t (some (.int j)) (some (.ref a)) v3 v4 v5 v6 v7) H = some (.int c.length, H) := by
  have := jh (f := zd 2) (lo := slo t (some (.int j)) (some (.ref a)) v3 v4 v5 v6 v7) rfl hc (by rw [zsk]; lia)
  rw [zsk] at this; exact this
 have c1 := wi (op := .IsNot) (f := zd 2) (g := zh .none) (lo := slo t (some (.int j)) (some (.ref a)) v3 v4 v5 v6 v7) (H := H) (x := .ref a) (y := .none) (b := true) rfl rfl rfl
 have c2 := wi (op := .Gt) hl (g := zh (.int 1)) (y := .int 1) rfl (b := decide ((1 : Int) < c.length)) rfl
 rw [decide_eq_true (by lia)] at c2
 have fr := xa (g := zy 3) (b := jy) (j2 hl) (by decide) (by decide) (by lia) (by lia)
 rw [zhm] at fr
 have rule := jb (g := zy 3) (b := jy) (l := (zsr c.length).map fun i : Nat => MV.int (0 + i))
  (fun i lo H1 => (∃ u3 u4, lo = slo t (some (.int j)) (some (.ref a)) u3 u4 v5 v6 v7) ∧ ∃ L, H1 = H ++ L)
  (Q := fun lo H1 => (∃ u3 u4, lo = slo t (some (.int j)) (some (.ref a)) u3 u4 v5 v6 v7) ∧ ∃ L, H1 = H ++ L) (R := fun _ _ _ => False)
  (fun i v lo H1 hv hI => by
   obtain ⟨⟨u3, u4, hlo⟩, L, hL⟩ := hI
   subst hlo; subst hL
   obtain ⟨hi, rfl⟩ := jk hv
   rw [zv9]
   obtain ⟨u, L', e⟩ := zq8 (R.app (L := L)) I G hC hi (v4 := u4) (v5 := v5) (v6 := v6) (v7 := v7)
   refine ⟨slo t (some (.int j)) (some (.ref a)) (some (.int i)) u4 v5 v6 v7, H ++ L, rfl, ?_⟩
   rw [e]
   exact ⟨⟨_, _, rfl⟩, L ++ L', zs7 ..⟩)
  (fun lo H1 h => h) (lo := slo t (some (.int j)) (some (.ref a)) v3 v4 v5 v6 v7) (H := H) ⟨⟨_, _, rfl⟩, [], by simp⟩
 obtain ⟨lo, H1, e1, ⟨u3, u4, rfl⟩, L, rfl⟩ := rule.next
 rw [← fr] at e1
 refine hq0 ?_
 exact ⟨_, _, _, L, (zj s1).trans ((zj ((kr ((vo c1).trans ((vo c2).trans rfl))).trans ((zj e1).trans rfl))).trans rfl)⟩
theorem zra (R : Rep t H) (I : TI n lots t) (G : LG n lots) {i : Nat} {x : Int} (hx : t.tr[i]? = some x) {v1 v2 v3 v4 v6 v7 : Option MV} :
  ∃ u1 u6 u7, gw (slo t v1 v2 v3 v4 (some (.int i)) v6 v7) H = some (.next, slo t u1 v2 v3 v4 (some (.int i)) u6 u7, H) := by
 have n6 := I.n6
 have tl := I.trlen
 have few := G.few
 obtain ⟨x1, x2⟩ := I.one x (zsm hx)
 have vx : t.val x = 1 := by rw [I.val x x1 x2, if_pos (zsm hx)]
 have s1 : zq (wd (zp 1 8 (zd 0)) (zd 5)) (zy 6) (slo t v1 v2 v3 v4 (some (.int i)) v6 v7) H = some (.next, slo t v1 v2 v3 v4 (some (.int i)) (some (.int x)) v7, H) :=
  wc (yo (i := (i : Int)) (R.attr rfl rfl rfl) rfl (R.at' .tr _ rfl) (by lia) hx (by lia)) (by simp)
 have c1 := wi (op := .NotEq) (vt R (f := zd 0) (g := zd 6) (lo := slo t v1 v2 v3 v4 (some (.int i)) (some (.int x)) v7) rfl rfl (by rw [I.as]; lia) (by rw [I.as]; lia)) (g := zh (.int (1))) (y := .int 1) rfl (b := t.val x != 1) rfl
 rw [vx] at c1
 have c2 := wi (op := .NotEq) (yo (f := zp 1 4 (zd 0)) (g := z4 b.abs [zd 6]) (lo := slo t v1 v2 v3 v4 (some (.int i)) (some (.int x)) v7) (H := H) (i := (x.natAbs : Int)) (R.attr rfl rfl rfl) (xk rfl) (R.at' .sp _ rfl) (by lia) (I.sp i x hx) (by rw [I.len.sp, I.as]; lia)) (g := zd 5) (y := .int (i : Int)) rfl (b := (i : Int) != i) rfl
 rw [bne_self_eq_false] at c2
 have pre : ∀ {rs : Int} {lo' : Lo}, t.rs[x.natAbs]? = some rs → yt (z9 .NotEq (zd 1) (zh (.int (-1)))) (zw (u9 (wd (zp 1 12 (zd 0)) (zd 1)) (zy 7) g6) z3) z3 (slo t (some (.int rs)) v2 v3 v4 (some (.int i)) (some (.int x)) v7) H = some (.next, lo', H) →
   gw (slo t v1 v2 v3 v4 (some (.int i)) v6 v7) H = some (.next, lo', H) := fun {rs lo'} h e => by
  have s3 : zq (wd (zp 1 3 (zd 0)) (z4 b.abs [zd 6])) (zy 1) (slo t v1 v2 v3 v4 (some (.int i)) (some (.int x)) v7) H = some (.next, slo t (some (.int rs)) v2 v3 v4 (some (.int i)) (some (.int x)) v7, H) :=
   wc (yo (i := (x.natAbs : Int)) (R.attr rfl rfl rfl) (xk rfl) (R.at' .rs _ rfl) (by lia) h (by rw [I.len.rs, I.as]; lia)) (by simp)
  exact (zj s1).trans ((zj ((yw ((ut c1).trans ((ut c2).trans rfl))).trans rfl)).trans ((zj s3).trans ((zj e).trans rfl)))
 rcases I.rsn i x hx with h | ⟨j, a, c, h, hC, hr⟩
 ·have c4 := wi (op := .NotEq) (f := zd 1) (g := zh (.int (-1))) (lo := slo t (some (.int (-1))) v2 v3 v4 (some (.int i)) (some (.int x)) v7) (H := H) (x := .int (-1)) (y := .int (-1)) (b := false) rfl rfl rfl
  exact ⟨_, _, _, pre h ((yw c4).trans rfl)⟩
 ·have hj : j < lots.length := by rw [← I.C]; exact (zsl.mp hC).1
  obtain ⟨a', c', e1, p⟩ := I.cl j _ (zsv hj)
  rw [hC] at e1; cases e1
  obtain ⟨g1, g2, g3, g4⟩ := G.perm (zsv hj) p
  have hc : H[a]? = some (il c) := (R.at' _ _ (T.at_c hC)).trans (congrArg some (T.is_c hC))
  have c4 := wi (op := .NotEq) (f := zd 1) (g := zh (.int (-1))) (lo := slo t (some (.int j)) v2 v3 v4 (some (.int i)) (some (.int x)) v7) (H := H) (x := .int j) (y := .int (-1)) (b := (j : Int) != -1) rfl rfl rfl
  rw [bne_iff_ne.mpr (by lia)] at c4
  have e5 : wd (zp 1 12 (zd 0)) (zd 1) (slo t (some (.int j)) v2 v3 v4 (some (.int i)) (some (.int x)) v7) H = some (.ref a, H) :=
   zbg (i := (j : Int)) (R.attr rfl rfl rfl) rfl (j1 (R.at' .cl _ rfl) (by lia) (by rw [zsu, show ((j : Int)).toNat = j from rfl, hC]; rfl) (by rw [zsk, I.C]; lia))
  have fr := zee (g := zy 7) (b := g6) e5 hc
  have rule := zfm (g := zy 7) (b := g6) (r := a) (l := c.map .int)
   (fun _ lo H1 => (∃ u7, lo = slo t (some (.int j)) v2 v3 v4 (some (.int i)) (some (.int x)) u7) ∧ H1 = H)
   (Q := fun lo H1 => (∃ u7, lo = slo t (some (.int j)) v2 v3 v4 (some (.int i)) (some (.int x)) u7) ∧ H1 = H) (R := fun _ _ _ => False)
   (fun _ lo H1 h => h.2 ▸ hc)
   (fun k v lo H1 hv hI => by
    obtain ⟨⟨u7, hlo⟩, hH⟩ := hI
    subst hlo; subst hH
    rw [zsu] at hv
    obtain ⟨l, hl, rfl⟩ := zvv.mp hv
    have hlm := zsm hl
    obtain ⟨l1, l2⟩ := g4 l hlm
    refine ⟨slo t (some (.int j)) v2 v3 v4 (some (.int i)) (some (.int x)) (some (.int l)), H1, rfl, ?_⟩
    have d1 := wi (op := .NotEq) (f := zd 7) (g := zd 6) (lo := slo t (some (.int j)) v2 v3 v4 (some (.int i)) (some (.int x)) (some (.int l))) (H := H1) (x := .int l) (y := .int x) (b := l != x) rfl rfl rfl
    have fin : km (z9 .NotEq (zd 7) (zd 6)) (km (ue (z9 .NotEq (z5 1 wf (zd 0) [(zd 7)]) (zh (.int (-1)))) (ue (z9 .Gt (wd (zp 1 4 (zd 0)) (z4 b.abs [(zd 7)])) (zd 5)) zl1)) zg8) (slo t (some (.int j)) v2 v3 v4 (some (.int i)) (some (.int x)) (some (.int l))) H1 = some (false, H1) := by
     rcases hr l hlm with e | e
     ·rw [e, bne_self_eq_false] at d1
      rw [e]; exact x4 d1
     ·obtain ⟨q, hq, eq⟩ := zs6.mp e
      rw [zti] at hq
      rw [zvm] at eq
      have hq' : t.tr[q]? = some (-l) := by rw [zsv (by omega), eq]
      have m := zsm hq'
      have nl : l ∉ t.tr := fun q => zgl I.ndo (by omega) q m
      have vl : t.val l = -1 := by rw [I.val l l1 l2, if_neg nl, if_pos m]
      have lx : l ≠ x := fun e => nl (by rw [e]; exact zsm hx)
      rw [bne_iff_ne.mpr lx] at d1
      have d2 := wi (op := .NotEq) (vt R (f := zd 0) (g := zd 7) (lo := slo t (some (.int j)) v2 v3 v4 (some (.int i)) (some (.int x)) (some (.int l))) rfl rfl (by rw [I.as]; lia) (by rw [I.as]; lia)) (g := zh (.int (-1))) (y := .int (-1)) rfl (b := t.val l != -1) rfl
      rw [vl] at d2
      have sp := I.sp q (-l) hq'
      rw [zwa] at sp
      have d3 := wi (op := .Gt) (yo (f := zp 1 4 (zd 0)) (g := z4 b.abs [zd 7]) (lo := slo t (some (.int j)) v2 v3 v4 (some (.int i)) (some (.int x)) (some (.int l))) (H := H1) (i := (l.natAbs : Int)) (R.attr rfl rfl rfl) (xk rfl) (R.at' .sp _ rfl) (by lia) sp (by rw [I.len.sp, I.as]; lia)) (g := zd 5) (y := .int (i : Int)) rfl (b := decide ((i : Int) < q)) rfl
      rw [decide_eq_false (by omega)] at d3
      exact (vo d1).trans (x4 ((ut d2).trans ((ut d3).trans rfl)))
    unfold g6
    rw [zj ((yw fin).trans rfl)]
    exact ⟨⟨_, rfl⟩, rfl⟩)
   (fun lo H1 h => h) (lo := slo t (some (.int j)) v2 v3 v4 (some (.int i)) (some (.int x)) v7) (H := H) ⟨⟨_, rfl⟩, rfl⟩
  obtain ⟨lo, H1, e6, ⟨u7, rfl⟩, rfl⟩ := rule.next
  rw [← fr] at e6
  exact ⟨_, _, _, pre h ((kr c4).trans ((zj e6).trans rfl))⟩
theorem zha (R : Rep t H) (I : TI n lots t) (G : LG n lots) : ∃ L, ym [.ref t.r] H = some (.bool true, H ++ L) := by
 have n6 := I.n6
 have tl := I.trlen
 have few := G.few
 have l1 : z4 b.len [zp 1 12 (zd 0)] (slo t none none none none none none none) H = some (.int t.C.length, H) := by
  have := jh (f := zp 1 12 (zd 0)) (lo := slo t none none none none none none none) (R.attr rfl rfl rfl) (R.at' .cl _ rfl) (by rw [zsk, I.C]; lia)
  rw [zsk] at this; exact this
 have f1 := xa (g := zy 1) (b := jx) (j2 l1) (by decide) (by decide) (by lia) (by rw [I.C]; lia)
 rw [zhm] at f1
 have r1 := jb (g := zy 1) (b := jx) (l := (zsr t.C.length).map fun i : Nat => MV.int (0 + i))
  (fun i lo H1 => (∃ u1 u2 u3 u4 u5 u6 u7, lo = slo t u1 u2 u3 u4 u5 u6 u7) ∧ ∃ L, H1 = H ++ L)
  (Q := fun lo H1 => (∃ u1 u2 u3 u4 u5 u6 u7, lo = slo t u1 u2 u3 u4 u5 u6 u7) ∧ ∃ L, H1 = H ++ L) (R := fun _ _ _ => False)
  (fun i v lo H1 hv hI => by
   obtain ⟨⟨u1, u2, u3, u4, u5, u6, u7, hlo⟩, L, hL⟩ := hI
   subst hlo; subst hL
   obtain ⟨hi, rfl⟩ := jk hv
   rw [zv9]
   obtain ⟨w2, w3, w4, L', e⟩ := zq9 (R.app (L := L)) I G hi (v2 := u2) (v3 := u3) (v4 := u4) (v5 := u5) (v6 := u6) (v7 := u7)
   refine ⟨slo t (some (.int i)) u2 u3 u4 u5 u6 u7, H ++ L, rfl, ?_⟩
   rw [e]
   exact ⟨⟨_, _, _, _, _, _, _, rfl⟩, L ++ L', zs7 ..⟩)
  (fun lo H1 h => h) (lo := slo t none none none none none none none) (H := H) ⟨⟨_, _, _, _, _, _, _, rfl⟩, [], by simp⟩
 refine zvt fun hq0 => ?_
 obtain ⟨lo1, H1, e1, ⟨u1, u2, u3, u4, u5, u6, u7, rfl⟩, L1, rfl⟩ := r1.next
 rw [← f1] at e1
 have R1 := R.app (L := L1)
 have f2 := xa (g := zy 5) (b := gw) (j2 (zdi R1 (f := zd 0) (lo := slo t u1 u2 u3 u4 u5 u6 u7) rfl (by lia))) (by decide) (by decide) (by lia) (by lia)
 rw [zhm] at f2
 have r2 := jb (g := zy 5) (b := gw) (l := (zsr t.tr.length).map fun i : Nat => MV.int (0 + i))
  (fun i lo H2 => (∃ u1 u2 u3 u4 u5 u6 u7, lo = slo t u1 u2 u3 u4 u5 u6 u7) ∧ H2 = H ++ L1)
  (Q := fun lo H2 => (∃ u1 u2 u3 u4 u5 u6 u7, lo = slo t u1 u2 u3 u4 u5 u6 u7) ∧ H2 = H ++ L1) (R := fun _ _ _ => False)
  (fun i v lo H2 hv hI => by
   obtain ⟨⟨u1, u2, u3, u4, u5, u6, u7, hlo⟩, hL⟩ := hI
   subst hlo; subst hL
   obtain ⟨hi, rfl⟩ := jk hv
   rw [zv9]
   obtain ⟨w1, w6, w7, e⟩ := zra R1 I G (qi hi) (v1 := u1) (v2 := u2) (v3 := u3) (v4 := u4) (v6 := u6) (v7 := u7)
   refine ⟨slo t u1 u2 u3 u4 (some (.int i)) u6 u7, H ++ L1, rfl, ?_⟩
   rw [e]
   exact ⟨⟨_, _, _, _, _, _, _, rfl⟩, rfl⟩)
  (fun lo H1 h => h) (lo := slo t u1 u2 u3 u4 u5 u6 u7) (H := H ++ L1) ⟨⟨_, _, _, _, _, _, _, rfl⟩, rfl⟩
 obtain ⟨lo2, H2, e2, ⟨w1, w2, w3, w4, w5, w6, w7, rfl⟩, rfl⟩ := r2.next
 rw [← f2] at e2
 have e3 := zdz (q := 8) (f := zp 1 1 (zd 0)) (t := z9 .NotEq (zd 8) (zh (.int (0)))) (e := zd 8) (lo := slo t w1 w2 w3 w4 w5 w6 w7) (H := H ++ L1) (fun v => match v with | .int i => i != 0 | _ => false) (fun v => v) (R1.attr rfl rfl rfl) (R1.at' .as _ rfl) rfl (by rw [zsk, I.as]; lia)
  (fun v hv => by
   obtain ⟨i, hi, rfl⟩ := zso.mp hv
   exact wi (x := .int i) (y := .int 0) rfl rfl rfl) (fun v hv _ => rfl)
 have e3' : ((t.as.map MV.int).filter fun v => match v with | .int i => i != 0 | _ => false).map (fun v => v) = (t.as.filter fun i => i != 0).map .int := by
  rw [zuv]; exact zc8 _
 rw [e3'] at e3
 have e4 := jh e3 (l := (t.as.filter fun i => i != 0).map .int) (by simp) (by rw [zsk, I.count]; lia)
 rw [zsk, I.count] at e4
 have e5 := zex (op := .Eq) e4 (zdi (R1.app (L := [.list ((t.as.filter fun i => i != 0).map .int)])) (f := zd 0) (lo := slo t w1 w2 w3 w4 w5 w6 w7) rfl (by lia)) (b := (t.tr.length : Int) == t.tr.length) rfl
 rw [beq_self_eq_true] at e5
 refine hq0 ?_
 refine ⟨L1 ++ [.list ((t.as.filter fun i => i != 0).map .int)], y8 rfl (lo' := slo t w1 w2 w3 w4 w5 w6 w7) ?_⟩
 rw [← zs7]
 exact (zj e1).trans ((zj e2).trans (wq (qc e5)))
end
end Mine
namespace Mine
structure Hat (h c : Nat) (cells : List Int) (p : Nat) (H : St) : Prop where
 held : H[c]? = some (il cells)
 hat : H[h]? = some (.obj 2 [.ref c, .int p])
 pos : ∀ x ∈ cells, 0 ≤ x
 len : cells.length ≤ 60
 ne : h ≠ c
theorem zmy {h c p : Nat} {cells : List Int} {H : St} (L : Hat h c cells p H) {m : Int} (hm : 0 < m) :
  ∃ x, wj [.ref h, .int m] H = some (.int x, H.set h (.obj 2 [.ref c, .int ((p + 1 : Nat) : Int)])) ∧ 0 ≤ x ∧ x < m ∧ Hat h c cells (p + 1) (H.set h (.obj 2 [.ref c, .int ((p + 1 : Nat) : Int)])) := by
 have L' : Hat h c cells (p + 1) (H.set h (.obj 2 [.ref c, .int ((p + 1 : Nat) : Int)])) := ⟨ze0 L.held L.ne, zhb L.hat, L.pos, L.len, L.ne⟩
 have hr := L.hat
 have e2 : zq (wo o.add (zd 2) (zh (.int 1))) (zmd 2 1 (zd 0)) [some (.ref h), some (.int m), some (.int p)] H = some (.next, [some (.ref h), some (.int m), some (.int p)], H.set h (.obj 2 [.ref c, .int ((p + 1 : Nat) : Int)])) := by
  show ((zeg 2 H[h]? _).map _).map _ = _
  rw [hr]; rfl
 generalize H.set h (.obj 2 [.ref c, .int ((p + 1 : Nat) : Int)]) = H1 at L' e2
 have hmz : (m == 0) = false := by simp; lia
 have key : ∀ v : Int, 0 ≤ v.fmod m ∧ v.fmod m < m := fun v => ⟨zwe v hm, zwh v hm⟩
 have hk : zjs 2 0 (zd 0) [some (.ref h), some (.int m), some (.int p)] H1 = some (.ref c, H1) := by show (zeg 2 H1[h]? _).map _ = _; rw [L'.hat]; rfl
 have hlen := jh hk L'.held (by rw [zsk]; have := L.len; lia)
 rw [zsk] at hlen
 have hc := wi (op := .Lt) (f := zd 2) (x := .int p) (y := .int cells.length) rfl hlen (b := decide ((p : Int) < cells.length)) rfl
 have e1 : zjs 2 1 (zd 0) [some (.ref h), some (.int m), none] H = some (.int p, H) := by show (zeg 2 H[h]? _).map _ = _; rw [hr]; rfl
 have fin : ∀ {v : Int} {f : DE}, f [some (.ref h), some (.int m), some (.int p)] H1 = some (.int v, H1) → wo o.mod f (zd 1) [some (.ref h), some (.int m), some (.int p)] H1 = some (.int (v.fmod m), H1) := fun {v f} e => by
  rw [zbh e (show zd 1 [some (.ref h), some (.int m), some (.int p)] H1 = some (.int m, H1) from rfl)]
  show (if (m == 0) = true then none else some (MV.int (v.fmod m), H1)) = _
  rw [hmz]; rfl
 by_cases hp : p < cells.length
 ·rw [decide_eq_true (by lia)] at hc
  have e3 := fin (yo (g := zd 2) hk rfl L'.held (i := (p : Int)) (by lia) (qi hp) (by have := L.len; lia))
  refine ⟨(cells.getD ((p : Int)).toNat 0).fmod m, y8 rfl (lo' := [some (.ref h), some (.int m), some (.int p)]) ?_, (key _).1, (key _).2, L'⟩
  exact (zj (wc e1 (by simp))).trans ((zj e2).trans (wq ((kr hc).trans (wq (qc e3)))))
 ·rw [decide_eq_false (by lia)] at hc
  have l2 : zd 2 [some (.ref h), some (.int m), some (.int p)] H1 = some (.int p, H1) := rfl
  have e4 : wo o.fdiv (zd 2) (zh (.int 2)) [some (.ref h), some (.int m), some (.int p)] H1 = some (.int ((p : Int).fdiv 2), H1) := by
   rw [zbh l2 (show zh (.int 2) _ H1 = some (.int 2, H1) from rfl)]; rfl
  have e3 := fin (jt (jt (zdy (f := zh (.int 4)) (x := 4) rfl l2 (by decide)) e4) (g := zh (.int 1)) (y := 1) rfl)
  refine ⟨(4 * (p : Int) + (p : Int).fdiv 2 + 1).fmod m, y8 rfl (lo' := [some (.ref h), some (.int m), some (.int p)]) ?_, (key _).1, (key _).2, L'⟩
  exact (zj (wc e1 (by simp))).trans ((zj e2).trans ((zj ((yw hc).trans rfl)).trans (wq (qc e3))))
structure LW (h c la : Nat) (cells : List Int) (fz : List (Nat × MO)) (p : Nat) (t u : T) (last : List Int) (H : St) : Prop where
 hat : Hat h c cells p H
 r1 : Rep t H
 r2 : Rep u H
 lst : H[la]? = some (il last)
 stay : ∀ x ∈ fz, H[x.1]? = some x.2 ∧ x.1 ≠ h ∧ x.1 ≠ la
 d1 : ∀ k a, t.at k = some a → a ≠ h ∧ a ≠ c ∧ a ≠ la ∧ ∀ x ∈ fz, a ≠ x.1
 d2 : ∀ k a, u.at k = some a → a ≠ h ∧ a ≠ c ∧ a ≠ la ∧ ∀ x ∈ fz, a ≠ x.1
 dd : ∀ k k' a, t.at k = some a → u.at k' ≠ some a
 ne : h ≠ la ∧ c ≠ la
theorem jf {H : St} {a : Nat} {o : MO} (h : H[a]? = some o) : a < H.length := (zsl.mp h).1
section
variable {h c la p : Nat} {cells last : List Int} {fz : List (Nat × MO)} {t t' u u' : T} {H H' : St}
theorem Hat.keep (L : Hat h c cells p H) (h1 : H'[c]? = H[c]?) (h2 : H'[h]? = H[h]?) : Hat h c cells p H' := ⟨h1.trans L.held, h2.trans L.hat, L.pos, L.len, L.ne⟩
theorem LW.swap (L : LW h c la cells fz p t u last H) : LW h c la cells fz p u t last H := ⟨L.hat, L.r2, L.r1, L.lst, L.stay, L.d2, L.d1, fun k k' a h1 h2 => L.dd k' k a h2 h1, L.ne⟩
theorem LW.op (L : LW h c la cells fz p t u last H) (O : Op t H t' H') : LW h c la cells fz p t' u last H' := by
 have kp : ∀ a, a < H.length → (∀ k, t.at k ≠ some a) → H'[a]? = H[a]? := fun a h1 h2 => O.out.2 a h2 h1
 refine ⟨L.hat.keep (kp c (jf L.hat.held) fun k e => (L.d1 k _ e).2.1 rfl) (kp h (jf L.hat.hat) fun k e => (L.d1 k _ e).1 rfl), O.rep, L.r2.frame fun k a ha => kp a (L.r2.lt ha) fun k' e => L.dd k' k a e ha, (kp la (jf L.lst) fun k e => (L.d1 k _ e).2.2.1 rfl).trans L.lst,
  fun x hx => ⟨(kp x.1 (jf (L.stay x hx).1) fun k e => (L.d1 k _ e).2.2.2 x hx rfl).trans (L.stay x hx).1, (L.stay x hx).2⟩, fun k a ha => ?_, L.d2, fun k k' a h1 h2 => ?_, L.ne⟩
 ·rcases O.near k a ha with q | ⟨k', q⟩
  ·have e1 := jf L.hat.hat; have e2 := jf L.hat.held; have e3 := jf L.lst
   exact ⟨by lia, by lia, by lia, fun x hx => by have := jf (L.stay x hx).1; lia⟩
  ·exact L.d1 k' a q
 ·rcases O.near k a h1 with q | ⟨k0, q⟩
  ·have := L.r2.lt h2; lia
  ·exact L.dd k0 k' a q h2
theorem LW.op2 (L : LW h c la cells fz p t u last H) (O : Op u H u' H') : LW h c la cells fz p t u' last H' := (L.swap.op O).swap
theorem LW.app (L : LW h c la cells fz p t u last H) (K : St) : LW h c la cells fz p t u last (H ++ K) :=
 ⟨L.hat.keep (zst (jf L.hat.held)) (zst (jf L.hat.hat)), L.r1.app, L.r2.app, zaz L.lst, fun x hx => ⟨zaz (L.stay x hx).1, (L.stay x hx).2⟩, L.d1, L.d2, L.dd, L.ne⟩
theorem LW.more (L : LW h c la cells fz p t u last H) (o : MO) : LW h c la cells ((H.length, o) :: fz) p t u last (H ++ [o]) := by
 have e1 := jf L.hat.hat; have e3 := jf L.lst
 have L' := L.app [o]
 refine ⟨L'.hat, L'.r1, L'.r2, L'.lst, fun x hx => ?_, fun k a ha => ?_, fun k a ha => ?_, L.dd, L.ne⟩
 ·rcases zss.mp hx with rfl | hx
  ·exact ⟨by simp, by show H.length ≠ h; lia, by show H.length ≠ la; lia⟩
  ·exact L'.stay x hx
 ·obtain ⟨q1, q2, q3, q4⟩ := L.d1 k a ha
  refine ⟨q1, q2, q3, fun x hx => ?_⟩
  rcases zss.mp hx with rfl | hx
  ·exact zwu (L.r1.lt ha)
  ·exact q4 x hx
 ·obtain ⟨q1, q2, q3, q4⟩ := L.d2 k a ha
  refine ⟨q1, q2, q3, fun x hx => ?_⟩
  rcases zss.mp hx with rfl | hx
  ·exact zwu (L.r2.lt ha)
  ·exact q4 x hx
theorem LW.less {x : Nat × MO} (L : LW h c la cells (x :: fz) p t u last H) : LW h c la cells fz p t u last H :=
 ⟨L.hat, L.r1, L.r2, L.lst, fun y hy => L.stay y (.tail _ hy), fun k a ha => ⟨(L.d1 k a ha).1, (L.d1 k a ha).2.1, (L.d1 k a ha).2.2.1, fun y hy => (L.d1 k a ha).2.2.2 y (.tail _ hy)⟩, fun k a ha => ⟨(L.d2 k a ha).1, (L.d2 k a ha).2.1, (L.d2 k a ha).2.2.1, fun y hy => (L.d2 k a ha).2.2.2 y (.tail _ hy)⟩, L.dd, L.ne⟩
theorem LW.pull (L : LW h c la cells fz p t u last H) {m : Int} (hm : 0 < m) : ∃ x H', wj [.ref h, .int m] H = some (.int x, H') ∧ 0 ≤ x ∧ x < m ∧ LW h c la cells fz (p + 1) t u last H' := by
 refine zvt fun hq0 => ?_
 obtain ⟨x, e, h1, h2, L'⟩ := zmy L.hat hm
 refine hq0 ?_
 exact ⟨x, _, e, h1, h2, L', L.r1.setOut (fun k e => (L.d1 k _ e).1 rfl) _, L.r2.setOut (fun k e => (L.d2 k _ e).1 rfl) _, ze0 L.lst L.ne.1, fun y hy => ⟨ze0 (L.stay y hy).1 (Ne.symm (L.stay y hy).2.1), (L.stay y hy).2⟩, L.d1, L.d2, L.dd, L.ne⟩
theorem LW.sign (L : LW h c la cells fz p t u last H) : ∃ x H', kd [.ref h] H = some (.int x, H') ∧ (x = 1 ∨ x = -1) ∧ LW h c la cells fz (p + 1) t u last H' := by
 refine zvt fun hq0 => ?_
 obtain ⟨x, H', e, h1, h2, L'⟩ := L.pull (m := 2) (by decide)
 refine hq0 ?_
 refine ⟨1 - 2 * x, H', y8 rfl (lo' := [some (.ref h)]) (wq (qc ?_)), by lia, L'⟩
 exact vy (x := 1) rfl (zdy (x := 2) rfl ((qw (F := wj) (g := zd 0) (h := zh (.int 2)) rfl rfl).trans e) (by decide))
theorem LW.note (L : LW h c la cells fz p t u last H) (l : List Int) : LW h c la cells fz p t u l (H.set la (il l)) :=
 ⟨L.hat.keep (zsn (Ne.symm L.ne.2)) (zsn (Ne.symm L.ne.1)), L.r1.setOut (fun k e => (L.d1 k _ e).2.2.1 rfl) _, L.r2.setOut (fun k e => (L.d2 k _ e).2.2.1 rfl) _, zhb L.lst, fun y hy => ⟨ze0 (L.stay y hy).1 (Ne.symm (L.stay y hy).2.2), (L.stay y hy).2⟩, L.d1, L.d2, L.dd, L.ne⟩
end
end Mine
namespace Mine
noncomputable def nts (last Z : List Int) : List Int := Z.foldl (fun a l => a.set l.natAbs (sgn l)) last
structure Stl (n : Nat) (lots : List (List Int)) (t : T) : Prop where
 ti : TI n lots t
 hk : HOk n t.ac t.hp t.pl
 held : ∀ v : Nat, 1 ≤ v → v ≤ n → t.as.getD v 0 = 0 → (v : Int) ∈ t.hp
 he : t.he = t.tr.length
 wl : WL t.ls t.tr t.tr
structure zcx (t0 t : T) : Prop where
 tr : t0.tr <+: t.tr
 st : t0.st <+: t.st
 top : (t.st = t0.st ∧ t.tr = t0.tr) ∨ t.st[t0.st.length]? = some (t0.tr.length : Int)
 old : ∀ l ∈ t0.tr, t.lv[l.natAbs]? = t0.lv[l.natAbs]? ∧ t.rs[l.natAbs]? = t0.rs[l.natAbs]? ∧ t.sp[l.natAbs]? = t0.sp[l.natAbs]?
 ac : t.ac = t0.ac
theorem zja : ∀ {Z last : List Int}, (nts last Z).length = last.length
 | [], _ => rfl
 | x :: Z, last => (zja (Z := Z)).trans (zsx ..)
theorem zhg : ∀ {Z last : List Int} {v : Nat}, v ∉ Z.map zv6 → (nts last Z)[v]? = last[v]?
 | [], _, _, _ => rfl
 | x :: Z, last, v, h => by
  rw [zs9, zss, not_or] at h
  exact (zhg (Z := Z) h.2).trans (zsn (Ne.symm h.1))
theorem zm4 : ∀ {Z last : List Int}, (Z.map zv6).Nodup → (∀ l ∈ Z, l.natAbs < last.length) → ∀ l ∈ Z, (nts last Z)[l.natAbs]? = some (sgn l)
 | x :: Z, last, nd, hb, l, hl => by
  rw [zs9, zs4] at nd
  rcases zss.mp hl with rfl | hl
  ·exact (zhg (Z := Z) nd.1).trans (zsy (hb l (.head _)))
  ·exact zm4 (Z := Z) nd.2 (fun q hq => by rw [zsx]; exact hb q (.tail _ hq)) l hl
section
variable {n h c la p g s : Nat} {cells last : List Int} {lots : List (List Int)} {fz : List (Nat × MO)} {t t' t0 u : T} {H : St} {lit : Int}
theorem zko (L : LW h c la cells fz p t u last H) (I : TI n lots t) (hl : last.length = n + 1) (hs : s ≤ t.tr.length) :
  ∃ H', kj [.ref t.r, .int s, .ref la] H = some (.none, H') ∧ LW h c la cells fz p t u (nts last (t.tr.drop s)) H' := by
 have n6 := I.n6
 have tl := I.trlen
 have s1 := zim (f := zp 1 8 (zd 0)) (g := zd 1) (lo := [some (.ref t.r), some (.int s), some (.ref la), none]) (H := H) (i := s) (L.r1.attr rfl rfl rfl) rfl (L.r1.at' .tr _ rfl) (by rw [zsk]; exact hs) (by rw [zsk]; lia)
 rw [← zvc] at s1
 have L1 := L.more (il (t.tr.drop s))
 have fr := zee (g := zy 3) (b := zae) s1 (L1.stay _ (.head _)).1
 have rule := zfm (g := zy 3) (b := zae) (r := H.length) (l := (t.tr.drop s).map .int)
  (fun i lo H1 => (∃ w, lo = [some (.ref t.r), some (.int s), some (.ref la), w]) ∧ LW h c la cells ((H.length, il (t.tr.drop s)) :: fz) p t u (nts last ((t.tr.drop s).take i)) H1)
  (Q := fun lo H1 => LW h c la cells ((H.length, il (t.tr.drop s)) :: fz) p t u (nts last (t.tr.drop s)) H1) (R := fun _ _ _ => False)
  (fun i lo H1 hI => by obtain ⟨_, L⟩ := hI; exact (L.stay _ (.head _)).1)
  (fun i v lo H1 hv hI => by
   obtain ⟨⟨w, hlo⟩, L2⟩ := hI
   subst hlo
   rw [zsu] at hv
   obtain ⟨x, hx, rfl⟩ := zvv.mp hv
   obtain ⟨x1, x2⟩ := I.one x (zuu (zsm hx))
   refine ⟨[some (.ref t.r), some (.int s), some (.ref la), some (.int x)], H1, rfl, ?_⟩
   have e1 : zbt (z9 .Gt (zd 3) (zh (.int 0))) (zh (.int 1)) (uf (zh (.int 1))) [some (.ref t.r), some (.int s), some (.ref la), some (.int x)] H1 = some (.int (sgn x), H1) := by
    rw [zew (wi (x := .int x) (y := .int 0) (b := decide (0 < x)) rfl rfl rfl)]
    unfold sgn
    by_cases q : 0 < x
    ·rw [if_pos (decide_eq_true q), if_pos q]; rfl
    ·rw [if_neg (by simpa using q), if_neg q]; rfl
   have s2 := ki e1 (fa := zd 2) (fi := z4 b.abs [zd 3]) (i := (x.natAbs : Int)) rfl (xk rfl) L2.lst (by lia) (by rw [zsk, zja]; show x.natAbs < last.length; lia) (by rw [zsk, zja]; lia)
   rw [map_set] at s2
   unfold zae
   rw [zj s2]
   refine ⟨⟨_, rfl⟩, ?_⟩
   have e2 : nts last ((t.tr.drop s).take (i + 1)) = (nts last ((t.tr.drop s).take i)).set x.natAbs (sgn x) := by
    rw [zud, hx]
    unfold nts
    rw [ztu]; rfl
   rw [e2]
   exact L2.note _)
  (fun lo H1 hI => by obtain ⟨_, L⟩ := hI; rw [zsk, zto] at L; exact L) (lo := [some (.ref t.r), some (.int s), some (.ref la), none]) (H := H ++ [il (t.tr.drop s)]) ⟨⟨_, rfl⟩, L1⟩
 refine zvt fun hq0 => ?_
 obtain ⟨lo, H1, e1, L2⟩ := rule.next
 rw [← fr] at e1
 refine hq0 ?_
 exact ⟨H1, us rfl ((zj e1).trans rfl), L2.less⟩
theorem TI.free (I : TI n lots t) {v : Nat} (h1 : 1 ≤ v) (h2 : v ≤ n) : t.as.getD v 0 = 0 ↔ (v : Int) ∉ t.tr ∧ -(v : Int) ∉ t.tr := by
 have := I.val (v : Int) (by assumption) (by assumption)
 unfold T.val at this
 rw [if_pos (by lia)] at this
 have e : ((v : Int)).natAbs = v := rfl
 rw [e] at this
 by_cases m1 : (v : Int) ∈ t.tr
 ·rw [if_pos m1] at this
  exact ⟨fun q => by lia, fun q => absurd m1 q.1⟩
 ·rw [if_neg m1] at this
  by_cases m2 : -(v : Int) ∈ t.tr
  ·rw [if_pos m2] at this
   exact ⟨fun q => by lia, fun q => absurd m2 q.2⟩
  ·rw [if_neg m2] at this
   exact ⟨fun _ => ⟨m1, m2⟩, fun _ => this⟩
theorem zrv {l : List Int} {x : Int} (h : x ∈ l) : (x.natAbs : Int) ∈ l ∨ -(x.natAbs : Int) ∈ l := by
 rcases zwi x with q | q
 ·exact .inl (q ▸ h)
 ·exact .inr (q ▸ h)
theorem zob (I : TI n lots t) (I' : TI n lots t') (W : znm t lit t') (hh : ∀ v : Nat, 1 ≤ v → v ≤ n → t.as.getD v 0 = 0 → (v : Int) ∈ t.hp ∨ v = lit.natAbs) : ∀ v : Nat, 1 ≤ v → v ≤ n → t'.as.getD v 0 = 0 → (v : Int) ∈ t'.hp := fun v h1 h2 hz => by
 obtain ⟨n1, n2⟩ := (I'.free h1 h2).mp hz
 have sub : ∀ l ∈ t.tr ++ [lit], l ∈ t'.tr := W.tr.subset
 have hz' : t.as.getD v 0 = 0 := (I.free h1 h2).mpr ⟨fun q => n1 (sub _ (zta _ q)), fun q => n2 (sub _ (zta _ q))⟩
 rw [W.hp.1]
 refine (hh v h1 h2 hz').resolve_right fun e => ?_
 rcases zrv (sub lit (zth _ (.head _))) with q | q
 ·exact n1 (e ▸ q)
 ·exact n2 (e ▸ q)
theorem zp9 (I : TI n lots t) (I' : TI n lots t') (C : Cut t g s t') (hh : ∀ v : Nat, 1 ≤ v → v ≤ n → t.as.getD v 0 = 0 → (v : Int) ∈ t.hp) : ∀ v : Nat, 1 ≤ v → v ≤ n → t'.as.getD v 0 = 0 → (v : Int) ∈ t'.hp := fun v h1 h2 hz => by
 rw [C.hp]
 by_cases hd : v ∈ (t.tr.drop s).map zv6
 ·obtain ⟨l, hl, e⟩ := zso.mp hd
  exact .inr ⟨l, hl, by lia⟩
 ·rw [zsz, (C.keep v hd).1, ← zsz] at hz
  exact .inl (hh v h1 h2 hz)
theorem zk2 (R : Rep t H) (I : TI n lots t) (K : HOk n t.ac t.hp t.pl) (hh : ∀ v : Nat, 1 ≤ v → v ≤ n → t.as.getD v 0 = 0 → (v : Int) ∈ t.hp) (he : t.he = t.tr.length) (hg : t.st[g]? = some (s : Int)) :
  ∃ t' H', z7 [.ref t.r, .int g] H = some (.none, H') ∧ Op t H t' H' ∧ Stl n lots t' ∧ Cut t g s t' := by
 refine zvt fun hq0 => ?_
 obtain ⟨t', H', e, O, I', K', C, wl, ls⟩ := zot R I K hg
 have hs := I.stl _ (zsm hg)
 refine hq0 ?_
 refine ⟨t', H', e, O, ⟨I', K', zp9 I I' C hh, ?_, wl⟩, C⟩
 rw [C.he, C.tr, he, if_pos (by lia), zti]
 lia
theorem zcx.refl (t : T) : zcx t t := ⟨zsw, zsw, .inl ⟨rfl, rfl⟩, fun _ _ => ⟨rfl, rfl, rfl⟩, rfl⟩
theorem zcx.grow (F : zcx t0 t) (I' : TI n lots t') (W : znm t lit t') : zcx t0 t' := by
 have pre : t.tr <+: t'.tr := (ztj ..).trans W.tr
 refine ⟨F.tr.trans pre, by rw [W.st]; exact F.st.trans (ztj ..), .inr ?_, fun l hl => ?_, W.hp.2.2.trans F.ac⟩
 ·rw [W.st]
  rcases F.top with ⟨e1, e2⟩ | e
  ·rw [e1, e2]; simp
  ·rw [zst (zsl.mp e).1]; exact e
 ·have hm := F.tr.subset hl
  obtain ⟨o1, o2, o3⟩ := W.old l.natAbs fun l' h1 h2 e => h2 (zff I'.ndo h1 (pre.subset hm) e ▸ hm)
  obtain ⟨p1, p2, p3⟩ := F.old l hl
  exact ⟨o1.trans p1, o2.trans p2, o3.trans p3⟩
theorem zcx.le (F : zcx t0 t) (I : TI n lots t) (hg : t.st[g]? = some (s : Int)) (hge : t0.st.length ≤ g) : t0.tr.length ≤ s ∧ (g = t0.st.length → s = t0.tr.length) ∧ t.st[t0.st.length]? = some (t0.tr.length : Int) := by
 have hgl := (zsl.mp hg).1
 have top : t.st[t0.st.length]? = some (t0.tr.length : Int) := by
  rcases F.top with ⟨e1, e2⟩ | e
  ·rw [e1] at hgl; lia
  ·exact e
 have eq : g = t0.st.length → s = t0.tr.length := fun e => by
  rw [e, top] at hg
  have := zvu.inj hg
  lia
 refine ⟨?_, eq, top⟩
 by_cases e : g = t0.st.length
 ·rw [eq e]; exact zwt _
 ·obtain ⟨h1, h2⟩ := zsl.mp top
  have := zt3.mp I.st _ _ h1 hgl (by lia)
  rw [h2, (zsl.mp hg).2] at this
  lia
theorem zcx.cut (F : zcx t0 t) (I : TI n lots t) (C : Cut t g s t') (hg : t.st[g]? = some (s : Int)) (hge : t0.st.length ≤ g) : zcx t0 t' := by
 obtain ⟨h1, h2, h3⟩ := F.le I hg hge
 have hgl := (zsl.mp hg).1
 have tk : t0.tr = t.tr.take t0.tr.length := zui.mp F.tr
 have sk : t0.st = t.st.take t0.st.length := zui.mp F.st
 refine ⟨?_, ?_, ?_, fun l hl => ?_, C.ac.trans F.ac⟩
 ·rw [C.tr]
  conv => lhs; rw [tk]
  exact zuw h1
 ·rw [C.st]
  conv => lhs; rw [sk]
  exact zuw hge
 ·by_cases e : g = t0.st.length
  ·exact .inl ⟨by rw [C.st, e]; exact sk.symm, by rw [C.tr, h2 e]; exact tk.symm⟩
  ·exact .inr (by rw [C.st, ztz, if_pos (by lia)]; exact h3)
 ·obtain ⟨p1, p2, p3⟩ := F.old l hl
  rw [C.lv, C.sp]
  refine ⟨p1, ((C.keep l.natAbs fun q => ?_).2.1).trans p2, p3⟩
  have hl' : l ∈ t.tr.take s := by
   rw [tk] at hl
   have : t.tr.take t0.tr.length <+: t.tr.take s := zuw h1
   exact this.subset hl
  have nd := I.ndo
  rw [← zue s t.tr, zs3, zte] at nd
  exact nd.2.2 _ (zs5 hl') _ q rfl
theorem Cut.phs (C : Cut t g s t') (I : TI n lots t) (hl : t.ph = last) : t'.ph = nts last (t.tr.drop s) := by
 have nd : ((t.tr.drop s).map zv6).Nodup := I.ndo.sublist ((zvn ..).map _)
 refine ztl fun v => ?_
 by_cases hd : v ∈ (t.tr.drop s).map zv6
 ·obtain ⟨l, hl', rfl⟩ := zso.mp hd
  rw [(C.gone l hl').2.2, zm4 nd (fun q hq => by rw [← hl, I.ph]; have := I.one q (zuu hq); lia) l hl']
 ·rw [(C.keep v hd).2.2, zhg hd, hl]
end
end Mine
namespace Mine
noncomputable def vw (t : T) (l : Int) : List Int := [l, t.lv.getD l.natAbs 0, t.rs.getD l.natAbs 0, t.sp.getD l.natAbs 0]
noncomputable abbrev wu (l : List (List Int)) : MO := .list (l.map fun r => .tup (r.map .int))
theorem zpo {k : Nat} {H : St} {l : List (List Int)} : zi8 (rd (k + 2) H) (l.map fun r => .tup (r.map .int)) = some (l.map fun r => PyData.tuple (r.map .int)) := zhd fun r _ => by
 show (zi8 (rd (k + 1) H) (r.map .int)).map PyData.tuple = _
 rw [zkl]; rfl
theorem zmv {k a : Nat} {H : St} {l : List (List Int)} (h : H[a]? = some (wu l)) : rd (k + 3) H (.ref a) = some (.list (l.map fun r => PyData.tuple (r.map .int))) := by
 rw [zmw h]; exact congrArg (zvw PyData.list) zpo
theorem zj0 (l : List (List Int)) : shaped (.list (l.map fun r => PyData.tuple (r.map .int))) = true := by
 obtain ⟨h1, h2⟩ := zce (k := 1) (xs := l.map fun r => PyData.tuple (r.map .int)) fun x hx => by
  obtain ⟨r, _, rfl⟩ := zso.mp hx
  obtain ⟨h1, h2⟩ := zce (k := 0) (xs := r.map PyData.int) fun x hx => by
   obtain ⟨i, _, rfl⟩ := zso.mp hx
   exact ⟨rfl, zwt _⟩
  simp only [PyData.canLay0, PyData.depth]
  exact ⟨h1, by lia⟩
 refine zdl (k := 2) ⟨?_, ?_⟩ (by decide)
 ·simp only [PyData.canLay0]; exact h1
 ·simp only [PyData.depth]; lia
theorem zkz {H : St} {a b : Nat} {l : List (List Int)} (ha : H[a]? = some (wu l)) (hb : H[b]? = some (wu l)) : eqD H (.ref a) (.ref b) = some true := zky (zmv (k := 5) ha) (zmv (k := 5) hb) (zj0 l)
section
variable {n : Nat} {lots : List (List Int)} {t t0 : T} {H : St}
theorem zms (R : Rep t H) (I : TI n lots t) : gg [.ref t.r] H = some (.ref H.length, H ++ [wu (t.tr.map (vw t))]) := by
 have n6 := I.n6
 have tl := I.trlen
 have e1 := zdz (q := 1) (f := zp 1 8 (zd 0)) (t := zah) (e := j0 [(zd 1), (wd (zp 1 2 (zd 0)) (z4 b.abs [(zd 1)])), (wd (zp 1 3 (zd 0)) (z4 b.abs [(zd 1)])), (wd (zp 1 4 (zd 0)) (z4 b.abs [(zd 1)]))]) (lo := [some (.ref t.r)]) (H := H)
  (fun _ => true) (fun v => match v with | .int l => .tup ((vw t l).map .int) | _ => .none) (R.attr rfl rfl rfl) (R.at' .tr _ rfl) rfl (by rw [zsk]; lia) (fun v _ => rfl) (fun v hv _ => by
   obtain ⟨l, hl, rfl⟩ := zso.mp hv
   obtain ⟨h1, h2⟩ := I.one l hl
   have q2 := yo (f := zp 1 2 (zd 0)) (g := z4 b.abs [zd 1]) (lo := [some (.ref t.r), some (.int l)]) (H := H) (i := (l.natAbs : Int)) (R.attr rfl rfl rfl) (xk rfl) (R.at' .lv _ rfl) (by lia) (qi (l := t.lv) (i := l.natAbs) (by rw [I.len.lv, I.as]; lia)) (by rw [I.len.lv, I.as]; lia)
   have q3 := yo (f := zp 1 3 (zd 0)) (g := z4 b.abs [zd 1]) (lo := [some (.ref t.r), some (.int l)]) (H := H) (i := (l.natAbs : Int)) (R.attr rfl rfl rfl) (xk rfl) (R.at' .rs _ rfl) (by lia) (qi (l := t.rs) (i := l.natAbs) (by rw [I.len.rs, I.as]; lia)) (by rw [I.len.rs, I.as]; lia)
   have q4 := yo (f := zp 1 4 (zd 0)) (g := z4 b.abs [zd 1]) (lo := [some (.ref t.r), some (.int l)]) (H := H) (i := (l.natAbs : Int)) (R.attr rfl rfl rfl) (xk rfl) (R.at' .sp _ rfl) (by lia) (qi (l := t.sp) (i := l.natAbs) (by rw [I.len.sp, I.as]; lia)) (by rw [I.len.sp, I.as]; lia)
   show j0 _ [some (.ref t.r), some (.int l)] H = _
   unfold j0 jw
   rw [show zd 1 [some (.ref t.r), some (.int l)] H = some (.int l, H) from rfl]
   dsimp only [bnd]
   rw [vu q2 q3 q4]
   rfl)
 have e2 : ((t.tr.map MV.int).filter fun _ => true).map (fun v => match v with | .int l => MV.tup ((vw t l).map .int) | _ => .none) = (t.tr.map (vw t)).map fun r => .tup (r.map .int) := by
  rw [zuj.mpr (by simp), ztc, ztc]; rfl
 rw [e2] at e1
 exact y8 rfl (lo' := [some (.ref t.r)]) (wq (qc e1))
theorem znx (R : Rep t H) (I : TI n lots t) (he : t.he = t.tr.length) : yd [.ref t.r] H = some (.int (-1), H) := by
 have tl := I.trlen
 have n6 := I.n6
 have c := wi (op := .Lt) (f := zp 1 10 (zd 0)) (lo := [some (.ref t.r), none, none]) (H := H) (x := .int t.he) (R.attr rfl rfl rfl) (zdi R (f := zd 0) rfl (by lia)) (b := decide (t.he < t.tr.length)) rfl
 rw [decide_eq_false (by lia)] at c
 have e : vm (z9 .Lt (zp 1 10 (zd 0)) (z4 b.len [(zp 1 8 (zd 0))])) qt (199 + 1) [some (.ref t.r), none, none] H = some (.next, [some (.ref t.r), none, none], H) := by
  unfold vm
  rw [c]; rfl
 exact y8 rfl (lo' := [some (.ref t.r), none, none]) ((zj e).trans (wq (qc rfl)))
theorem znb (P : Rep t H) (has : t.as.length = n + 1) (hn : n ≤ 50) {f : DE} {lo : Lo} (hf : f lo H = some (.ref t.r, H)) : z4 b.range [(zh (.int 1)), (wo o.add (z5 1 yq f []) (zh (.int 1)))] lo H = some (.rng 1 (n + 1) 1, H) := by
 refine zin (x := 1) rfl ?_
 rw [jt (((qf (F := yq) hf (P.at' .obj _ rfl)).trans (zmi P (by lia)))) (show zh (.int 1) lo H = _ from rfl), has]
 congr 3; lia
theorem zl7 (n : Nat) : ((n : Int) + 1 - 1).toNat = n := by lia
noncomputable abbrev blo (t : T) (d : Int) (se la : Nat) (u w : Option MV) : Lo := [some (.ref t.r), some (.int d), some (.ref se), some (.ref la), u, w]
theorem zsa (S : Stl n lots t) (G : LG n lots) {last : List Int} {se la : Nat} (R : Rep t H) (hse : H[se]? = some (wu (t.tr.map (vw t)))) (hla : H[la]? = some (il last)) (hph : t.ph = last) :
  ∃ L, uu [.ref t.r, .int t.st.length, .ref se, .ref la] H = some (.bool true, H ++ L) := by
 have I := S.ti
 have n6 := I.n6
 have tl := I.trlen
 have sl := I.stlen
 -- known
 have e1 := zdz (q := 6) (f := zd 2) (t := zah) (e := z4 b.abs [(wd (zd 6) (zh (.int 0)))]) (lo := blo t t.st.length se la none none) (H := H) (fun _ => true) (fun v => match v with | .tup (.int l :: _) => .int l.natAbs | _ => .none) rfl hse rfl (by rw [zsk, zsk]; lia) (fun v _ => rfl) (fun v hv _ => by
  obtain ⟨r, hr, rfl⟩ := zso.mp hv
  obtain ⟨l, hl, rfl⟩ := zso.mp hr
  exact xk (zbg (i := 0) rfl rfl (by
   show zr3 (.tup ((vw t l).map .int)) (.int 0) H = some (.int l)
   show (if (0 : Int) ≤ 0 ∧ (0 : Int) < 2 ^ 62 then ((vw t l).map MV.int)[(0 : Int).toNat]? else none) = _
   rw [if_pos (by decide)]; rfl)))
 have e2 : (((t.tr.map (vw t)).map fun r => MV.tup (r.map .int)).filter fun _ => true).map (fun v => match v with | .tup (.int l :: _) => MV.int l.natAbs | _ => .none) = (t.tr.map fun l => (l.natAbs : Int)).map .int := by
  rw [zuj.mpr (by simp), ztc, ztc, ztc]; rfl
 rw [e2] at e1
 have s1 : zq (gr 6 1 (zd 2) (zy 6) zah (z4 b.abs [(wd (zd 6) (zh (.int 0)))])) (zy 4) (blo t t.st.length se la none none) H = some (.next, blo t t.st.length se la (some (.ref H.length)) none, H ++ [il (t.tr.map fun l => (l.natAbs : Int))]) := wc e1 (by simp)
 have R1 := R.app (L := [il (t.tr.map fun l => (l.natAbs : Int))])
 have hse1 := zaz (L := [il (t.tr.map fun l => (l.natAbs : Int))]) hse
 have hk1 : (H ++ [il (t.tr.map fun l => (l.natAbs : Int))])[H.length]? = some (il (t.tr.map fun l => (l.natAbs : Int))) := by simp
 have hla1 := zaz (L := [il (t.tr.map fun l => (l.natAbs : Int))]) hla
 have cseen : ∀ {H : St} {w : Option MV} {kk : Nat}, Rep t H → H[se]? = some (wu (t.tr.map (vw t))) → eqD (H ++ [wu (t.tr.map (vw t))]) (.ref H.length) (.ref se) = some true ∧ we gg [(zd 0)] (blo t t.st.length se la (some (.ref kk)) w) H = some (.ref H.length, H ++ [wu (t.tr.map (vw t))]) := fun {H w kk} R h =>
  ⟨zkz (by simp) (zaz h), (j3 (F := gg) (g := zd 0) rfl).trans (zms R I)⟩
 refine zvt fun hq0 => ?_
 obtain ⟨q1, q2⟩ := cseen (w := none) (kk := H.length) R1 hse1
 have c1 := wi (op := .NotEq) q2 (g := zd 2) (y := .ref se) rfl (b := false) (by show (zv2 none ((eqD _ _ _).map not)) = _; rw [q1]; rfl)
 have R2 := R1.app (L := [wu (t.tr.map (vw t))])
 have hse2 := zaz (L := [wu (t.tr.map (vw t))]) hse1
 have hk2 := zaz (L := [wu (t.tr.map (vw t))]) hk1
 have hla2 := zaz (L := [wu (t.tr.map (vw t))]) hla1
 have asc : (H ++ [il (t.tr.map fun l => (l.natAbs : Int))]) ++ [wu (t.tr.map (vw t))] = H ++ [il (t.tr.map fun l => (l.natAbs : Int)), wu (t.tr.map (vw t))] := by rw [zs7]; rfl
 generalize (H ++ [il (t.tr.map fun l => (l.natAbs : Int))]) ++ [wu (t.tr.map (vw t))] = H2 at c1 R2 hse2 hk2 hla2 asc
 have c2 := wi (op := .NotEq) ((qf (F := wg) (f := zd 0) (lo := blo t t.st.length se la (some (.ref H.length)) none) rfl (R2.at' .obj _ rfl)).trans (vc R2 (by lia))) (g := zd 1) (y := .int t.st.length) rfl (b := (t.st.length : Int) != t.st.length) rfl
 rw [bne_self_eq_false] at c2
 have c3 := wi (op := .NotEq) (f := zp 1 10 (zd 0)) (lo := blo t t.st.length se la (some (.ref H.length)) none) (x := .int t.he) (R2.attr rfl rfl rfl) (jh (f := zd 2) rfl hse2 (by rw [zsk, zsk]; lia)) (b := t.he != t.tr.length) (by rw [zsk, zsk]; rfl)
 rw [S.he, bne_self_eq_false] at c3
 have fr := xa (g := zy 5) (b := j7) (znb R2 I.as (by lia) (f := zd 0) (lo := blo t t.st.length se la (some (.ref H.length)) none) rfl) (by decide) (by decide) (by lia) (by lia)
 rw [zl7] at fr
 have rule := jb (g := zy 5) (b := j7) (l := (zsr n).map fun i : Nat => MV.int (1 + i))
  (fun i lo H' => (∃ w, lo = blo t t.st.length se la (some (.ref H.length)) w) ∧ H' = H2) (Q := fun lo H' => (∃ w, lo = blo t t.st.length se la (some (.ref H.length)) w) ∧ H' = H2) (R := fun _ _ _ => False)
  (fun i v lo H' hv hI => by
   obtain ⟨⟨w, hlo⟩, hH⟩ := hI
   subst hlo; subst hH
   obtain ⟨hi, rfl⟩ := jk hv
   have ev : (1 + (i : Int)) = ((i + 1 : Nat) : Int) := by lia
   rw [ev]
   generalize hvv : i + 1 = v
   have v1 : 1 ≤ v := by lia
   have v2 : v ≤ n := by lia
   refine ⟨blo t t.st.length se la (some (.ref H.length)) (some (.int v)), H', rfl, ?_⟩
   have d1 := wi (op := .In) (f := zd 5) (g := zd 4) (lo := blo t t.st.length se la (some (.ref H.length)) (some (.int v))) (H := H') (x := .int v) (y := .ref H.length) rfl rfl (cmp_in hk2)
   by_cases hm : (v : Int) ∈ t.tr.map fun l => (l.natAbs : Int)
   ·rw [decide_eq_true hm] at d1
    unfold j7
    rw [ze1 ((kr d1).trans (ze1 rfl))]
    exact ⟨⟨_, rfl⟩, rfl⟩
   ·rw [decide_eq_false hm] at d1
    have n1 : (v : Int) ∉ t.tr := fun q => hm (zso.mpr ⟨_, q, rfl⟩)
    have n2 : -(v : Int) ∉ t.tr := fun q => hm (zso.mpr ⟨_, q, by rw [zwa]; rfl⟩)
    have hz := (I.free v1 v2).mpr ⟨n1, n2⟩
    have vv : t.val (v : Int) = 0 := by rw [I.val v (by assumption) (by assumption), if_neg n1, if_neg n2]
    have d2 := wi (op := .NotEq) (vt R2 (f := zd 0) (g := zd 5) (lo := blo t t.st.length se la (some (.ref H.length)) (some (.int v))) rfl rfl (by rw [I.as]; omega) (by rw [I.as]; lia)) (g := zh (.int 0)) (y := .int 0) rfl (b := t.val v != 0) rfl
    rw [vv] at d2
    have d3 := wi (op := .NotEq) (yo (f := zp 1 3 (zd 0)) (g := zd 5) (lo := blo t t.st.length se la (some (.ref H.length)) (some (.int v))) (H := H') (i := (v : Int)) (R2.attr rfl rfl rfl) rfl (R2.at' .rs _ rfl) (by lia) (I.unk v v1 v2 hz) (by rw [I.len.rs, I.as]; lia)) (g := uf (zh (.int 1))) (y := .int (-1)) rfl (b := false) rfl
    have d4 := uj ((yu (F := yh) (f := zp 1 7 (zd 0)) (g := zd 5) (lo := blo t t.st.length se la (some (.ref H.length)) (some (.int v))) (R2.attr rfl rfl rfl) (R2.at' .hob _ rfl) rfl).trans (zm9 R2 S.hk (v := (v : Int)) (by lia) (by lia)))
    rw [decide_eq_true (S.held v v1 v2 hz)] at d4
    have d4' : zbd (qd (z5 0 yh (zp 1 7 (zd 0)) [zd 5])) (blo t t.st.length se la (some (.ref H.length)) (some (.int v))) H' = some (false, H') := by unfold zbd; rw [d4]; rfl
    have gp := qi (l := last) (i := v) (by rw [← hph, I.ph]; lia)
    have d5 := wi (op := .NotEq) (yo (f := zp 1 5 (zd 0)) (g := zd 5) (lo := blo t t.st.length se la (some (.ref H.length)) (some (.int v))) (H := H') (i := (v : Int)) (R2.attr rfl rfl rfl) rfl (R2.at' .ph _ rfl) (by lia) (by rw [hph]; exact gp) (by rw [I.ph]; lia))
     (yo (f := zd 3) (g := zd 5) (i := (v : Int)) rfl rfl hla2 (by lia) gp (by rw [← hph, I.ph]; lia)) (b := last.getD v 0 != last.getD v 0) rfl
    rw [bne_self_eq_false] at d5
    unfold j7
    rw [zj ((yw d1).trans rfl), zj ((yw ((ut d2).trans ((ut d3).trans ((ut d4').trans ((ut d5).trans rfl))))).trans rfl)]
    exact ⟨⟨_, rfl⟩, rfl⟩)
  (fun lo H' h => h) (lo := blo t t.st.length se la (some (.ref H.length)) none) (H := H2) ⟨⟨_, rfl⟩, rfl⟩
 obtain ⟨lo, H3, e3, ⟨w, rfl⟩, hH3⟩ := rule.next
 subst hH3
 rw [← fr] at e3
 have f1 := zex (op := .Eq) ((qf (F := yd) (f := zd 0) (lo := blo t t.st.length se la (some (.ref H.length)) w) rfl (R2.at' .obj _ rfl)).trans (znx R2 I S.he)) (g := uf (zh (.int 1))) (y := .int (-1)) rfl (b := true) rfl
 obtain ⟨q3, q4⟩ := cseen (w := w) (kk := H.length) R2 hse2
 have f2 := zex (op := .Eq) q4 (g := zd 2) (y := .ref se) rfl (b := true) (by show (zv2 none (eqD _ _ _)) = _; rw [q3]; rfl)
 obtain ⟨L3, e5⟩ := zha (R2.app (L := [wu (t.tr.map (vw t))])) I G
 have f3 : z5 1 ym (zd 0) [] (blo t t.st.length se la (some (.ref H.length)) w) (H3 ++ [wu (t.tr.map (vw t))]) = some (.bool true, (H3 ++ [wu (t.tr.map (vw t))]) ++ L3) :=
  (qf (F := ym) (f := zd 0) rfl ((R2.app (L := [wu (t.tr.map (vw t))])).at' .obj _ rfl)).trans e5
 have andV : ∀ {f g : DE} {lo : Lo} {H H1 : St}, f lo H = some (.bool true, H1) → zga f g lo H = g lo H1 := fun {f g lo H H1} e => by unfold zga; rw [e]; rfl
 have fin := (andV (g := zga (zch .Eq (we gg [(zd 0)]) (zd 2)) (z5 1 ym (zd 0) [])) f1).trans ((andV f2).trans f3)
 refine hq0 ?_
 refine ⟨[il (t.tr.map fun l => (l.natAbs : Int)), wu (t.tr.map (vw t))] ++ ([wu (t.tr.map (vw t))] ++ L3), y8 rfl (lo' := blo t t.st.length se la (some (.ref H.length)) w) ?_⟩
 rw [← zs7, ← asc, ← zs7]
 exact (zj s1).trans ((zj ((yw ((ut c1).trans ((ut c2).trans ((ut c3).trans rfl)))).trans rfl)).trans ((zj e3).trans (wq (qc fin))))
end
end Mine
namespace Mine
noncomputable def frees (n : Nat) (t : T) : List Int := ((zsr n).map fun i : Nat => (1 + (i : Int))).filter fun v => t.val v == 0
structure Mid (n : Nat) (lots : List (List Int)) (t : T) (v : Nat) : Prop where
 ti : TI n lots t
 hk : HOk n t.ac t.hp t.pl
 held : ∀ w : Nat, 1 ≤ w → w ≤ n → t.as.getD w 0 = 0 → (w : Int) ∈ t.hp ∨ w = v
 he : t.he = t.tr.length
 wl : WL t.ls t.tr t.tr
 v1 : 1 ≤ v
 v2 : v ≤ n
 vz : t.as.getD v 0 = 0
section
variable {n h c la p : Nat} {cells last : List Int} {lots : List (List Int)} {fz : List (Nat × MO)} {t t' t0 u : T} {H : St} {lit : Int}
theorem TI.heap (I : TI n lots t) (a b q : List Int) : TI n lots { t with ac := a, hp := b, pl := q } := ⟨I.as, I.n1, I.n6, ⟨I.len.lv, I.len.rs, I.len.sp, I.len.as, I.len.tr, I.len.st⟩, I.ph, I.W, I.C, I.cl, I.val, I.one, I.ndo, I.sp, I.unk, I.rsn, I.wat, I.cut, I.st, I.stl, I.a0⟩
theorem zdr (I : TI n lots t) {x : Int} (hx : x ∈ frees n t) : ∃ v : Nat, x = v ∧ 1 ≤ v ∧ v ≤ n ∧ t.as.getD v 0 = 0 := by
 refine zvt fun hq0 => ?_
 obtain ⟨h1, h2⟩ := zua.mp hx
 obtain ⟨i, hi, rfl⟩ := zso.mp h1
 have hi' := ztn.mp hi
 refine hq0 ?_
 refine ⟨i + 1, by lia, by lia, by assumption, ?_⟩
 have := beq_iff_eq.mp h2
 unfold T.val at this
 rw [if_pos (by lia), show (1 + (i : Int)).natAbs = i + 1 by lia] at this
 exact this
theorem zoe (I : TI n lots t) {v : Nat} (h1 : 1 ≤ v) (h2 : v ≤ n) (hz : t.as.getD v 0 = 0) : (v : Int) ∈ frees n t := by
 refine zua.mpr ⟨zso.mpr ⟨v - 1, ztn.mpr (by omega), by lia⟩, beq_iff_eq.mpr ?_⟩
 unfold T.val
 rw [if_pos (by lia)]
 exact hz
theorem zod : (frees n t).length ≤ n := by
 have := zus (fun v => t.val v == 0) ((zsr n).map fun i : Nat => (1 + (i : Int)))
 rw [zsk, zts] at this
 exact this
theorem zlj (n : Nat) : ((zsr ((n : Int) + 1 - 1).toNat).map fun i : Nat => MV.int (1 + i)) = ((zsr n).map fun i : Nat => (1 + (i : Int))).map .int := by
 rw [zl7, ztc]; rfl
theorem zp5 (R : Rep t H) (I : TI n lots t) {lo : Lo} (hlo : lo.length = 9) (h1 : lo[1]? = some (some (.ref t.r))) :
  gr 9 1 (z4 b.range [(zh (.int 1)), (wo o.add (z5 1 yq (zd 1) []) (zh (.int 1)))]) (zy 9) (z9 .Eq (z5 1 wf (zd 1) [(zd 9)]) (zh (.int 0))) (zd 9) lo H = some (.ref H.length, H ++ [il (frees n t)]) := by
 have n6 := I.n6
 have e := zp6 (q := 9) (t := z9 .Eq (z5 1 wf (zd 1) [(zd 9)]) (zh (.int 0))) (e := zd 9) (fun v => match v with | .int i => t.val i == 0 | _ => false) (fun v => v) (znb R I.as (by lia) (f := zd 1) (lo := lo) (jc h1)) (by decide) (by decide) (by lia) (by lia) hlo
  (fun v hv => by
   obtain ⟨i, hi, rfl⟩ := zso.mp hv
   have hi' := ztn.mp hi
   rw [zl7] at hi'
   have l1 : zd 1 (lo ++ [some (.int (1 + (i : Int)))]) H = some (.ref t.r, H) := jc (by rw [zst (by lia)]; exact h1)
   have l9 : zd 9 (lo ++ [some (.int (1 + (i : Int)))]) H = some (.int (1 + (i : Int)), H) := jc (by rw [zs2 (by lia), hlo]; rfl)
   exact wi (vt R l1 l9 (by rw [I.as]; omega) (by rw [I.as]; lia)) (y := .int 0) rfl rfl) (fun v hv _ => jc (by rw [zs2 (by lia), hlo]; rfl))
 rw [zlj] at e
 have e2 : ((((zsr n).map fun i : Nat => (1 + (i : Int))).map MV.int).filter fun v => match v with | .int i => t.val i == 0 | _ => false).map (fun v => v) = (frees n t).map .int := by
  rw [zuv]; exact zc8 (fun i => t.val i == 0)
 rw [e2] at e
 exact e
theorem Stl.mid (S : Stl n lots t) {v : Nat} (h1 : 1 ≤ v) (h2 : v ≤ n) (hz : t.as.getD v 0 = 0) : Mid n lots t v := ⟨S.ti, S.hk, fun w w1 w2 hw => .inl (S.held w w1 w2 hw), S.he, S.wl, h1, h2, hz⟩
theorem zhj (S : Stl n lots t) {b : Int} {hp pl : List Int} (K : HOk n t.ac hp pl) (B : znn t.as t.ac t.hp hp b) (hb : b ≠ 0) : ∃ v : Nat, b = v ∧ Mid n lots { t with hp := hp, pl := pl } v := by
 obtain ⟨m1, m2, m3⟩ := B.best.resolve_left fun q => hb q.1
 have r := S.hk.rng b m1
 refine ⟨b.toNat, by lia, S.ti.heap t.ac hp pl, K, fun w w1 w2 hw => ?_, S.he, S.wl, by lia, by lia, m2⟩
 by_cases e : (w : Int) = b
 ·exact .inr (by lia)
 ·exact .inl ((B.left w hw).mpr ⟨S.held w w1 w2 hw, e⟩)
theorem zfn (S : Stl n lots t) {b : Int} {hp pl : List Int} (B : znn t.as t.ac t.hp hp b) (hb : b = 0) : ∀ v : Nat, 1 ≤ v → v ≤ n → t.as.getD v 0 ≠ 0 := fun v h1 h2 hz => by
 rcases B.best with ⟨-, q⟩ | ⟨q, -⟩
 ·exact q v (S.held v h1 h2 hz) hz
 ·have := S.hk.rng b q; lia
theorem zcx.heap (F : zcx t0 t) (b q : List Int) : zcx t0 { t with hp := b, pl := q } := ⟨F.tr, F.st, F.top, F.old, F.ac⟩
theorem zoq (L : LW h c la cells fz p t u last H) (S : Stl n lots t) {fa : Nat} (hfa : (fa, il (frees n t)) ∈ fz) (hne : frees n t ≠ []) {lo : Lo} (h0 : lo[0]? = some (some (.ref h))) (h1 : lo[1]? = some (some (.ref t.r))) (h6 : lo[6]? = some (some (.ref fa))) :
  ∃ (v : Nat) (hp pl : List Int) (p' : Nat) (H' : St), zbt (z9 .Eq (we wj [(zd 0), (zh (.int 2))]) (zh (.int 0))) (z5 0 wp (zp 1 7 (zd 1)) [(zp 1 1 (zd 1))]) (wd (zd 6) (we wj [(zd 0), (z4 b.len [(zd 6)])])) lo H = some (.int v, H') ∧
   LW h c la cells fz p' { t with hp := hp, pl := pl } u last H' ∧ Mid n lots { t with hp := hp, pl := pl } v := by
 have I := S.ti
 have n6 := I.n6
 refine zvt fun hq0 => ?_
 obtain ⟨x, H1, e1, x1, x2, L1⟩ := L.pull (m := 2) (by decide)
 have c1 := wi (op := .Eq) ((qw (F := wj) (g := zd 0) (h := zh (.int 2)) (lo := lo) (jc h0) rfl).trans e1) (g := zh (.int 0)) (y := .int 0) rfl (b := x == 0) rfl
 refine hq0 ?_
 rw [zew c1]
 by_cases hx : x = 0
 ·rw [if_pos (beq_iff_eq.mpr hx)]
  obtain ⟨b, H2, hp, pl, e2, O2, K2, B⟩ := za8 L1.r1 S.hk I.as
  have hb : b ≠ 0 := fun e => by
   obtain ⟨y, hy⟩ := List.exists_mem_of_ne_nil _ hne
   obtain ⟨v, rfl, v1, v2, vz⟩ := zdr I hy
   exact zfn (pl := pl) S B e v v1 v2 vz
  obtain ⟨v, rfl, M⟩ := zhj S K2 B hb
  refine ⟨v, hp, pl, p + 1, H2, ?_, L1.op O2, M⟩
  exact (yu (F := wp) (L1.r1.attr rfl (jc h1) rfl) (L1.r1.at' .hob _ rfl) (L1.r1.attr rfl (jc h1) rfl)).trans e2
 ·rw [if_neg (by simpa using hx)]
  have hf1 := (L1.stay _ hfa).1
  have fl : 0 < (frees n t).length := zvg.mpr hne
  have fl2 : (frees n t).length ≤ n := zod
  have e2 := jh (f := zd 6) (lo := lo) (H := H1) (jc h6) hf1 (by rw [zsk]; lia)
  rw [zsk] at e2
  obtain ⟨y, H2, e3, y1, y2, L2⟩ := L1.pull (m := ((frees n t).length : Int)) (by lia)
  have hy : y.toNat < (frees n t).length := by lia
  have gy := qi hy
  obtain ⟨v, ev, v1, v2, vz⟩ := zdr I (zsm gy)
  rw [ev] at gy
  refine ⟨v, t.hp, t.pl, p + 1 + 1, H2, ?_, L2, S.mid v1 v2 vz⟩
  exact zbg (jc h6) ((qw (F := wj) (g := zd 0) (h := z4 b.len [zd 6]) (jc h0) e2).trans e3) (j1 (L2.stay _ hfa).1 y1 (zhn gy) (by rw [zsk]; lia))
end
end Mine
namespace Mine
section
variable {n h c la p : Nat} {cells last : List Int} {lots : List (List Int)} {fz : List (Nat × MO)} {t t' t0 u : T} {H : St} {lit : Int}
theorem zqv (L : LW h c la cells fz p t u last H) (G : LG n lots) {v : Nat} (M : Mid n lots t v) {x : Int} (hx : x = 1 ∨ x = -1) :
  ∃ b t' H', yr [.ref t.r, .int (v * x)] H = some (.bool b, H') ∧ LW h c la cells fz p t' u last H' ∧ t'.r = t.r ∧ TI n lots t' ∧ HOk n t'.ac t'.hp t'.pl ∧ (∀ w : Nat, 1 ≤ w → w ≤ n → t'.as.getD w 0 = 0 → (w : Int) ∈ t'.hp) ∧ t'.he = t'.tr.length ∧ znm t (v * x) t' ∧ zg5 lots (t.tr ++ [v * x]) t'.tr ∧
   ((b = true ∧ Stl n lots t') ∨ (b = false ∧ ∃ c0 ∈ lots, ∀ l ∈ c0, -l ∈ t'.tr)) := by
 have ha : ((v : Int) * x).natAbs = v := by rcases hx with rfl | rfl <;> lia
 have v1 := M.v1
 have v2 := M.v2
 refine zvt fun hq0 => ?_
 obtain ⟨n1, n2⟩ := (M.ti.free v1 v2).mp M.vz
 have m1 : ((v : Int) * x) ∉ t.tr ∧ -((v : Int) * x) ∉ t.tr := by
  rcases hx with rfl | rfl
  ·rw [zwf]; exact ⟨n1, n2⟩
  ·rw [show (v : Int) * -1 = -(v : Int) by lia, zwc]; exact ⟨n2, n1⟩
 obtain ⟨b, t', H', e, O, I', he, W, Sm, hb⟩ := zr0 L.r1 M.ti G M.he M.wl (lit := (v : Int) * x) (by lia) (by lia) m1.1 m1.2
 have K' : HOk n t'.ac t'.hp t'.pl := by rw [W.hp.1, W.hp.2.1, W.hp.2.2]; exact M.hk
 have hh := zob M.ti I' W fun w w1 w2 hw => by
  rw [ha]; exact M.held w w1 w2 hw
 refine hq0 ?_
 refine ⟨b, t', H', e, L.op O, O.r, I', K', hh, he, W, Sm, ?_⟩
 rcases hb with ⟨rfl, wl⟩ | ⟨rfl, q⟩
 ·exact .inl ⟨rfl, I', K', hh, he, wl⟩
 ·exact .inr ⟨rfl, q⟩
theorem zhk (L : LW h c la cells fz p t u last H) (I : TI n lots t) (K : HOk n t.ac t.hp t.pl) (hh : ∀ w : Nat, 1 ≤ w → w ≤ n → t.as.getD w 0 = 0 → (w : Int) ∈ t.hp) (he : t.he = t.tr.length) (hp : t.ph = last) {g : Nat} (hg : g < t.st.length) :
  ∃ (s : Nat) (t' : T) (H1 H' : St), t.st[g]? = some (s : Int) ∧ kj [.ref t.r, .int s, .ref la] H = some (.none, H1) ∧ LW h c la cells fz p t u (nts last (t.tr.drop s)) H1 ∧ z7 [.ref t.r, .int g] H1 = some (.none, H') ∧
   LW h c la cells fz p t' u (nts last (t.tr.drop s)) H' ∧ t'.r = t.r ∧ Stl n lots t' ∧ Cut t g s t' ∧ t'.ph = nts last (t.tr.drop s) := by
 have hs := I.stl _ (zsm (zsv hg))
 have gs : t.st[g]? = some ((t.st[g].toNat : Nat) : Int) := by rw [zsv hg, zv8 hs.1]
 generalize t.st[g].toNat = s at gs
 have hs' := I.stl _ (zsm gs)
 refine zvt fun hq0 => ?_
 obtain ⟨H1, e1, L1⟩ := zko L I (by rw [← hp]; exact I.ph) (s := s) (by lia)
 obtain ⟨t', H2, e2, O, S', C⟩ := zk2 (lots := lots) L1.r1 I K hh he gs
 refine hq0 ?_
 exact ⟨s, t', H1, H2, gs, e1, L1, e2, L1.op O, O.r, S', C, C.phs I hp⟩
noncomputable abbrev glo (h la : Nat) (t : T) (d : Int) (se : Nat) (v5 v6 v7 v8 : Option MV) : Lo := [some (.ref h), some (.ref t.r), some (.ref la), some (.int d), some (.ref se), v5, v6, v7, v8]
theorem zj7 (L : LW h c la cells fz p t u last H) (G : LG n lots) (S : Stl n lots t) (hp : t.ph = last) (F : zcx t0 t) {se : Nat} {v5 v6 v7 v8 : Option MV} {P Q : Lo → St → Prop}
  (hP : ∀ p' t' last' H' w6 w7 w8, LW h c la cells fz p' t' u last' H' → Stl n lots t' → t'.ph = last' → zcx t0 t' → t'.r = t.r → P (glo h la t t0.st.length se v5 w6 w7 w8) H')
  (hQ : ∀ H' w6 w7 w8, LW h c la cells fz p t u last H' → Q (glo h la t t0.st.length se v5 w6 w7 w8) H') :
  zeh (ke (glo h la t t0.st.length se v5 v6 v7 v8) H) P Q (fun _ _ _ => False) := by
 have I := S.ti
 have n6 := I.n6
 have s1 : zq (gr 9 1 (z4 b.range [(zh (.int 1)), (wo o.add (z5 1 yq (zd 1) []) (zh (.int 1)))]) (zy 9) (z9 .Eq (z5 1 wf (zd 1) [(zd 9)]) (zh (.int 0))) (zd 9)) (zy 6) (glo h la t t0.st.length se v5 v6 v7 v8) H = some (.next, glo h la t t0.st.length se v5 (some (.ref H.length)) v7 v8, H ++ [il (frees n t)]) :=
  wc (zp5 L.r1 I rfl rfl) (by simp)
 have L1 := L.more (il (frees n t))
 generalize H.length = fa at s1 L1
 generalize H ++ [il (frees n t)] = H1 at s1 L1
 have hf1 := (L1.stay _ (.head _)).1
 have e2 : wv [] (glo h la t t0.st.length se v5 (some (.ref fa)) v7 v8) H1 = some (.ref H1.length, H1 ++ [.list []]) := rfl
 have L2 := L1.app [.list []]
 have c2 := wi (op := .Eq) (f := zd 6) (g := wv []) (lo := glo h la t t0.st.length se v5 (some (.ref fa)) v7 v8) (H := H1) (x := .ref fa) rfl e2 (b := decide (frees n t = [])) (by
  show zv2 none (eqD _ _ _) = _
  rw [zoi (L2.stay _ (.head _)).1 (by simp)]; rfl)
 generalize H1 ++ [.list []] = H2 at c2 L2
 unfold ke
 rw [zj s1]
 by_cases hne : frees n t = []
 ·rw [decide_eq_true hne] at c2
  rw [zcl ((kr c2).trans (zcl rfl))]
  exact hQ _ _ _ _ L2.less
 ·rw [decide_eq_false hne] at c2
  rw [zj ((yw c2).trans rfl)]
  obtain ⟨v, hp3, pl3, p3, H3, e3, L3, M3⟩ := zoq L2 S (.head _) hne (lo := glo h la t t0.st.length se v5 (some (.ref fa)) v7 v8) rfl rfl rfl
  have L3 := L3.less
  rw [zj (wc e3 (by simp))]
  show zeh (zw _ _ (glo h la t t0.st.length se v5 (some (.ref fa)) (some (.int v)) v8) H3) _ _ _
  have F3 : zcx t0 { t with hp := hp3, pl := pl3 } := F.heap hp3 pl3
  have hp3' : ({ t with hp := hp3, pl := pl3 } : T).ph = last := hp
  have hr3 : ({ t with hp := hp3, pl := pl3 } : T).r = t.r := rfl
  generalize ({ t with hp := hp3, pl := pl3 } : T) = t3 at L3 M3 F3 hp3' hr3
  obtain ⟨x, H4, e4, hx, L4⟩ := L3.sign
  obtain ⟨b, t5, H5, e5, L5, hr5, I5, K5, hh5, he5, W5, -, hb⟩ := zqv L4 G M3 hx
  have F5 : zcx t0 t5 := F3.grow I5 W5
  have hp5 : t5.ph = last := W5.ph.trans hp3'
  have hr5' : t5.r = t.r := hr5.trans hr3
  have e6 : we yr [(zd 1), (wo o.mul (zd 7) (we kd [(zd 0)]))] (glo h la t t0.st.length se v5 (some (.ref fa)) (some (.int v)) v8) H3 = some (.bool b, H5) := by
   refine (qw (F := yr) (g := zd 1) (v := .ref t.r) rfl (zdy (x := (v : Int)) (y := x) rfl ((j3 (F := kd) (g := zd 0) rfl).trans e4) (zdk (by lia) (by have := M3.v2; lia)))).trans ?_
   rw [← hr3]; exact e5
  have c6 := zet e6
  rcases hb with ⟨rfl, S5⟩ | ⟨rfl, -⟩
  ·rw [zj ((yw c6).trans rfl)]
   exact hP _ _ _ _ _ _ _ L5 S5 hp5 F5 hr5'
  ·have st5 : t5.st.length = t3.st.length + 1 := by rw [W5.st]; simp
   have le3 : t0.st.length ≤ t3.st.length := F3.st.length_le
   have sl5 := I5.stlen
   have tl5 := I5.trlen
   have e7 : wo o.sub (z5 1 wg (zd 1) []) (zd 3) (glo h la t t0.st.length se v5 (some (.ref fa)) (some (.int v)) v8) H5 = some (.int ((t5.st.length : Int) - t0.st.length), H5) :=
    vy ((qf (F := wg) (f := zd 1) (a := t5.r) (by rw [hr5']; rfl) (L5.r1.at' .obj _ rfl)).trans (vc L5.r1 (by lia))) rfl
   obtain ⟨y, H6, e8, y1, y2, L6⟩ := L5.pull (m := (t5.st.length : Int) - t0.st.length) (by lia)
   have e9 : wo o.add (zd 3) (we wj [(zd 0), (wo o.sub (z5 1 wg (zd 1) []) (zd 3))]) (glo h la t t0.st.length se v5 (some (.ref fa)) (some (.int v)) v8) H5 = some (.int ((t0.st.length + y.toNat : Nat) : Int), H6) :=
    (jt (x := (t0.st.length : Int)) (y := y) rfl ((qw (F := wj) (g := zd 0) rfl e7).trans e8)).trans (congrArg (fun z => some (MV.int z, H6)) (by lia))
   have hgl : t0.st.length + y.toNat < t5.st.length := by lia
   generalize hgg : t0.st.length + y.toNat = g at e9 hgl
   obtain ⟨s, t7, H7, H8, gs, q1, L7, q2, L8, hr8, S8, C8, hp8⟩ := zhk L6 I5 K5 hh5 he5 hp5 hgl
   have r7 : ∀ {H : St}, zd 1 (glo h la t t0.st.length se v5 (some (.ref fa)) (some (.int v)) (some (.int (g : Int)))) H = some (.ref t5.r, H) := by intro H; rw [hr5']; rfl
   have e10 := yo (f := zp 1 9 (zd 1)) (g := zd 8) (lo := glo h la t t0.st.length se v5 (some (.ref fa)) (some (.int v)) (some (.int (g : Int)))) (H := H6) (i := (g : Int)) (L6.r1.attr rfl r7 rfl) rfl (L6.r1.at' .st _ rfl) (by lia) gs (by lia)
   have s9 : wh (we kj [(zd 1), (wd (zp 1 9 (zd 1)) (zd 8)), (zd 2)]) (glo h la t t0.st.length se v5 (some (.ref fa)) (some (.int v)) (some (.int (g : Int)))) H6 = some (.next, glo h la t t0.st.length se v5 (some (.ref fa)) (some (.int v)) (some (.int (g : Int))), H7) := by
    refine qj (v := .none) ?_
    unfold we
    rw [vu (r7 (H := H6)) e10 rfl]
    exact q1
   have s10 : wh (z5 1 z7 (zd 1) [(zd 8)]) (glo h la t t0.st.length se v5 (some (.ref fa)) (some (.int v)) (some (.int (g : Int)))) H7 = some (.next, glo h la t t0.st.length se v5 (some (.ref fa)) (some (.int v)) (some (.int (g : Int))), H8) :=
    qj (v := .none) ((yu (F := z7) (f := zd 1) (g := zd 8) (a := t5.r) r7 (L7.r1.at' .obj _ rfl) rfl).trans q2)
   rw [zj ((kr c6).trans ((zj (wc e9 (by simp))).trans ((zj s9).trans ((zj s10).trans rfl))))]
   exact hP _ _ _ _ _ _ _ L8 S8 hp8 (F5.cut I5 C8 gs (by lia)) (hr8.trans hr5')
end
end Mine
namespace Mine
section
variable {n h c la p : Nat} {cells last : List Int} {lots : List (List Int)} {fz : List (Nat × MO)} {t t' t0 u : T} {H : St} {lit : Int}
theorem znv (I : TI n lots t) (F : zcx t0 t) (htr : t.tr = t0.tr) : t.tr.map (vw t) = t0.tr.map (vw t0) := by
 rw [htr]
 refine zt5 fun l hl => ?_
 obtain ⟨h1, h2, h3⟩ := F.old l hl
 unfold vw
 simp only [zsz, h1, h2, h3]
inductive DI (n h c la se : Nat) (cells : List Int) (lots : List (List Int)) (fz : List (Nat × MO)) (t u : T) (lo : Lo) (H' : St) : Prop
 | mk (p' : Nat) (t' : T) (last' : List Int) (w5 w6 w7 w8 : Option MV) (hlo : lo = glo h la t t.st.length se w5 w6 w7 w8) (L' : LW h c la cells ((se, wu (t.tr.map (vw t))) :: fz) p' t' u last' H') (S' : Stl n lots t') (hp' : t'.ph = last') (F' : zcx t t') (hr' : t'.r = t.r)
theorem zok (L : LW h c la cells fz p t u last H) (G : LG n lots) (S : Stl n lots t) (hp : t.ph = last) :
  ∃ p' t' last' H', gm [.ref h, .ref t.r, .ref la] H = some (.bool true, H') ∧ LW h c la cells fz p' t' u last' H' ∧ Stl n lots t' ∧ t'.ph = last' ∧ zcx t t' ∧ t'.tr = t.tr ∧ t'.st = t.st ∧ t'.r = t.r := by
 have n6 := S.ti.n6
 have tl := S.ti.trlen
 have sl := S.ti.stlen
 have e1 : j0 [(z5 1 wg (zd 1) []), (we gg [(zd 1)])] [some (.ref h), some (.ref t.r), some (.ref la), none, none, none, none, none, none] H = some (.tup [.int t.st.length, .ref H.length], H ++ [wu (t.tr.map (vw t))]) :=
  zjg ((qf (F := wg) (f := zd 1) rfl (L.r1.at' .obj _ rfl)).trans (vc L.r1 (by lia))) ((j3 (F := gg) (g := zd 1) rfl).trans (zms L.r1 S.ti))
 have s1 : zbk (j0 [(z5 1 wg (zd 1) []), (we gg [(zd 1)])]) [3, 4] [some (.ref h), some (.ref t.r), some (.ref la), none, none, none, none, none, none] H = some (.next, glo h la t t.st.length H.length none none none none, H ++ [wu (t.tr.map (vw t))]) := by
  unfold zbk; rw [e1]; rfl
 have L1 := L.more (wu (t.tr.map (vw t)))
 generalize H.length = se at s1 L1
 generalize H ++ [wu (t.tr.map (vw t))] = H1 at s1 L1
 refine zvt fun hq0 => ?_
 obtain ⟨x, H2, e2, x1, x2, L2⟩ := L1.pull (m := 3) (by decide)
 have e3 : wo o.add (zh (.int 1)) (we wj [(zd 0), (zh (.int 3))]) (glo h la t t.st.length se none none none none) H1 = some (.int (1 + x), H2) :=
  jt (x := 1) rfl ((qw (F := wj) (g := zd 0) (h := zh (.int 3)) rfl rfl).trans e2)
 have fr := xa (g := zy 5) (b := ke) (j2 e3) (by decide) (by decide) (by lia) (by lia)
 have rule := jb (g := zy 5) (b := ke) (l := (zsr ((1 + x) - 0).toNat).map fun i : Nat => MV.int (0 + i))
  (fun _ => DI n h c la se cells lots fz t u)
  (Q := DI n h c la se cells lots fz t u) (R := fun _ _ _ => False)
  (fun i v lo H' hv hI => by
   obtain ⟨p', t', last', w5, w6, w7, w8, hlo, L', S', hp', F', hr'⟩ := hI
   subst hlo
   refine ⟨glo h la t t.st.length se (some v) w6 w7 w8, H', rfl, ?_⟩
   have e : ∀ {w5 w6 w7 w8 : Option MV}, glo h la t' t.st.length se w5 w6 w7 w8 = glo h la t t.st.length se w5 w6 w7 w8 := by intro w5 w6 w7 w8; unfold glo; rw [hr']
   rw [← e]
   refine zj7 L' G S' hp' F' (fun p2 t2 last2 H2 u6 u7 u8 L2 S2 hp2 F2 hr2 => ?_) (fun H2 u6 u7 u8 L2 => ?_)
   ·exact ⟨p2, t2, last2, _, _, _, _, e, L2, S2, hp2, F2, hr2.trans hr'⟩
   ·exact ⟨_, t', last', _, _, _, _, e, L2, S', hp', F', hr'⟩)
  (fun lo H' h => h) (lo := glo h la t t.st.length se none none none none) (H := H2) ⟨_, t, last, _, _, _, _, rfl, L2, S, hp, zcx.refl t, rfl⟩
 obtain ⟨lo, H3, e4, hI⟩ := rule.next
 obtain ⟨p3, t3, last3, w5, w6, w7, w8, rfl, L3, S3, hp3, F3, hr3⟩ := hI
 rw [← fr] at e4
 have I3 := S3.ti
 have tl3 := I3.trlen
 have sl3 := I3.stlen
 have r3 : ∀ {H : St}, zd 1 (glo h la t t.st.length se w5 w6 w7 w8) H = some (.ref t3.r, H) := by intro H; rw [hr3]; rfl
 have e5 := jh (f := zd 4) (lo := glo h la t t.st.length se w5 w6 w7 w8) rfl (L3.stay _ (.head _)).1 (by rw [zsk, zsk]; lia)
 rw [zsk, zsk] at e5
 -- back to where it was
 have back : ∃ t5 last5 H4 H5, kj [.ref t3.r, .int t.tr.length, .ref la] H3 = some (.none, H4) ∧ LW h c la cells ((se, wu (t.tr.map (vw t))) :: fz) p3 t3 u last5 H4 ∧ z7 [.ref t3.r, .int t.st.length] H4 = some (.none, H5) ∧
   LW h c la cells ((se, wu (t.tr.map (vw t))) :: fz) p3 t5 u last5 H5 ∧ t5.r = t3.r ∧ Stl n lots t5 ∧ t5.ph = last5 ∧ zcx t t5 ∧ t5.tr = t.tr ∧ t5.st = t.st := by
  by_cases hg : t.st.length < t3.st.length
  ·obtain ⟨s, t5, H4, H5, gs, q1, L4, q2, L5, hr5, S5, C5, hp5⟩ := zhk L3 I3 S3.hk S3.held S3.he hp3 hg
   obtain ⟨k1, k2, k3⟩ := F3.le I3 gs (zwt _)
   have hs := k2 rfl
   subst hs
   refine ⟨t5, _, H4, H5, q1, L4, q2, L5, hr5, S5, hp5, F3.cut I3 C5 gs (zwt _), ?_, ?_⟩
   ·rw [C5.tr]; exact (zui.mp F3.tr).symm
   ·rw [C5.st]; exact (zui.mp F3.st).symm
  ·have le := F3.st.length_le
   obtain ⟨k1, k2⟩ := F3.top.resolve_right fun q => hg (zsl.mp q).1
   obtain ⟨H4, q1, L4⟩ := zko L3 I3 (by rw [← hp3]; exact I3.ph) (s := t.tr.length) (by rw [k2]; exact zwt _)
   have hd : t3.tr.drop t.tr.length = [] := by rw [k2, zuf]
   rw [hd] at L4
   exact ⟨t3, last3, H4, H4, q1, L4, zf2 L4.r1 (by lia) (by rw [k1]; exact zv7 _), L4, rfl, S3, hp3, F3, k2, k1⟩
 obtain ⟨t5, last5, H4, H5, q1, L4, q2, L5, hr5, S5, hp5, F5, tr5, st5⟩ := back
 have s5 : wh (we kj [(zd 1), (z4 b.len [(zd 4)]), (zd 2)]) (glo h la t t.st.length se w5 w6 w7 w8) H3 = some (.next, glo h la t t.st.length se w5 w6 w7 w8, H4) := by
  refine qj (v := .none) ?_
  unfold we
  rw [vu (r3 (H := H3)) e5 rfl]
  exact q1
 have s6 : wh (z5 1 z7 (zd 1) [(zd 3)]) (glo h la t t.st.length se w5 w6 w7 w8) H4 = some (.next, glo h la t t.st.length se w5 w6 w7 w8, H5) :=
  qj (v := .none) ((yu (F := z7) (f := zd 1) (g := zd 3) (a := t3.r) r3 (L4.r1.at' .obj _ rfl) rfl).trans q2)
 have hrt : t5.r = t.r := hr5.trans hr3
 have bk : ∀ {H : St} {p : Nat}, LW h c la cells ((se, wu (t.tr.map (vw t))) :: fz) p t5 u last5 H → ∃ K, we uu [(zd 1), (zd 3), (zd 4), (zd 2)] (glo h la t t.st.length se w5 w6 w7 w8) H = some (.bool true, H ++ K) := fun {H p} L => by
  obtain ⟨K, e⟩ := zsa S5 G L.r1 (se := se) (la := la) (by rw [znv S5.ti F5 tr5]; exact (L.stay _ (.head _)).1) L.lst hp5
  refine ⟨K, ?_⟩
  rw [hrt, st5] at e
  exact e
 obtain ⟨K1, e7⟩ := bk L5
 have L6 := L5.app K1
 obtain ⟨y, H7, e8, y1, y2, L7⟩ := L6.pull (m := 2) (by decide)
 have e9 : wo o.add (zd 3) (we wj [(zd 0), (zh (.int 2))]) (glo h la t t.st.length se w5 w6 w7 w8) (H5 ++ K1) = some (.int (t.st.length + y), H7) :=
  jt (x := (t.st.length : Int)) rfl ((qw (F := wj) (g := zd 0) (h := zh (.int 2)) rfl rfl).trans e8)
 have s9 : wh (z5 1 z7 (zd 1) [(wo o.add (zd 3) (we wj [(zd 0), (zh (.int 2))]))]) (glo h la t t.st.length se w5 w6 w7 w8) (H5 ++ K1) = some (.next, glo h la t t.st.length se w5 w6 w7 w8, H7) :=
  qj (v := .none) ((yu (F := z7) (f := zd 1) (a := t5.r) (by rw [hrt]; rfl) (L6.r1.at' .obj _ rfl) e9).trans (zf2 L7.r1 (by rw [st5]; lia) (by rw [st5]; lia)))
 obtain ⟨K2, e10⟩ := bk L7
 refine hq0 ?_
 refine ⟨_, t5, last5, H7 ++ K2, y8 rfl (lo' := glo h la t t.st.length se w5 w6 w7 w8) ?_, (L7.app K2).less, S5, hp5, F5, tr5, st5, hrt⟩
 exact (zj s1).trans ((zj e4).trans ((zj s5).trans ((zj s6).trans ((zj ((yw (zet e7)).trans rfl)).trans ((zj s9).trans (wq (qc e10)))))))
end
end Mine
namespace Mine
noncomputable section
noncomputable def lit (x : Nat) (f : Nat → Bool) : Nat → Bool
 | 0 => false
 | k + 1 => match zwz x k with | true => f k | false => lit x f k
noncomputable def zrw (m : Nat) : List Nat → (List Nat → Bool) → Bool
 | [], f => f []
 | x :: r, f => lit x (fun y => zrw m r fun l => f (y :: l)) m
noncomputable abbrev Pth := List (Nat × Nat)
noncomputable def has (a b : Nat) : Pth → Bool
 | [] => false
 | y :: r => match zwz y.1 a with | true => (match zwz y.2 b with | true => true | false => has a b r) | false => has a b r
noncomputable def isin (a : Nat) : List Nat → Bool
 | [] => false
 | y :: r => match zwz y a with | true => true | false => isin a r
noncomputable def zo0 (f : Nat → Bool) : Nat → Bool
 | 0 => false
 | k + 1 => match f k with | true => true | false => zo0 f k
noncomputable def zo1 (m : Nat) (path : Pth) : Nat → Nat → Nat → Bool
 | 0, a, b => has a b path
 | f + 1, a, b => match has a b path with | true => true | false => zo0 (fun c => match has a c path with | true => zo1 m path f c b | false => false) m
noncomputable def zjn (m : Nat) (path : Pth) : List Nat → Bool
 | a :: b :: r => match zo1 m path 4 a b with | true => zjn m path (b :: r) | false => false
 | _ => true
noncomputable def zo5 (p : List Nat) : Nat → Bool
 | 0 => true
 | k + 1 => match isin k p with | true => zo5 p k | false => false
noncomputable def zoy (m : Nat) (p : List Nat) : Bool := match zwz p.length m with | true => zo5 p m | false => false
noncomputable def zis (m : Nat) : Pth → KasT (Array Nat) → Bool
 | path, .ret p => zrw m p.toList fun p => match zoy m p with | true => zjn m path p | false => false
 | path, .ask i j k => lit i (fun i => lit j (fun j => match zwz i j with | true => false | false => (match has i j path with
  | true => zis m path (k true)
  | false => (match has j i path with
   | true => zis m path (k false)
   | false => (match zis m ((i, j) :: path) (k true) with | true => zis m ((j, i) :: path) (k false) | false => false)))) m) m
noncomputable def zqr (m : Nat) : KasT (Array Nat) → Bool
 | .ret p => zrw m p.toList (zoy m)
 | .ask _ _ k => match zqr m (k true) with | true => zqr m (k false) | false => false
end
theorem zow : ∀ m, 2 ≤ m → m ≤ 6 → zis m [] (kas_sort m) = true
 | 2, _, _ => by kernel_rfl
 | 3, _, _ => by kernel_rfl
 | 4, _, _ => by kernel_rfl
 | 5, _, _ => by kernel_rfl
 | 6, _, _ => by kernel_rfl
 | n + 7, _, h => absurd h (by lia)
 | 0, h, _ => absurd h (by decide)
 | 1, h, _ => absurd h (by decide)
theorem zox : ∀ m, 2 ≤ m → m ≤ 3 → zqr m (kas_sort m) = true
 | 2, _, _ => by kernel_rfl
 | 3, _, _ => by kernel_rfl
 | n + 4, _, h => absurd h (by lia)
 | 0, h, _ => absurd h (by decide)
 | 1, h, _ => absurd h (by decide)
theorem zhz {a b : Bool} (h : (match a with | true => b | false => false) = true) : a = true ∧ b = true := by cases a <;> simp_all
theorem bor2 {a b : Bool} (h : (match a with | true => true | false => b) = true) : a = true ∨ b = true := by cases a <;> simp_all
theorem zjp {x : Nat} {f : Nat → Bool} : ∀ {m : Nat}, lit x f m = true → x < m ∧ f x = true
 | 0, h => nomatch h
 | k + 1, h => by
  unfold lit at h
  cases e : zwz x k with
  | true =>
   rw [e] at h
   have := zw6 e
   subst this
   exact ⟨zw0 _, h⟩
  | false =>
   rw [e] at h
   obtain ⟨h1, h2⟩ := zjp h
   exact ⟨by lia, h2⟩
theorem zjc {m : Nat} : ∀ {p : List Nat} {f : List Nat → Bool}, zrw m p f = true → f p = true
 | [], f, h => h
 | x :: r, f, h => by
  unfold zrw at h
  exact zjc (f := fun l => f (x :: l)) (zjp h).2
theorem zev {a b : Nat} : ∀ {path : Pth}, has a b path = true → (a, b) ∈ path
 | [], h => nomatch h
 | (y1, y2) :: r, h => by
  unfold has at h
  dsimp only at h
  cases e1 : zwz y1 a with
  | false => rw [e1] at h; exact .tail _ (zev h)
  | true =>
   rw [e1] at h
   cases e2 : zwz y2 b with
   | false => rw [e2] at h; exact .tail _ (zev h)
   | true => rw [zw6 e1, zw6 e2]; exact .head _
theorem zm7 {a : Nat} : ∀ {l : List Nat}, isin a l = true → a ∈ l
 | [], h => nomatch h
 | y :: r, h => by
  unfold isin at h
  rcases bor2 h with e | e
  ·rw [zw6 e]; exact .head _
  ·exact .tail _ (zm7 e)
theorem zkh {f : Nat → Bool} : ∀ {m : Nat}, zo0 f m = true → ∃ c, f c = true
 | 0, h => nomatch h
 | k + 1, h => by
  unfold zo0 at h
  rcases bor2 h with e | e
  ·exact ⟨_, e⟩
  ·exact zkh e
theorem zkx {p : List Nat} : ∀ {m : Nat}, zo5 p m = true → ∀ i, i < m → i ∈ p
 | 0, _, i, hi => absurd hi (zxd i)
 | k + 1, h, i, hi => by
  unfold zo5 at h
  obtain ⟨h1, h2⟩ := zhz h
  by_cases e : i = k
  ·rw [e]; exact zm7 h1
  ·exact zkx h2 i (by lia)
theorem zfs : ∀ {l k : List Nat}, l.Nodup → (∀ x ∈ l, x ∈ k) → k.length ≤ l.length → k.Perm l
 | [], k, _, _, h => by
  have : k = [] := List.eq_nil_of_length_eq_zero (Nat.le_zero.mp h)
  rw [this]
 | x :: l, k, nd, hs, h => by
  obtain ⟨n1, n2⟩ := zs4.mp nd
  have hx := hs x (.head _)
  refine (List.perm_cons_erase hx).trans (.cons x ?_)
  refine zfs n2 (fun y hy => ?_) ?_
  ·exact (List.mem_erase_of_ne fun e => n1 (by rw [← e]; exact hy)).mpr (hs y (.tail _ hy))
  ·rw [zva hx]
   rw [ztd] at h
   omega
theorem zkc {m : Nat} {p : List Nat} (h : zoy m p = true) : p.Perm (zsr m) := by
 unfold zoy at h
 obtain ⟨h1, h2⟩ := zhz h
 exact zfs zvq (fun x hx => zkx h2 x (ztn.mp hx)) (by rw [zts, zw6 h1]; exact zwt _)
inductive Chn (R : Nat → Nat → Prop) : List Nat → Prop
 | nil : Chn R []
 | one (a : Nat) : Chn R [a]
 | cons {a b : Nat} {r : List Nat} : R a b → Chn R (b :: r) → Chn R (a :: b :: r)
noncomputable def zmc (ρ : Nat → Int) (path : Pth) : Prop := ∀ q ∈ path, ρ q.1 < ρ q.2
section
variable {m : Nat} {ρ : Nat → Int} {path : Pth}
theorem zkk (h : zmc ρ path) : ∀ {f a b : Nat}, zo1 m path f a b = true → ρ a ≤ ρ b
 | 0, a, b, e => zwb (h _ (zev e))
 | f + 1, a, b, e => by
  unfold zo1 at e
  rcases bor2 e with q | q
  ·exact zwb (h _ (zev q))
  ·obtain ⟨c, q⟩ := zkh q
   obtain ⟨q1, q2⟩ := zhz q
   exact zwd (zwb (h _ (zev q1))) (zkk h q2)
theorem zh8 (h : zmc ρ path) : ∀ {p : List Nat}, zjn m path p = true → Chn (fun a b => ρ a ≤ ρ b) p
 | [], _ => .nil
 | [a], _ => .one a
 | a :: b :: r, q => by
  unfold zjn at q
  obtain ⟨q1, q2⟩ := zhz q
  exact .cons (zkk h q1) (zh8 h q2)
end
theorem zsb {m : Nat} {ρ : Nat → Int} {lt : Nat → Nat → Bool} (hlt : ∀ i j, i < m → j < m → lt i j = decide (ρ i < ρ j)) (inj : ∀ i j, i < m → j < m → i ≠ j → ρ i ≠ ρ j) : ∀ (t : KasT (Array Nat)) (path : Pth), zis m path t = true → zmc ρ path →
  (ev lt t).toList.Perm (zsr m) ∧ Chn (fun a b => ρ a ≤ ρ b) (ev lt t).toList := by
 intro t
 induction t with
 | ret p =>
  intro path h hp
  unfold zis at h
  obtain ⟨h1, h2⟩ := zhz (zjc h)
  exact ⟨zkc h1, zh8 hp h2⟩
 | ask i j k ih =>
  intro path h hp
  unfold zis at h
  obtain ⟨hi, h⟩ := zjp h
  obtain ⟨hj, h⟩ := zjp h
  have e := hlt i j hi hj
  have go : (ρ i < ρ j → zis m path (k true) = true ∨ zis m ((i, j) :: path) (k true) = true) ∧ (¬ ρ i < ρ j → zis m path (k false) = true ∨ zis m ((j, i) :: path) (k false) = true) ∧ i ≠ j := by
   cases eb : zwz i j with
   | true => rw [eb] at h; cases h
   | false =>
    rw [eb] at h
    have ne : i ≠ j := fun q => by rw [q, Nat.beq_refl] at eb; cases eb
    cases e1 : has i j path with
    | true =>
     rw [e1] at h
     have := hp _ (zev e1)
     exact ⟨fun _ => .inl h, fun q => absurd this q, ne⟩
    | false =>
     rw [e1] at h
     cases e2 : has j i path with
     | true =>
      rw [e2] at h
      have := hp _ (zev e2)
      exact ⟨fun q => absurd q (Int.lt_asymm this), fun _ => .inl h, ne⟩
     | false =>
      rw [e2] at h
      obtain ⟨h1, h2⟩ := zhz h
      exact ⟨fun _ => .inr h1, fun _ => .inr h2, ne⟩
  show (ev lt (k (lt i j))).toList.Perm _ ∧ Chn _ (ev lt (k (lt i j))).toList
  rw [e]
  by_cases q : ρ i < ρ j
  ·rw [decide_eq_true q]
   rcases go.1 q with g | g
   ·exact ih true path g hp
   ·exact ih true _ g fun x hx => by
     rcases zss.mp hx with rfl | hx
     ·exact q
     ·exact hp x hx
  ·rw [decide_eq_false q]
   rcases go.2.1 q with g | g
   ·exact ih false path g hp
   ·exact ih false _ g fun x hx => by
     rcases zss.mp hx with rfl | hx
     ·have := inj i j hi hj go.2.2
      show ρ j < ρ i
      lia
     ·exact hp x hx
theorem znj {m : Nat} {lt : Nat → Nat → Bool} : ∀ (t : KasT (Array Nat)), zqr m t = true → (ev lt t).toList.Perm (zsr m)
 | .ret p, h => by
  unfold zqr at h
  exact zkc (zjc h)
 | .ask i j k, h => by
  unfold zqr at h
  obtain ⟨h1, h2⟩ := zhz h
  show (ev lt (k (lt i j))).toList.Perm _
  refine znj (k (lt i j)) ?_
  cases lt i j
  ·exact h2
  ·exact h1
theorem zgi {α : Type} {d : α} {l : List α} {p : List Nat} (h : p.Perm (zsr l.length)) : (p.map fun i => l.getD i d).Perm l := by
 refine (h.map _).trans ?_
 have : ((zsr l.length).map fun i => l.getD i d) = l := ztl fun i => by
  rw [zsu]
  by_cases q : i < l.length
  ·rw [zvo q, zsv q]
   simp [q]
  ·rw [ztf (zw5 q), ztf (by simpa using q)]; rfl
 rw [this]
theorem zkg {zs : List (List Int)} (h2 : 2 ≤ zs.length) (h3 : zs.length ≤ 3) : (srt zs).Perm (zsr zs.length) := znj _ (zox zs.length h2 h3)
theorem zlg {α : Type} {d : α} {b : Bool} {zs : List (List Int)} {l : List α} (hz : zs.length = l.length) (h6 : l.length ≤ 3) : (sortA d b zs l).Perm l := by
 unfold sortA
 by_cases h2 : l.length < 2
 ·rw [if_pos h2]
 ·rw [if_neg h2]
  cases b with
  | true =>
   rw [if_pos rfl]
   refine (zvr _).trans ((zgi ?_).trans (zvr l))
   have := zkg (zs := zs.reverse) (by rw [zub]; lia) (by rw [zub]; lia)
   rw [zub] at this ⊢
   rw [← hz]; exact this
  | false =>
   rw [if_neg (by decide)]
   refine zgi ?_
   have := zkg (zs := zs) (by lia) (by lia)
   rw [← hz]; exact this
theorem Chn.pair {ρ : Nat → Int} : ∀ {p : List Nat}, Chn (fun a b => ρ a ≤ ρ b) p → p.Pairwise fun a b => ρ a ≤ ρ b := by
 intro p
 induction p with
 | nil => exact fun _ => .nil
 | cons a r ih =>
  intro h
  cases r with
  | nil => exact zvl ..
  | cons b r =>
  cases h with | cons h c =>
  have ih := ih c
  refine .cons (fun x hx => ?_) ih
  rcases zss.mp hx with rfl | hx
  ·exact h
  ·exact zwd h ((List.pairwise_cons.mp ih).1 x hx)
theorem zfi {zs : List (List Int)} (h2 : 2 ≤ zs.length) (h6 : zs.length ≤ 6) (hne : ∀ z ∈ zs, z ≠ []) (nd : (zs.map fun z => z.getD 0 0).Nodup) :
  (srt zs).Perm (zsr zs.length) ∧ ((srt zs).map fun i => zs.getD i []).Pairwise fun a b => a.getD 0 0 ≤ b.getD 0 0 := by
 have hd : ∀ i, i < zs.length → ∃ x r, zs.getD i [] = x :: r ∧ zs[i]? = some (x :: r) := fun i hi => by
  have e : zs[i]? = some (zs.getD i []) := by rw [zsz, zsv hi]; rfl
  have := hne _ (zsm e)
  cases q : zs.getD i [] with
  | nil => exact absurd q this
  | cons x r => exact ⟨x, r, rfl, by rw [e, q]⟩
 have inj : ∀ i j, i < zs.length → j < zs.length → i ≠ j → (zs.getD i []).getD 0 0 ≠ (zs.getD j []).getD 0 0 := fun i j hi hj ne e => by
  obtain ⟨x, r, e1, g1⟩ := hd i hi
  obtain ⟨y, s, e2, g2⟩ := hd j hj
  rw [e1, e2] at e
  have e' : x = y := e
  exact ne (qm nd (i := i) (j := j) (a := x) (by rw [zsu, g1]; rfl) (by rw [zsu, g2, e']; rfl))
 have lx : ∀ i j, i < zs.length → j < zs.length → zgp (zs.getD i []) (zs.getD j []) = decide ((zs.getD i []).getD 0 0 < (zs.getD j []).getD 0 0) := fun i j hi hj => by
  by_cases ne : i = j
  ·subst ne
   have self : ∀ z : List Int, zkr false z z = false := fun z => by
    induction z with
    | nil => rfl
    | cons a z ih => unfold zkr; rw [if_pos rfl]; exact ih
   unfold zgp
   rw [decide_eq_false (zwx _), self, decide_eq_false (Int.lt_irrefl _)]
  ·have := inj i j hi hj ne
   obtain ⟨x, r, e1, g1⟩ := hd i hi
   obtain ⟨y, s, e2, g2⟩ := hd j hj
   rw [e1, e2] at this ⊢
   have this' : x ≠ y := this
   unfold zgp zkr
   rw [if_neg this']
   rfl
 obtain ⟨p, q⟩ := zsb (ρ := fun i => (zs.getD i []).getD 0 0) lx inj _ [] (zow zs.length h2 h6) (fun _ h => (nomatch h))
 refine ⟨p, ?_⟩
 rw [ztr]
 exact q.pair
theorem zph {zs ys : List (List Int)} (hp : zs.Perm ys) (h2 : 2 ≤ zs.length) (h6 : zs.length ≤ 6) (hne : ∀ z ∈ zs, z ≠ []) (nd : (zs.map fun z => z.getD 0 0).Nodup) :
  ((srt zs).map fun i => zs.getD i []) = (srt ys).map fun i => ys.getD i [] := by
 have hl := hp.length_eq
 obtain ⟨q1, s1⟩ := zfi h2 h6 hne nd
 obtain ⟨q2, s2⟩ := zfi (zs := ys) (by lia) (by lia) (fun z hz => hne z (hp.mem_iff.mpr hz)) ((hp.map _).nodup_iff.mp nd)
 have p1 : ((srt zs).map fun i => zs.getD i []).Perm zs := zgi q1
 have p2 : ((srt ys).map fun i => ys.getD i []).Perm ys := zgi q2
 refine ztm.eq_of_pairwise (le := fun a b => a.getD 0 0 ≤ b.getD 0 0) (fun a b ha hb h1 h2 => ?_) s1 s2 (p1.trans (hp.trans p2.symm))
 have ma := p1.mem_iff.mp ha
 have mb := hp.mem_iff.mpr (p2.mem_iff.mp hb)
 obtain ⟨i, hi, ei⟩ := zs6.mp ma
 obtain ⟨j, hj, ej⟩ := zs6.mp mb
 have := qm nd (i := i) (j := j) (a := a.getD 0 0) (by rw [zsu, zsv hi, ei]; rfl) (by rw [zsu, zsv hj, ej]; show some (b.getD 0 0) = _; congr 1; lia)
 subst this
 rw [← ei, ← ej]
end Mine
namespace Mine
noncomputable def gc (t : T) (l : Int) : List Int := [(l.natAbs : Int), l, t.lv.getD l.natAbs 0]
noncomputable def uq (r : List (List Int)) : List (List Int) := if r.length < 2 then r else (srt r).map fun i => r.getD i []
theorem zgq : ∀ {r : List (List Int)}, (∀ z ∈ r, z ≠ []) → zdo true (r.map fun z => .tup (z.map .int)) = some r
 | [], _ => rfl
 | z :: r, h => by
  rw [zs9]
  have e : zo9 true (.tup (z.map .int)) = some z := by
   cases z with
   | nil => exact absurd rfl (h [] (.head _))
   | cons x z =>
    show (if true = true then x7 ((x :: z).map .int) else none) = _
    rw [if_pos rfl, zc2]
  show (zo9 true (.tup (z.map .int))).bind (fun z => (zdo true (r.map fun z => .tup (z.map .int))).map (z :: ·)) = _
  rw [e, zgq fun y hy => h y (.tail _ hy)]; rfl
section
variable {n : Nat} {lots : List (List Int)} {t u : T} {H : St}
theorem zfu (I : TI n lots t) : ((t.tr.map (gc t)).map fun z => z.getD 0 0).Nodup := by
 rw [ztc, show ((fun z : List Int => z.getD 0 0) ∘ gc t) = (fun k : Nat => (k : Int)) ∘ zv6 from rfl, ← ztc]
 have := I.ndo
 rw [ztq, ztr]
 exact this.imp fun h e => h (by lia)
theorem zhh {t : T} : ∀ z ∈ t.tr.map (gc t), z ≠ [] := fun z hz => by
 obtain ⟨l, _, rfl⟩ := zso.mp hz
 exact List.cons_ne_nil _ _
theorem zkt (R : Rep t H) (I : TI n lots t) : jm [.ref t.r] H = some (.ref (H.length + 1), H ++ [wu (t.tr.map (gc t)), wu (uq (t.tr.map (gc t)))]) := by
 have n6 := I.n6
 have tl := I.trlen
 have e1 := zdz (q := 1) (f := zp 1 8 (zd 0)) (t := zah) (e := j0 [(z4 b.abs [(zd 1)]), (zd 1), (wd (zp 1 2 (zd 0)) (z4 b.abs [(zd 1)]))]) (lo := [some (.ref t.r)]) (H := H)
  (fun _ => true) (fun v => match v with | .int l => .tup ((gc t l).map .int) | _ => .none) (R.attr rfl rfl rfl) (R.at' .tr _ rfl) rfl (by rw [zsk]; lia) (fun v _ => rfl) (fun v hv _ => by
   obtain ⟨l, hl, rfl⟩ := zso.mp hv
   obtain ⟨h1, h2⟩ := I.one l hl
   have q2 := yo (f := zp 1 2 (zd 0)) (g := z4 b.abs [zd 1]) (lo := [some (.ref t.r), some (.int l)]) (H := H) (i := (l.natAbs : Int)) (R.attr rfl rfl rfl) (xk rfl) (R.at' .lv _ rfl) (by lia) (qi (l := t.lv) (i := l.natAbs) (by rw [I.len.lv, I.as]; lia)) (by rw [I.len.lv, I.as]; lia)
   show j0 _ [some (.ref t.r), some (.int l)] H = _
   unfold j0
   rw [vu (xk (f := zd 1) (i := l) rfl) (show zd 1 [some (.ref t.r), some (.int l)] H = some (.int l, H) from rfl) q2]
   rfl)
 have e2 : ((t.tr.map MV.int).filter fun _ => true).map (fun v => match v with | .int l => MV.tup ((gc t l).map .int) | _ => .none) = (t.tr.map (gc t)).map fun r => .tup (r.map .int) := by
  rw [zuj.mpr (by simp), ztc, ztc]; rfl
 rw [e2] at e1
 have hl : ((t.tr.map (gc t)).map fun r => MV.tup (r.map .int)).length = t.tr.length := by rw [zsk, zsk]
 have e3 : b.sorted [.ref H.length] (H ++ [wu (t.tr.map (gc t))]) = some (.ref (H.length + 1), H ++ [wu (t.tr.map (gc t)), wu (uq (t.tr.map (gc t)))]) := by
  show y4 ((H ++ [wu (t.tr.map (gc t))])[H.length]?) _ = _
  rw [zs2 (zwt _), zww]
  show (if ((t.tr.map (gc t)).map fun r => MV.tup (r.map .int)).length < 2 then some (MV.ref (H ++ [wu (t.tr.map (gc t))]).length, (H ++ [wu (t.tr.map (gc t))]) ++ [MO.list ((t.tr.map (gc t)).map fun r => MV.tup (r.map .int))]) else if ((t.tr.map (gc t)).map fun r => MV.tup (r.map .int)).length ≤ 6 then (zdo true ((t.tr.map (gc t)).map fun r => MV.tup (r.map .int))).map fun zs => (MV.ref (H ++ [wu (t.tr.map (gc t))]).length, (H ++ [wu (t.tr.map (gc t))]) ++ [.list (zoz zs ((t.tr.map (gc t)).map fun r => MV.tup (r.map .int)))]) else none) = _
  have asc : ∀ x : MO, (H ++ [wu (t.tr.map (gc t))]) ++ [x] = H ++ [wu (t.tr.map (gc t)), x] := fun x => by rw [zs7]; rfl
  unfold uq
  rw [hl, zsk]
  by_cases h2 : t.tr.length < 2
  ·rw [if_pos h2, if_pos h2, asc, zs1]; rfl
  ·rw [if_neg h2, if_neg h2, if_pos (show t.tr.length ≤ 6 by lia), zgq zhh]
   have hp := (zfi (zs := t.tr.map (gc t)) (by rw [zsk]; lia) (by rw [zsk]; lia) zhh (zfu I)).1
   have e4 : zoz (t.tr.map (gc t)) ((t.tr.map (gc t)).map fun r => .tup (r.map .int)) = ((srt (t.tr.map (gc t))).map fun i => (t.tr.map (gc t)).getD i []).map fun r => .tup (r.map .int) := by
    unfold zoz
    generalize hq : (srt (t.tr.map (gc t))) = q at hp
    generalize hz : t.tr.map (gc t) = zs at hp
    rw [ztc]
    refine zt5 fun i hi => ?_
    have hi' := ztn.mp (hp.mem_iff.mp hi)
    show (zs.map fun r => MV.tup (r.map .int)).getD i .none = .tup ((zs.getD i []).map .int)
    rw [zsz, zsu, zsz, zsv hi']; rfl
   rw [zv0, e4, asc, zs1]; rfl
 refine y8 rfl (lo' := [some (.ref t.r)]) (wq (qc ?_))
 have bc : ∀ {f : DE} {lo : Lo} {H1 : St} {v : MV}, f lo H = some (v, H1) → z4 b.sorted [f] lo H = b.sorted [v] H1 := fun {f lo H1 v} e => by
  unfold z4; rw [um e]; rfl
 exact (bc e1).trans e3
structure zcf (t u : T) : Prop where
 tr : ∀ l, l ∈ t.tr ↔ l ∈ u.tr
 st : t.st.length = u.st.length
 cut : ∀ (g s1 s2 : Nat), t.st[g]? = some (s1 : Int) → u.st[g]? = some (s2 : Int) → ∀ l, l ∈ t.tr.take s1 ↔ l ∈ u.tr.take s2
 lv : ∀ l ∈ t.tr, t.lv[l.natAbs]? = u.lv[l.natAbs]?
 ac : t.ac = u.ac
structure Weak (t u : T) : Prop where
 st : t.st.length = u.st.length
 cut : ∀ (g s1 s2 : Nat), t.st[g]? = some (s1 : Int) → u.st[g]? = some (s2 : Int) → (∀ l, l ∈ t.tr.take s1 ↔ l ∈ u.tr.take s2) ∧ ∀ l ∈ t.tr.take s1, t.lv[l.natAbs]? = u.lv[l.natAbs]?
 ac : t.ac = u.ac
variable {t' u' : T} {lit : Int} {g : Nat}
theorem nd_tr (I : TI n lots t) : t.tr.Nodup := by
 have := I.ndo
 rw [ztq, ztr] at this
 exact this.imp fun h e => h (by rw [e])
theorem zcf.known (P : zcf t u) (I : TI n lots t) (J : TI n lots u) : uq (t.tr.map (gc t)) = uq (u.tr.map (gc u)) := by
 have p1 : t.tr.Perm u.tr := (zvp (nd_tr I) (nd_tr J)).mpr P.tr
 have e : t.tr.map (gc t) = t.tr.map (gc u) := zt5 fun l hl => by
  unfold gc
  rw [zsz, P.lv l hl, ← zsz]
 have p2 : (t.tr.map (gc t)).Perm (u.tr.map (gc u)) := by rw [e]; exact p1.map _
 have hl := p2.length_eq
 have n6 := I.n6
 have tl := I.trlen
 unfold uq
 rw [← hl]
 by_cases h2 : (t.tr.map (gc t)).length < 2
 ·rw [if_pos h2, if_pos h2]
  generalize t.tr.map (gc t) = a at p2 h2 hl
  generalize u.tr.map (gc u) = b at p2 hl
  match a, h2 with
  | [], _ => exact (List.nil_perm.mp p2).symm
  | [x], _ => exact List.singleton_perm.mp p2
 ·rw [if_neg h2, if_neg h2]
  exact zph p2 (by lia) (by rw [zsk]; lia) zhh (zfu I)
theorem zcf.grow (P : zcf t u) (I : TI n lots t) (J : TI n lots u) (I' : TI n lots t') (J' : TI n lots u') (W : znm t lit t') (V : znm u lit u') : Weak t' u' ∧ ((∀ l, l ∈ t'.tr ↔ l ∈ u'.tr) → zcf t' u') := by
 have pt : t.tr <+: t'.tr := (ztj ..).trans W.tr
 have pu : u.tr <+: u'.tr := (ztj ..).trans V.tr
 have tk : ∀ {s : Nat}, s ≤ t.tr.length → t'.tr.take s = t.tr.take s := fun {s} hs => by
  obtain ⟨r, e⟩ := pt; rw [← e, zt0 hs]
 have uk : ∀ {s : Nat}, s ≤ u.tr.length → u'.tr.take s = u.tr.take s := fun {s} hs => by
  obtain ⟨r, e⟩ := pu; rw [← e, zt0 hs]
 have lvs : ∀ l ∈ t.tr, t'.lv[l.natAbs]? = u'.lv[l.natAbs]? := fun l hl => by
  have hl2 := (P.tr l).mp hl
  rw [(W.old l.natAbs fun l' h1 h2 e => h2 (zff I'.ndo h1 (pt.subset hl) e ▸ hl)).1, (V.old l.natAbs fun l' h1 h2 e => h2 (zff J'.ndo h1 (pu.subset hl2) e ▸ hl2)).1]
  exact P.lv l hl
 have st : t'.st.length = u'.st.length := by rw [W.st, V.st, zs1, zs1, P.st]; rfl
 have ac : t'.ac = u'.ac := W.hp.2.2.trans (P.ac.trans V.hp.2.2.symm)
 have cut : ∀ (g s1 s2 : Nat), t'.st[g]? = some (s1 : Int) → u'.st[g]? = some (s2 : Int) → (∀ l, l ∈ t'.tr.take s1 ↔ l ∈ u'.tr.take s2) ∧ ∀ l ∈ t'.tr.take s1, l ∈ t.tr := fun g s1 s2 h1 h2 => by
  rw [W.st] at h1
  rw [V.st] at h2
  by_cases hg : g < t.st.length
  ·rw [zst hg] at h1
   rw [zst (by rw [← P.st]; exact hg)] at h2
   have q1 := I.stl _ (zsm h1)
   have q2 := J.stl _ (zsm h2)
   rw [tk (by lia), uk (by lia)]
   exact ⟨P.cut g s1 s2 h1 h2, fun l hl => zt1 hl⟩
  ·have hg' : g = t.st.length := by
    have := (zsl.mp h1).1
    rw [zs1, ztt] at this; lia
   subst hg'
   rw [zs2 (zwt _), zww] at h1
   rw [P.st, zs2 (zwt _), zww] at h2
   have e1 : s1 = t.tr.length := by have h1' : some (t.tr.length : Int) = some (s1 : Int) := h1; have := zvu.inj h1'; lia
   have e2 : s2 = u.tr.length := by have h2' : some (u.tr.length : Int) = some (s2 : Int) := h2; have := zvu.inj h2'; lia
   rw [tk (by lia), uk (by lia), e1, e2, zto, zto]
   exact ⟨P.tr, fun l hl => hl⟩
 refine ⟨⟨st, fun g s1 s2 h1 h2 => ⟨(cut g s1 s2 h1 h2).1, fun l hl => lvs l ((cut g s1 s2 h1 h2).2 l hl)⟩, ac⟩, fun ht => ⟨ht, st, fun g s1 s2 h1 h2 => (cut g s1 s2 h1 h2).1, fun l hl => ?_, ac⟩⟩
 by_cases hm : l ∈ t.tr
 ·exact lvs l hm
 ·rw [W.new l hl hm, V.new l ((ht l).mp hl) fun q => hm ((P.tr l).mpr q), P.st]
theorem Weak.cutP (P : Weak t u) (I : TI n lots t) (J : TI n lots u) {s1 s2 : Nat} (C : Cut t g s1 t') (D : Cut u g s2 u') (h1 : t.st[g]? = some (s1 : Int)) (h2 : u.st[g]? = some (s2 : Int)) : zcf t' u' := by
 obtain ⟨c1, c2⟩ := P.cut g s1 s2 h1 h2
 have g1 := (zsl.mp h1).1
 have g2 := (zsl.mp h2).1
 refine ⟨fun l => by rw [C.tr, D.tr]; exact c1 l, by rw [C.st, D.st, zti, zti, P.st], fun k r1 r2 k1 k2 => ?_, fun l hl => ?_, C.ac.trans (P.ac.trans D.ac.symm)⟩
 ·rw [C.st, ztz] at k1
  rw [D.st, ztz] at k2
  split at k1
  ·rename_i hk
   rw [if_pos hk] at k2
   have lt1 : r1 < s1 := by
    obtain ⟨a1, a2⟩ := zsl.mp k1
    have := zt3.mp I.st k g a1 g1 hk
    rw [a2, (zsl.mp h1).2] at this; lia
   have lt2 : r2 < s2 := by
    obtain ⟨a1, a2⟩ := zsl.mp k2
    have := zt3.mp J.st k g a1 g2 hk
    rw [a2, (zsl.mp h2).2] at this; lia
   rw [C.tr, D.tr, zuh, zuh, zw9 (by lia), zw9 (by lia)]
   exact (P.cut k r1 r2 k1 k2).1
  ·cases k1
 ·rw [C.tr] at hl
  rw [C.lv, D.lv]
  exact c2 l hl
end
end Mine
namespace Mine
structure zd7 (ac U : List Int) (b : Int) : Prop where
 best : (b = 0 ∧ U = []) ∨ (b ∈ U ∧ ∀ w ∈ U, key ac w ≤ key ac b)
inductive zg7 (ac : List Int) (U0 : List Int) : List Int → List Int → Prop
 | nil : zg7 ac U0 [] U0
 | snoc {r U : List Int} {b : Int} : zg7 ac U0 r U → zd7 ac U b → zg7 ac U0 (r ++ [b]) (U.filter fun w => w != b)
theorem zry {ac : List Int} {a b : Int} (ha : 0 ≤ a ∧ a < 1000) (hb : 0 ≤ b ∧ b < 1000) (h : key ac a = key ac b) : a = b := by
 unfold key at h; lia
theorem zd7.same {ac U : List Int} {a b : Int} (hU : ∀ w ∈ U, 0 < w ∧ w < 1000) (A : zd7 ac U a) (B : zd7 ac U b) : a = b := by
 rcases A.best with ⟨e1, e2⟩ | ⟨h1, h2⟩
 ·rcases B.best with ⟨e3, e4⟩ | ⟨h3, h4⟩
  ·rw [e1, e3]
  ·rw [e2] at h3; (nomatch h3)
 ·rcases B.best with ⟨e3, e4⟩ | ⟨h3, h4⟩
  ·rw [e4] at h1; (nomatch h1)
  ·have := hU a h1; have := hU b h3
   exact zry ⟨by lia, by lia⟩ ⟨by lia, by lia⟩ (Int.le_antisymm (h4 a h1) (h2 b h3))
theorem zg7.sub {ac U0 r U : List Int} (R : zg7 ac U0 r U) : ∀ w ∈ U, w ∈ U0 := by
 induction R with
 | nil => exact fun _ h => h
 | snoc _ _ ih => exact fun w hw => ih w (zua.mp hw).1
theorem zg7.inv {ac U0 r U : List Int} (R : zg7 ac U0 r U) : (r = [] ∧ U = U0) ∨ ∃ r' U' b, r = r' ++ [b] ∧ zg7 ac U0 r' U' ∧ zd7 ac U' b ∧ U = U'.filter fun w => w != b := by
 cases R with
 | nil => exact .inl ⟨rfl, rfl⟩
 | snoc R B => exact .inr ⟨_, _, _, rfl, R, B, rfl⟩
theorem zg7.same {ac U0 : List Int} (hU : ∀ w ∈ U0, 0 < w ∧ w < 1000) {r U : List Int} (R : zg7 ac U0 r U) : ∀ {r' U' : List Int}, zg7 ac U0 r' U' → r.length = r'.length → r = r' ∧ U = U' := by
 induction R with
 | nil =>
  intro r' U' S hl
  rcases S.inv with ⟨rfl, rfl⟩ | ⟨r2, U2, b, rfl, -⟩
  ·exact ⟨rfl, rfl⟩
  ·simp at hl
 | @snoc r1 U1 b1 R1 B1 ih =>
  intro r' U' S hl
  rcases S.inv with ⟨rfl, rfl⟩ | ⟨r2, U2, b2, rfl, S2, B2, rfl⟩
  ·simp at hl
  ·obtain ⟨rfl, rfl⟩ := ih S2 (by simpa using hl)
   have := zd7.same (fun w hw => hU w (R1.sub w hw)) B1 B2
   subst this
   exact ⟨rfl, rfl⟩
section
variable {n h c la p : Nat} {cells last : List Int} {lots : List (List Int)} {fz : List (Nat × MO)} {t t' t0 u u' : T} {H : St} {lit : Int}
theorem Stl.clause (S : Stl n lots t) (G : LG n lots) {c0 : List Int} (h0 : c0 ∈ lots) : ∃ x y r, (x :: y :: r).Perm c0 ∧ x ≠ y ∧ 1 ≤ x.natAbs ∧ 1 ≤ y.natAbs ∧ (-x ∈ t.tr → y ∈ t.tr) ∧ (-y ∈ t.tr → x ∈ t.tr) := by
 refine zvt fun hq0 => ?_
 obtain ⟨j, hj, e⟩ := zs6.mp h0
 have gj : lots[j]? = some c0 := by rw [zsv hj, e]
 obtain ⟨a, c, hC, hp⟩ := S.ti.cl j c0 gj
 obtain ⟨g1, g2, g3, g4⟩ := G.perm gj hp
 refine hq0 ?_
 match c, g1 with
 | x :: y :: r, _ =>
  have hls : t.ls[j]? = some (some (x :: y :: r)) := by unfold T.ls; rw [zsu, hC]; rfl
  obtain ⟨w1, w2⟩ := S.wl _ _ _ _ hls
  refine ⟨x, y, r, hp, fun e => ?_, (g4 x (.head _)).1, (g4 y (.tail _ (.head _))).1, w1, w2⟩
  rw [zs9, zs4] at g3
  exact g3.1 (by rw [e]; exact .head _)
theorem Stl.closed (S : Stl n lots t) (G : LG n lots) : zmg lots fun l => l ∈ t.tr := fun c0 h0 l hl hall => by
 obtain ⟨x, y, r, hp, ne, x1, y1, w1, w2⟩ := S.clause G h0
 have mx : x ∈ c0 := hp.mem_iff.mp (.head _)
 have my : y ∈ c0 := hp.mem_iff.mp (.tail _ (.head _))
 by_cases ex : x = l
 ·rw [← ex]; exact w2 (hall y my fun e => ne (ex.trans e.symm))
 ·have fx := hall x mx ex
  by_cases ey : y = l
  ·rw [← ey]; exact w1 fx
  ·exact (zgl S.ti.ndo (by lia) (w1 fx) (hall y my ey)).elim
theorem Stl.noclash (S : Stl n lots t) (G : LG n lots) {c0 : List Int} (h0 : c0 ∈ lots) (h : ∀ l ∈ c0, -l ∈ t.tr) : False := by
 refine zvt fun hq0 => ?_
 obtain ⟨x, y, r, hp, ne, x1, y1, w1, w2⟩ := S.clause G h0
 refine hq0 ?_
 exact zgl S.ti.ndo (by lia) (w1 (h x (hp.mem_iff.mp (.head _)))) (h y (hp.mem_iff.mp (.tail _ (.head _))))
theorem zoc (G : LG n lots) (P : zcf t u) (W : znm t lit t') (V : znm u lit u') (S1 : zg5 lots (t.tr ++ [lit]) t'.tr) (S2 : zg5 lots (u.tr ++ [lit]) u'.tr) {b1 b2 : Bool}
  (h1 : (b1 = true ∧ Stl n lots t') ∨ (b1 = false ∧ ∃ c0 ∈ lots, ∀ l ∈ c0, -l ∈ t'.tr)) (h2 : (b2 = true ∧ Stl n lots u') ∨ (b2 = false ∧ ∃ c0 ∈ lots, ∀ l ∈ c0, -l ∈ u'.tr)) :
  b1 = b2 ∧ (b1 = true → ∀ l, l ∈ t'.tr ↔ l ∈ u'.tr) := by
 have b1' : ∀ l ∈ u.tr ++ [lit], l ∈ t'.tr := fun l hl => W.tr.subset ((zs0.mp hl).elim (fun q => zta _ ((P.tr l).mpr q)) (zth _))
 have b2' : ∀ l ∈ t.tr ++ [lit], l ∈ u'.tr := fun l hl => V.tr.subset ((zs0.mp hl).elim (fun q => zta _ ((P.tr l).mp q)) (zth _))
 rcases h1 with ⟨rfl, T1⟩ | ⟨rfl, c1, m1, f1⟩
 ·have sub := S2 _ (T1.closed G) b1'
  rcases h2 with ⟨rfl, T2⟩ | ⟨rfl, c2, m2, f2⟩
  ·exact ⟨rfl, fun _ l => ⟨S1 _ (T2.closed G) b2' l, sub l⟩⟩
  ·exact (T1.noclash G m2 fun l hl => sub _ (f2 l hl)).elim
 ·rcases h2 with ⟨rfl, T2⟩ | ⟨rfl, -⟩
  ·exact (T2.noclash G m1 fun l hl => S1 _ (T2.closed G) b2' _ (f1 l hl)).elim
  ·exact ⟨rfl, fun q => nomatch q⟩
theorem zcf.free (P : zcf t u) (I : TI n lots t) (J : TI n lots u) {v : Nat} (h1 : 1 ≤ v) (h2 : v ≤ n) : t.as.getD v 0 = 0 ↔ u.as.getD v 0 = 0 := by
 rw [I.free h1 h2, J.free h1 h2, P.tr, P.tr]
theorem zcf.frees (P : zcf t u) (I : TI n lots t) (J : TI n lots u) : frees n t = frees n u := by
 unfold Mine.frees
 refine List.filter_congr fun x hx => ?_
 obtain ⟨i, hi, rfl⟩ := zso.mp hx
 have hi' := ztn.mp hi
 have h0 := P.free I J (v := i + 1) (by lia) (by assumption)
 unfold T.val
 rw [if_pos (by lia), if_pos (by lia), show (1 + (i : Int)).natAbs = i + 1 by lia, Bool.eq_iff_iff, beq_iff_eq, beq_iff_eq]
 exact h0
theorem znn.is {U : List Int} {hp' : List Int} {b : Int} (K : HOk n t.ac t.hp t.pl) (B : znn t.as t.ac t.hp hp' b) (hU : ∀ w, w ∈ U ↔ w ∈ t.hp ∧ t.as.getD w.toNat 0 = 0) : zd7 t.ac U b ∧ ∀ w, (w ∈ U.filter fun w => w != b) ↔ w ∈ hp' ∧ t.as.getD w.toNat 0 = 0 := by
 refine ⟨⟨?_⟩, fun w => ?_⟩
 ·rcases B.best with ⟨rfl, q⟩ | ⟨q1, q2, q3⟩
  ·refine .inl ⟨rfl, List.eq_nil_iff_forall_not_mem.mpr fun w hw => ?_⟩
   obtain ⟨h1, h2⟩ := (hU w).mp hw
   exact q w h1 h2
  ·exact .inr ⟨(hU b).mpr ⟨q1, q2⟩, fun w hw => q3 w ((hU w).mp hw).1 ((hU w).mp hw).2⟩
 ·rw [zua, hU w, bne_iff_ne]
  constructor
  ·rintro ⟨⟨h1, h2⟩, h3⟩
   exact ⟨(B.left w h2).mpr ⟨h1, h3⟩, h2⟩
  ·rintro ⟨h1, h2⟩
   obtain ⟨h3, h4⟩ := (B.left w h2).mp h1
   exact ⟨⟨h3, h2⟩, h4⟩
theorem Stl.frees (S : Stl n lots t) : ∀ w, w ∈ frees n t ↔ w ∈ t.hp ∧ t.as.getD w.toNat 0 = 0 := fun w => by
 constructor
 ·intro hw
  obtain ⟨v, rfl, v1, v2, vz⟩ := zdr S.ti hw
  exact ⟨S.held v v1 v2 vz, vz⟩
 ·rintro ⟨h1, h2⟩
  have := S.hk.rng w h1
  have e := zoe S.ti (v := w.toNat) (by lia) (by lia) h2
  rw [zv8 (by lia)] at e
  exact e
theorem zii (S : TI n lots t) : ∀ w ∈ Mine.frees n t, 0 < w ∧ w < 1000 := fun w hw => by
 obtain ⟨v, rfl, v1, v2, -⟩ := zdr S hw
 have := S.n6
 lia
theorem zml (R : Rep t H) (S : Stl n lots t) : ∃ r U a t' H', ud [.ref t.r] H = some (.ref a, H') ∧ Op t H t' H' ∧ H.length ≤ a ∧ H'[a]? = some (il r) ∧ r.length = n + 1 ∧ zg7 t.ac (Mine.frees n t) r U := by
 have I := S.ti
 have n6 := I.n6
 have s1 : zq (wv []) (zy 1) [some (.ref t.r), none, none] H = some (.next, [some (.ref t.r), some (.ref H.length), none], H ++ [il []]) := rfl
 have R1 := R.app (L := [il []])
 have e2 := j2 (jt ((qf (F := yq) (f := zd 0) (lo := [some (.ref t.r), some (.ref H.length), none]) rfl (R1.at' .obj _ rfl)).trans (zmi R1 (by rw [I.as]; lia))) (g := zh (.int 1)) (y := 1) rfl)
 have fr := xa (g := zy 2) (b := zba) e2 (by decide) (by decide) (by rw [I.as]; lia) (by rw [I.as]; lia)
 rw [show ((t.as.length : Int) - 1 + 1 - 0).toNat = n + 1 by rw [I.as]; lia] at fr
 have rule := jb (g := zy 2) (b := zba) (l := (zsr (n + 1)).map fun i : Nat => MV.int (0 + i))
  (fun i lo H' => ∃ r U hp pl, (∃ w, lo = [some (.ref t.r), some (.ref H.length), w]) ∧ Op t H { t with hp := hp, pl := pl } H' ∧ HOk n t.ac hp pl ∧ (∀ w, w ∈ U ↔ w ∈ hp ∧ t.as.getD w.toNat 0 = 0) ∧ H'[H.length]? = some (il r) ∧ r.length = i ∧ zg7 t.ac (Mine.frees n t) r U)
  (Q := fun lo H' => ∃ r U hp pl, (∃ w, lo = [some (.ref t.r), some (.ref H.length), w]) ∧ Op t H { t with hp := hp, pl := pl } H' ∧ H'[H.length]? = some (il r) ∧ r.length = n + 1 ∧ zg7 t.ac (Mine.frees n t) r U) (R := fun _ _ _ => False)
  (fun i v lo H' hv hI => by
   obtain ⟨r, U, hp, pl, ⟨w, hlo⟩, O, K, hU, hr, hl, Rn⟩ := hI
   subst hlo
   obtain ⟨hi, rfl⟩ := jk hv
   refine ⟨[some (.ref t.r), some (.ref H.length), some (.int (0 + i))], H', rfl, ?_⟩
   obtain ⟨b, H2, hp2, pl2, e3, O2, K2, B⟩ := za8 (t := { t with hp := hp, pl := pl }) O.rep K I.as
   obtain ⟨IB, hU2⟩ := znn.is (t := { t with hp := hp, pl := pl }) K B hU
   have own : ∀ k, ({ t with hp := hp, pl := pl } : T).at k ≠ some H.length := fun k e => by
    have e' : t.at k = some H.length := by rw [← e]; cases k <;> rfl
    exact absurd (R.lt e') (zwx _)
   have own2 : ∀ k, ({ t with hp := hp2, pl := pl2 } : T).at k ≠ some H.length := fun k e => own k (by rw [← e]; cases k <;> rfl)
   have hr2 : H2[H.length]? = some (il r) := (O2.out.2 _ own (jf hr)).trans hr
   have a1 : zp 1 7 (zd 0) [some (.ref t.r), some (.ref H.length), some (.int (0 + i))] H' = some (.ref (t.r + 9), H') := O.rep.attr rfl rfl rfl
   have s3 := qu (f := zd 1) (g := z5 0 wp (zp 1 7 (zd 0)) [(zp 1 1 (zd 0))]) (lo := [some (.ref t.r), some (.ref H.length), some (.int (0 + i))]) (H := H') rfl ((yu (F := wp) a1 (O.rep.at' .hob _ rfl) (O.rep.attr (k := 1) (f := zd 0) rfl rfl rfl)).trans e3) ⟨_, hr⟩ hr2 (by rw [zsk]; lia)
   rw [ky] at s3
   unfold zba
   rw [zj s3]
   have O3 := O.trans O2
   refine ⟨r ++ [b], _, hp2, pl2, ⟨_, rfl⟩, ⟨O3.rep.setOut own2 _, ⟨by rw [zsx]; exact O3.out.1, fun a h1 h2 => by rw [zsn (by lia)]; exact O3.out.2 a h1 h2⟩, O3.near, O3.r⟩, K2, hU2, zhb hr2, by rw [zs1, hl]; rfl, Rn.snoc IB⟩)
  (fun lo H' hI => by obtain ⟨r, U, hp, pl, h1, h2, h3, h4, h5, h6, h7⟩ := hI; exact ⟨r, U, hp, pl, h1, h2, h5, by rw [h6]; simp, h7⟩) (lo := [some (.ref t.r), some (.ref H.length), none]) (H := H ++ [il []]) ⟨[], _, t.hp, t.pl, ⟨_, rfl⟩, op_app R _, S.hk, S.frees, by simp, rfl, .nil⟩
 refine zvt fun hq0 => ?_
 obtain ⟨lo, H1, e1, r, U, hp, pl, ⟨w, rfl⟩, O, hr, hl, Rn⟩ := rule.next
 rw [← fr] at e1
 refine hq0 ?_
 exact ⟨r, U, H.length, _, H1, y8 rfl ((zj s1).trans ((zj e1).trans (wq (qc rfl)))), O, zwt _, hr, hl, Rn⟩
end
end Mine
namespace Mine
structure SW (n : Nat) (lots : List (List Int)) (h c la : Nat) (cells : List Int) (i p : Nat) (t u : T) (last : List Int) (H : St) : Prop where
 lw : LW h c la cells [] p t u last H
 s1 : Stl n lots t
 s2 : Stl n lots u
 ph : t.ph = last
 pr : zcf t u
 acb : ∀ v : Nat, t.ac.getD v 0 ≤ 1024 * i
section
variable {n h c la p i : Nat} {cells last : List Int} {lots : List (List Int)} {t t' t0 u u' : T} {H : St} {lit : Int}
noncomputable abbrev wlo (n h la : Nat) (t u : T) (v0 v3 v7 v8 v9 v10 v11 v12 : Option MV) : Lo := [v0, some (.ref h), some (.int n), v3, some (.ref t.r), some (.ref u.r), some (.ref la), v7, v8, v9, v10, v11, v12]
theorem Stl.bumped (S : Stl n lots t) {a b q : List Int} (K : HOk n a b q) (hm : ∀ w, w ∈ b ↔ w ∈ t.hp) : Stl n lots { t with ac := a, hp := b, pl := q } :=
 ⟨S.ti.heap a b q, K, fun v h1 h2 hz => (hm v).mpr (S.held v h1 h2 hz), S.he, S.wl⟩
theorem Stl.empty (S : Stl n lots t) {b q : List Int} (K : HOk n t.ac b q) (hm : ∀ v : Nat, 1 ≤ v → v ≤ n → t.as.getD v 0 ≠ 0) : Stl n lots { t with hp := b, pl := q } :=
 ⟨S.ti.heap t.ac b q, K, fun v h1 h2 hz => absurd hz (hm v h1 h2), S.he, S.wl⟩
theorem zcf.ofs {t2 u2 : T} (P : zcf t u) (h1 : t2.tr = t.tr ∧ t2.st = t.st ∧ t2.lv = t.lv) (h2 : u2.tr = u.tr ∧ u2.st = u.st ∧ u2.lv = u.lv) (ha : t2.ac = u2.ac) : zcf t2 u2 :=
 ⟨by rw [h1.1, h2.1]; exact P.tr, by rw [h1.2.1, h2.2.1]; exact P.st, by rw [h1.1, h2.1, h1.2.1, h2.2.1]; exact P.cut, by rw [h1.1, h1.2.2, h2.2.2]; exact P.lv, ha⟩
theorem zcf.swap (P : zcf t u) : zcf u t := ⟨fun l => (P.tr l).symm, P.st.symm, fun g s1 s2 h1 h2 l => (P.cut g s2 s1 h2 h1 l).symm, fun l hl => (P.lv l ((P.tr l).mpr hl)).symm, P.ac.symm⟩
theorem zrx (L : LW h c la cells [] p t u last H) (S1 : Stl n lots t) (S2 : Stl n lots u) (P : zcf t u) (hb : ∀ v : Nat, t.ac.getD v 0 ≤ 1000000) {v : Int} (v1 : 1 ≤ v) (v2 : v ≤ n) {v0 v3 v7 v9 v10 v11 v12 : Option MV} {Q : Prop}
  (hq0 : ∀ (a q1 q2 r1 r2 : List Int) (b : Int) (H1 H2 H3 H4 : St), a = t.ac.set v.toNat (t.ac.getD v.toNat 0 + 1024) →
   wh (z5 0 ql (zp 1 7 (zd 4)) [(zd 8)]) (wlo n h la t u v0 v3 v7 (some (.int v)) v9 v10 v11 v12) H = some (.next, wlo n h la t u v0 v3 v7 (some (.int v)) v9 v10 v11 v12, H1) →
   wh (z5 0 ql (zp 1 7 (zd 5)) [(zd 8)]) (wlo n h la t u v0 v3 v7 (some (.int v)) v9 v10 v11 v12) H1 = some (.next, wlo n h la t u v0 v3 v7 (some (.int v)) v9 v10 v11 v12, H2) →
   zq (z5 0 wp (zp 1 7 (zd 4)) [(zp 1 1 (zd 4))]) (zy 9) (wlo n h la t u v0 v3 v7 (some (.int v)) v9 v10 v11 v12) H2 = some (.next, wlo n h la t u v0 v3 v7 (some (.int v)) (some (.int b)) v10 v11 v12, H3) →
   z5 0 wp (zp 1 7 (zd 5)) [(zp 1 1 (zd 5))] (wlo n h la t u v0 v3 v7 (some (.int v)) (some (.int b)) v10 v11 v12) H3 = some (.int b, H4) →
   LW h c la cells [] p { t with ac := a, hp := q1, pl := q2 } { u with ac := a, hp := r1, pl := r2 } last H4 →
   ((b = 0 ∧ Stl n lots { t with ac := a, hp := q1, pl := q2 } ∧ Stl n lots { u with ac := a, hp := r1, pl := r2 }) ∨
    ∃ w : Nat, b = w ∧ Mid n lots { t with ac := a, hp := q1, pl := q2 } w ∧ Mid n lots { u with ac := a, hp := r1, pl := r2 } w) → Q) : Q := by
 have I := S1.ti
 have J := S2.ti
 obtain ⟨H1, hp1, pl1, e1, O1, K1, m1⟩ := zng L.r1 S1.hk v1 v2 (hb _)
 have L1 := L.op O1
 have eac : u.ac.set v.toNat (u.ac.getD v.toNat 0 + 1024) = t.ac.set v.toNat (t.ac.getD v.toNat 0 + 1024) := by rw [P.ac]
 obtain ⟨H2, hp2, pl2, e2, O2, K2, m2⟩ := zng L1.r2 S2.hk v1 v2 (by rw [← P.ac]; exact hb _)
 have L2 := L1.op2 O2
 rw [eac] at L2 K2
 have T1 := S1.bumped K1 m1
 have T2 := S2.bumped K2 m2
 generalize t.ac.set v.toNat (t.ac.getD v.toNat 0 + 1024) = a at *
 obtain ⟨b1, H3, q1, q2, e3, O3, K3, B3⟩ := za8 L2.r1 T1.hk T1.ti.as
 have L3 := L2.op O3
 obtain ⟨b2, H4, r1, r2, e4, O4, K4, B4⟩ := za8 L3.r2 T2.hk T2.ti.as
 have L4 := L3.op2 O4
 have bb : b1 = b2 := by
  obtain ⟨A, -⟩ := znn.is (t := { t with ac := a, hp := hp1, pl := pl1 }) (U := frees n t) T1.hk B3 (Stl.frees T1)
  obtain ⟨B, -⟩ := znn.is (t := { u with ac := a, hp := hp2, pl := pl2 }) (U := frees n u) T2.hk B4 (Stl.frees T2)
  rw [← P.frees I J] at B
  exact zd7.same (zii I) A B
 subst bb
 refine hq0 a q1 q2 r1 r2 b1 H1 H2 H3 H4 rfl (qj (v := .none) ?_) (qj (v := .none) ?_) (wc (i := 9) ?_ (by simp)) ?_ L4 ?_
 ·exact (yu (F := ql) (f := zp 1 7 (zd 4)) (g := zd 8) (L.r1.attr rfl rfl rfl) (L.r1.at' .hob _ rfl) rfl).trans e1
 ·exact (yu (F := ql) (f := zp 1 7 (zd 5)) (g := zd 8) (L1.r2.attr rfl rfl rfl) (L1.r2.at' .hob _ rfl) rfl).trans e2
 ·exact (yu (F := wp) (f := zp 1 7 (zd 4)) (g := zp 1 1 (zd 4)) (L2.r1.attr rfl rfl rfl) (L2.r1.at' .hob _ rfl) (L2.r1.attr rfl rfl rfl)).trans e3
 ·exact (yu (F := wp) (f := zp 1 7 (zd 5)) (g := zp 1 1 (zd 5)) (L3.r2.attr rfl rfl rfl) (L3.r2.at' .hob _ rfl) (L3.r2.attr rfl rfl rfl)).trans e4
 ·by_cases hz : b1 = 0
  ·exact .inl ⟨hz, Stl.empty T1 K3 (zfn (pl := q2) T1 B3 hz), Stl.empty T2 K4 (zfn (pl := r2) T2 B4 hz)⟩
  ·obtain ⟨w, ew, M1⟩ := zhj T1 K3 B3 hz
   obtain ⟨w', ew', M2⟩ := zhj T2 K4 B4 hz
   have : w' = w := by lia
   subst this
   exact .inr ⟨w', ew, M1, M2⟩
end
end Mine
namespace Mine
section
variable {n h c la p i : Nat} {cells last : List Int} {lots : List (List Int)} {t t' t0 u u' : T} {H : St} {lit : Int}
theorem zpz (L : LW h c la cells [] p t u last H) (G : LG n lots) {v : Nat} (M : Mid n lots t v) (N : Mid n lots u v) (P : zcf t u) (hp : t.ph = last) {x : Int} (hx : x = 1 ∨ x = -1) {v0 v3 v7 v8 v9 v11 v12 : Option MV} {Q : Prop}
  (hq0 : ∀ (b : Bool) (H1 H2 H3 : St) (p' : Nat) (t' u' : T) (last' : List Int) (w12 : Option MV),
   zq (we yr [(zd 4), (zd 10)]) (zy 11) (wlo n h la t u v0 v3 v7 v8 v9 (some (.int (v * x))) v11 v12) H = some (.next, wlo n h la t u v0 v3 v7 v8 v9 (some (.int (v * x))) (some (.bool b)) v12, H1) →
   we yr [(zd 5), (zd 10)] (wlo n h la t u v0 v3 v7 v8 v9 (some (.int (v * x))) (some (.bool b)) v12) H1 = some (.bool b, H2) →
   yt (zbd (qd (zd 11))) (zw (zq (we wj [(zd 1), (z5 1 wg (zd 4) [])]) (zy 12))
    (zw (wh (we kj [(zd 4), (wd (zp 1 9 (zd 4)) (zd 12)), (zd 6)]))
    (zw (wh (z5 1 z7 (zd 4) [(zd 12)]))
    (zw (wh (z5 1 z7 (zd 5) [(zd 12)]))
    z3)))) z3 (wlo n h la t u v0 v3 v7 v8 v9 (some (.int (v * x))) (some (.bool b)) v12) H2 = some (.next, wlo n h la t u v0 v3 v7 v8 v9 (some (.int (v * x))) (some (.bool b)) w12, H3) →
   LW h c la cells [] p' t' u' last' H3 →
   t'.r = t.r →
   u'.r = u.r →
   Stl n lots t' →
   Stl n lots u' →
   t'.ph = last' →
   zcf t' u' →
   t'.ac = t.ac → Q) : Q := by
 obtain ⟨b1, t1, H1, e1, L1, r1, I1, K1, hh1, he1, W1, Sm1, c1⟩ := zqv L G M hx
 obtain ⟨b2, u1, H2, e2, L2, r2, J1, K2, hh2, he2, W2, Sm2, c2⟩ := zqv L1.swap G N hx
 have L2 := L2.swap
 obtain ⟨bb, same⟩ := zoc G P W1 W2 Sm1 Sm2 c1 c2
 subst bb
 obtain ⟨wk, full⟩ := P.grow M.ti N.ti I1 J1 W1 W2
 have hp1 : t1.ph = last := W1.ph.trans hp
 have q1 : zq (we yr [(zd 4), (zd 10)]) (zy 11) (wlo n h la t u v0 v3 v7 v8 v9 (some (.int (v * x))) v11 v12) H = some (.next, wlo n h la t u v0 v3 v7 v8 v9 (some (.int (v * x))) (some (.bool b1)) v12, H1) :=
  wc (i := 11) ((qw (F := yr) (g := zd 4) (h := zd 10) rfl rfl).trans e1) (by simp)
 have q2 : we yr [(zd 5), (zd 10)] (wlo n h la t u v0 v3 v7 v8 v9 (some (.int (v * x))) (some (.bool b1)) v12) H1 = some (.bool b1, H2) :=
  (qw (F := yr) (g := zd 5) (h := zd 10) rfl rfl).trans e2
 have q3 := zet (f := zd 11) (lo := wlo n h la t u v0 v3 v7 v8 v9 (some (.int (v * x))) (some (.bool b1)) v12) (H := H2) (H1 := H2) (b := b1) rfl
 rcases c1 with ⟨rfl, S1⟩ | ⟨rfl, -⟩
 ·rcases c2 with ⟨-, S2⟩ | ⟨q, -⟩
  ·exact hq0 true H1 H2 H2 p t1 u1 last v12 q1 q2 ((yw q3).trans rfl) L2 r1 r2 S1 S2 hp1 (full (same rfl)) W1.hp.2.2
  ·cases q
 ·have n6 := I1.n6
  have sl1 := I1.stlen
  have tl1 := I1.trlen
  have st1 : t1.st.length = t.st.length + 1 := by rw [W1.st]; simp
  have d4 : ∀ {w11 w12 : Option MV} {H : St}, zd 4 (wlo n h la t u v0 v3 v7 v8 v9 (some (.int (v * x))) w11 w12) H = some (.ref t1.r, H) := by intro w11 w12 H; rw [r1]; rfl
  have d5 : ∀ {w11 w12 : Option MV} {H : St}, zd 5 (wlo n h la t u v0 v3 v7 v8 v9 (some (.int (v * x))) w11 w12) H = some (.ref u1.r, H) := by intro w11 w12 H; rw [r2]; rfl
  obtain ⟨y, H3, e3, y1, y2, L3⟩ := L2.pull (m := (t1.st.length : Int)) (by lia)
  have yy : y = ((y.toNat : Nat) : Int) := by lia
  have hgl : y.toNat < t1.st.length := by lia
  rw [yy] at e3
  generalize y.toNat = g at e3 hgl
  have s3 : zq (we wj [(zd 1), (z5 1 wg (zd 4) [])]) (zy 12) (wlo n h la t u v0 v3 v7 v8 v9 (some (.int (v * x))) (some (.bool false)) v12) H2 = some (.next, wlo n h la t u v0 v3 v7 v8 v9 (some (.int (v * x))) (some (.bool false)) (some (.int (g : Int))), H3) :=
   wc (i := 12) ((qw (F := wj) (g := zd 1) rfl ((qf (F := wg) (f := zd 4) d4 (L2.r1.at' .obj _ rfl)).trans (vc L2.r1 (by lia)))).trans e3) (by simp)
  obtain ⟨s, t4, H4, H5, gs, k1, L4, k2, L5, r4, S4, C4, hp4⟩ := zhk L3 I1 K1 hh1 he1 hp1 hgl
  have e4 := yo (f := zp 1 9 (zd 4)) (g := zd 12) (lo := wlo n h la t u v0 v3 v7 v8 v9 (some (.int (v * x))) (some (.bool false)) (some (.int (g : Int)))) (H := H3) (i := (g : Int)) (L3.r1.attr rfl d4 rfl) rfl (L3.r1.at' .st _ rfl) (by lia) gs (by lia)
  have s4 : wh (we kj [(zd 4), (wd (zp 1 9 (zd 4)) (zd 12)), (zd 6)]) (wlo n h la t u v0 v3 v7 v8 v9 (some (.int (v * x))) (some (.bool false)) (some (.int (g : Int)))) H3 = some (.next, wlo n h la t u v0 v3 v7 v8 v9 (some (.int (v * x))) (some (.bool false)) (some (.int (g : Int))), H4) := by
   refine qj (v := .none) ?_
   unfold we
   rw [vu (d4 (H := H3)) e4 rfl]
   exact k1
  have s5 : wh (z5 1 z7 (zd 4) [(zd 12)]) (wlo n h la t u v0 v3 v7 v8 v9 (some (.int (v * x))) (some (.bool false)) (some (.int (g : Int)))) H4 = some (.next, wlo n h la t u v0 v3 v7 v8 v9 (some (.int (v * x))) (some (.bool false)) (some (.int (g : Int))), H5) :=
   qj (v := .none) ((yu (F := z7) (f := zd 4) (g := zd 12) (a := t1.r) d4 (L4.r1.at' .obj _ rfl) rfl).trans k2)
  have hgu : g < u1.st.length := by rw [← wk.st]; exact hgl
  have hsu := J1.stl _ (zsm (zsv hgu))
  have gu : u1.st[g]? = some ((u1.st[g].toNat : Nat) : Int) := by rw [zsv hgu, zv8 hsu.1]
  generalize u1.st[g].toNat = s' at gu
  obtain ⟨u4, H6, k3, O6, S6, C6⟩ := zk2 (lots := lots) L5.r2 J1 K2 hh2 he2 gu
  have s6 : wh (z5 1 z7 (zd 5) [(zd 12)]) (wlo n h la t u v0 v3 v7 v8 v9 (some (.int (v * x))) (some (.bool false)) (some (.int (g : Int)))) H5 = some (.next, wlo n h la t u v0 v3 v7 v8 v9 (some (.int (v * x))) (some (.bool false)) (some (.int (g : Int))), H6) :=
   qj (v := .none) ((yu (F := z7) (f := zd 5) (g := zd 12) (a := u1.r) d5 (L5.r2.at' .obj _ rfl) rfl).trans k3)
  exact hq0 false H1 H2 H6 (p + 1) t4 u4 _ (some (.int (g : Int))) q1 q2 ((kr q3).trans ((zj s3).trans ((zj s4).trans ((zj s5).trans ((zj s6).trans rfl))))) (L5.op2 O6) (r4.trans r1) (O6.r.trans r2) S4 S6 hp4 (wk.cutP I1 J1 C4 C6 gs gu) (C4.ac.trans W1.hp.2.2)
theorem zn5 (L : LW h c la cells [] p t u last H) (G : LG n lots) (S1 : Stl n lots t) (S2 : Stl n lots u) (P : zcf t u) {lo : Lo} (d4 : ∀ H, zd 4 lo H = some (.ref t.r, H)) (d5 : ∀ H, zd 5 lo H = some (.ref u.r, H)) :
  ∃ K, ue (z9 .NotEq (we jm [(zd 4)]) (we jm [(zd 5)])) (ue (z9 .NotEq (z5 1 wg (zd 4) []) (z5 1 wg (zd 5) [])) (ue (zbd (qd (z5 1 ym (zd 4) []))) (ue (zbd (qd (z5 1 ym (zd 5) []))) zl1))) lo H = some (false, H ++ K) := by
 have I := S1.ti
 have J := S2.ti
 have n6 := I.n6
 have k1 := (j3 (F := jm) (d4 H)).trans (zkt L.r1 I)
 have L1 := L.app [wu (t.tr.map (gc t)), wu (uq (t.tr.map (gc t)))]
 have g1 : (H ++ [wu (t.tr.map (gc t)), wu (uq (t.tr.map (gc t)))])[H.length + 1]? = some (wu (uq (t.tr.map (gc t)))) := by
  rw [zs2 (by lia), show H.length + 1 - H.length = 1 by lia]; rfl
 generalize hH1 : H ++ [wu (t.tr.map (gc t)), wu (uq (t.tr.map (gc t)))] = H1 at k1 L1 g1
 have k2 := (j3 (F := jm) (d5 H1)).trans (zkt L1.r2 J)
 have L2 := L1.app [wu (u.tr.map (gc u)), wu (uq (u.tr.map (gc u)))]
 have g1' := zaz (L := [wu (u.tr.map (gc u)), wu (uq (u.tr.map (gc u)))]) g1
 have g2 : (H1 ++ [wu (u.tr.map (gc u)), wu (uq (u.tr.map (gc u)))])[H1.length + 1]? = some (wu (uq (t.tr.map (gc t)))) := by
  rw [zs2 (by lia), show H1.length + 1 - H1.length = 1 by lia, P.known I J]; rfl
 generalize hH2 : H1 ++ [wu (u.tr.map (gc u)), wu (uq (u.tr.map (gc u)))] = H2 at k2 L2 g1' g2
 have c1 := wi (op := .NotEq) k1 k2 (b := false) (by show (zv2 none ((eqD _ _ _).map not)) = _; rw [zkz g1' g2]; rfl)
 have sl1 := I.stlen
 have sl2 := J.stlen
 have tl1 := I.trlen
 have tl2 := J.trlen
 have c2 := wi (op := .NotEq) ((qf (F := wg) (d4 H2) (L2.r1.at' .obj _ rfl)).trans (vc L2.r1 (by lia))) ((qf (F := wg) (d5 H2) (L2.r2.at' .obj _ rfl)).trans (vc L2.r2 (by lia))) (b := (t.st.length : Int) != u.st.length) rfl
 rw [P.st, bne_self_eq_false] at c2
 refine zvt fun hq0 => ?_
 obtain ⟨K3, e3⟩ := zha L2.r1 I G
 have c3 := zet ((qf (F := ym) (d4 H2) (L2.r1.at' .obj _ rfl)).trans e3)
 have L3 := L2.app K3
 obtain ⟨K4, e4⟩ := zha L3.r2 J G
 have c4 := zet ((qf (F := ym) (d5 (H2 ++ K3)) (L3.r2.at' .obj _ rfl)).trans e4)
 refine hq0 ?_
 refine ⟨[wu (t.tr.map (gc t)), wu (uq (t.tr.map (gc t)))] ++ ([wu (u.tr.map (gc u)), wu (uq (u.tr.map (gc u)))] ++ (K3 ++ K4)), ?_⟩
 rw [← zs7, ← zs7, ← zs7, hH1, hH2]
 exact (ut c1).trans ((ut c2).trans ((ut c3).trans ((ut c4).trans rfl)))
end
end Mine
namespace Mine
section
variable {n h c la p i : Nat} {cells last : List Int} {lots : List (List Int)} {t t' t0 u u' : T} {H : St} {lit : Int}
theorem zeb (ht : t'.r = t.r) (hu : u'.r = u.r) {v0 v3 v7 v8 v9 v10 v11 v12 : Option MV} : wlo n h la t' u' v0 v3 v7 v8 v9 v10 v11 v12 = wlo n h la t u v0 v3 v7 v8 v9 v10 v11 v12 := by unfold wlo; rw [ht, hu]
theorem zpx (S : SW n lots h c la cells i p t u last H) (G : LG n lots) (hi : i ≤ 900) {v0 v3 v7 v8 v9 v10 v11 v12 : Option MV} {P Q : Lo → St → Prop}
  (hP : ∀ p' t' u' last' H' w8 w9 w10 w11 w12, SW n lots h c la cells (i + 1) p' t' u' last' H' → t'.r = t.r → u'.r = u.r → P (wlo n h la t u v0 v3 v7 w8 w9 w10 w11 w12) H')
  (hQ : ∀ p' t' u' last' H' w8 w9 w10 w11 w12, SW n lots h c la cells (i + 1) p' t' u' last' H' → t'.r = t.r → u'.r = u.r → Q (wlo n h la t u v0 v3 v7 w8 w9 w10 w11 w12) H') :
  zeh (zht (wlo n h la t u v0 v3 v7 v8 v9 v10 v11 v12) H) P Q (fun _ _ _ => False) := by
 have n6 := S.s1.ti.n6
 have n1 := S.s1.ti.n1
 -- the detour
 refine zvt fun hq0 => ?_
 obtain ⟨p1, t1, last1, H1, e1, L1, S1, hp1, F1, tr1, st1, r1⟩ := zok S.lw G S.s1 S.ph
 have c1 := zet (f := we gm [(zd 1), (zd 4), (zd 6)]) (lo := wlo n h la t u v0 v3 v7 v8 v9 v10 v11 v12) (H := H) (H1 := H1) (b := true) (by
  unfold we
  rw [vu (g := zd 1) (h := zd 4) (k := zd 6) rfl rfl rfl]
  exact e1)
 have P1 : zcf t1 u := by
  refine ⟨fun l => by rw [tr1]; exact S.pr.tr l, by rw [st1]; exact S.pr.st, by rw [st1, tr1]; exact S.pr.cut, fun l hl => ?_, F1.ac.trans S.pr.ac⟩
  rw [tr1] at hl
  rw [(F1.old l hl).1]; exact S.pr.lv l hl
 -- bumped
 obtain ⟨x, H2, e2, x1, x2, L2⟩ := L1.pull (m := (n : Int)) (by lia)
 have s2 : zq (wo o.add (zh (.int 1)) (we wj [(zd 1), (zd 2)])) (zy 8) (wlo n h la t u v0 v3 v7 v8 v9 v10 v11 v12) H1 = some (.next, wlo n h la t u v0 v3 v7 (some (.int (1 + x))) v9 v10 v11 v12, H2) :=
  wc (i := 8) (jt (x := 1) rfl ((qw (F := wj) (g := zd 1) (h := zd 2) rfl rfl).trans e2)) (by simp)
 refine zrx L2 S1 S.s2 P1 (fun v => by rw [F1.ac]; have := S.acb v; lia) (v := 1 + x) (by lia) (by lia) (v0 := v0) (v3 := v3) (v7 := v7) (v9 := v9) (v10 := v10) (v11 := v11) (v12 := v12) fun a q1 q2 z1 z2 b H3 H4 H5 H6 ha s3 s4 s5 e6 L6 hb => ?_
 rw [zeb r1 rfl] at s3 s4 e6
 rw [zeb r1 rfl, zeb r1 rfl] at s5
 have c6 := wi (op := .NotEq) (f := zd 9) (lo := wlo n h la t u v0 v3 v7 (some (.int (1 + x))) (some (.int b)) v10 v11 v12) (H := H5) (x := .int b) rfl e6 (b := b != b) rfl
 rw [bne_self_eq_false] at c6
 have c7 := wi (op := .Eq) (f := zd 9) (g := zh (.int 0)) (lo := wlo n h la t u v0 v3 v7 (some (.int (1 + x))) (some (.int b)) v10 v11 v12) (H := H6) (x := .int b) (y := .int 0) (b := b == 0) rfl rfl rfl
 have acb : ∀ v : Nat, a.getD v 0 ≤ 1024 * (i + 1 : Nat) := fun v => by
  rw [ha, F1.ac]
  have h0 := S.acb v
  rw [zsz, zs8]
  by_cases e : (1 + x).toNat = v
  ·rw [if_pos e]
   split
   ·have h1 := S.acb v
    rw [e]
    show t.ac.getD v 0 + 1024 ≤ _
    lia
   ·show (0 : Int) ≤ _; lia
  ·rw [if_neg e, ← zsz]; lia
 have hph : ({ t1 with ac := a, hp := q1, pl := q2 } : T).ph = last1 := hp1
 have P6 : zcf { t1 with ac := a, hp := q1, pl := q2 } { u with ac := a, hp := z1, pl := z2 } := P1.ofs ⟨rfl, rfl, rfl⟩ ⟨rfl, rfl, rfl⟩ rfl
 have r6 : ({ t1 with ac := a, hp := q1, pl := q2 } : T).r = t.r := r1
 have r6' : ({ u with ac := a, hp := z1, pl := z2 } : T).r = u.r := rfl
 have ac6 : ({ t1 with ac := a, hp := q1, pl := q2 } : T).ac = a := rfl
 generalize ({ t1 with ac := a, hp := q1, pl := q2 } : T) = t6 at L6 hb hph P6 r6 ac6
 generalize ({ u with ac := a, hp := z1, pl := z2 } : T) = u6 at L6 hb P6 r6'
 refine hq0 ?_
 unfold zht
 rw [zj ((yw c1).trans rfl), zj s2, zj s3, zj s4, zj s5, zj ((yw c6).trans rfl)]
 rcases hb with ⟨rfl, T1, T2⟩ | ⟨w, rfl, M, N⟩
 ·rw [zcl ((kr c7).trans (zcl rfl))]
  exact hQ _ _ _ _ _ _ _ _ _ _ ⟨L6, T1, T2, hph, P6, fun v => by rw [ac6]; exact acb v⟩ r6 r6'
 ·have w1 := M.v1
  have w2 := M.v2
  have e0 : ((w : Int) == 0) = false := beq_eq_false_iff_ne.mpr (by lia)
  rw [e0] at c7
  rw [zj ((yw c7).trans rfl)]
  obtain ⟨y, H7, e7, hy, L7⟩ := L6.sign
  have s7 : zq (wo o.mul (zd 9) (we kd [(zd 1)])) (zy 10) (wlo n h la t u v0 v3 v7 (some (.int (1 + x))) (some (.int w)) v10 v11 v12) H6 = some (.next, wlo n h la t u v0 v3 v7 (some (.int (1 + x))) (some (.int w)) (some (.int (w * y))) v11 v12, H7) :=
   wc (i := 10) (zdy (x := (w : Int)) (y := y) rfl ((j3 (F := kd) (g := zd 1) rfl).trans e7) (zdk (by lia) (by omega))) (by simp)
  refine zpz L7 G M N P6 hph hy (v0 := v0) (v3 := v3) (v7 := v7) (v8 := some (.int (1 + x))) (v9 := some (.int w)) (v11 := v11) (v12 := v12) fun b8 H8 H9 H10 p10 t10 u10 last10 w12 s8 e9 s10 L10 r10 r10' S10 Z10 hp10 P10 ac10 => ?_
  rw [zeb r6 r6', zeb r6 r6'] at s8
  rw [zeb r6 r6'] at e9
  rw [zeb r6 r6', zeb r6 r6'] at s10
  have c9 := wi (op := .NotEq) (f := zd 11) (lo := wlo n h la t u v0 v3 v7 (some (.int (1 + x))) (some (.int w)) (some (.int (w * y))) (some (.bool b8)) v12) (H := H8) (x := .bool b8) rfl e9 (b := false) (by cases b8 <;> rfl)
  have rr : t10.r = t.r := r10.trans r6
  have rr' : u10.r = u.r := r10'.trans r6'
  obtain ⟨K, c11⟩ := zn5 L10 G S10 Z10 P10 (lo := wlo n h la t u v0 v3 v7 (some (.int (1 + x))) (some (.int w)) (some (.int (w * y))) (some (.bool b8)) w12) (fun _ => by rw [rr]; rfl) (fun _ => by rw [rr']; rfl)
  rw [zj s7, zj s8, zj ((yw c9).trans rfl), zj s10, zj ((yw c11).trans rfl)]
  exact hP _ _ _ _ _ _ _ _ _ _ ⟨L10.app K, S10, Z10, hp10, P10, fun v => by rw [ac10, ac6]; exact acb v⟩ rr rr'
end
end Mine
namespace Mine
section
variable {c k : Nat} {l : List MV} {tl tl' : St} {f fo : DE} {v : MV} {lo : Lo} {H0 : St}
theorem zdw {x : MO} : (H0 ++ x :: tl)[H0.length]? = some x := by rw [zs2 (zwt _), zww]; rfl
theorem zm6 {x y : MO} : (H0 ++ x :: tl).set H0.length y = H0 ++ y :: tl := by rw [zt8 _ _ (zwt _), zww]; rfl
theorem zgm {x : MO} : (H0 ++ x :: tl).length = H0.length + 1 + tl.length := by rw [zs1, ztd]; lia
theorem yn {l' : List MV} (hf : f lo (H0 ++ .obj c l :: tl) = some (v, H0 ++ .obj c l :: tl')) (ho : ∀ H, fo lo H = some (.ref H0.length, H)) (hk : l.length = k) (hl : l ++ [v] = l') : zq f (wm c k fo) lo (H0 ++ .obj c l :: tl) = some (.next, lo, H0 ++ .obj c l' :: tl') := by
 subst hl
 unfold zq
 rw [hf]
 dsimp only [bnd]
 unfold wm
 rw [ho]
 show ((zeg c ((H0 ++ MO.obj c l :: tl')[H0.length]?) _).map _).map _ = _
 rw [zdw]
 show ((if c = c then (if k < l.length then _ else if k = l.length then some ((H0 ++ MO.obj c l :: tl').set H0.length (.obj c (l ++ [v]))) else none) else none).map _).map _ = _
 rw [if_pos rfl, if_neg (by lia), if_pos hk.symm, zm6]
 rfl
theorem zcp {x : MO} {m : Nat} (hm : 1 + tl.length = m) (ht : tl ++ [.list []] = tl') : wv [] lo (H0 ++ x :: tl) = some (.ref (H0.length + m), H0 ++ x :: tl') := by
 subst hm; subst ht
 show some (MV.ref (H0 ++ x :: tl).length, (H0 ++ x :: tl) ++ [MO.list []]) = _
 rw [zgm, zs7, zxb]; rfl
theorem zeu {x : MO} {u : MV} {m : Nat} (h : f lo (H0 ++ x :: tl) = some (u, H0 ++ x :: tl)) (hm : 1 + tl.length = m) (ht : tl ++ [.list [u]] = tl') : wv [f] lo (H0 ++ x :: tl) = some (.ref (H0.length + m), H0 ++ x :: tl') := by
 subst hm; subst ht
 unfold wv
 rw [um h]
 show some (MV.ref (H0 ++ x :: tl).length, (H0 ++ x :: tl) ++ [MO.list [u]]) = _
 rw [zgm, zs7, zxb]; rfl
theorem list2' {x : MO} {m m1 m2 : Nat} (hm : 1 + tl.length = m) (h1 : m + 1 = m1) (h2 : m1 + 1 = m2) (ht : tl ++ [.list [], .list [], .list [.ref (H0.length + m), .ref (H0.length + m1)]] = tl') : wv [wv [], wv []] lo (H0 ++ x :: tl) = some (.ref (H0.length + m2), H0 ++ x :: tl') := by
 have e0 : wv [] lo (H0 ++ x :: tl) = some (.ref (H0.length + m), H0 ++ x :: (tl ++ [MO.list []])) := zcp hm rfl
 have e1 : wv [] lo (H0 ++ x :: (tl ++ [MO.list []])) = some (.ref (H0.length + m1), H0 ++ x :: (tl ++ [MO.list [], MO.list []])) := zcp (by rw [zs1]; show 1 + (tl.length + 1) = m1; lia) (by rw [zs7]; rfl)
 show bnd (jw [wv [], wv []] lo (H0 ++ x :: tl)) _ = _
 rw [zb0 e0 e1]
 show some (MV.ref (H0 ++ x :: (tl ++ [MO.list [], MO.list []])).length, (H0 ++ x :: (tl ++ [MO.list [], MO.list []])) ++ [MO.list [.ref (H0.length + m), .ref (H0.length + m1)]]) = _
 subst ht
 rw [zgm, zs7, zs1, show H0.length + 1 + (tl.length + [MO.list [], MO.list []].length) = H0.length + m2 by show H0.length + 1 + (tl.length + 2) = _; lia, List.cons_append, zs7]; rfl
end
noncomputable abbrev mid (H : St) (c : Nat) (l : List MV) (tl : St) : St := H ++ .obj c l :: tl
theorem zon (H : St) : uz [.ref H.length] (H ++ [.obj 0 []]) = some (.none, H ++ [.obj 0 [.int 1000000000000, .int 1024, .ref (H.length + 1), .ref (H.length + 2), .ref (H.length + 3)], .list [.int 0], .list [], .list [.int (-1)]]) := by
 have ho : ∀ H', zd 0 [some (.ref H.length), some (.int 1000000000000)] H' = some (.ref H.length, H') := fun _ => rfl
 have s0 : zq (zd 1) (wm 0 0 (zd 0)) [some (.ref H.length), some (.int 1000000000000)] (mid H 0 [] []) = some (.next, [some (.ref H.length), some (.int 1000000000000)], mid H 0 [.int 1000000000000] []) := yn (l := []) (tl := []) (v := .int 1000000000000) (tl' := []) (rfl) ho rfl rfl
 have s1 : zq (zh (.int 1024)) (wm 0 1 (zd 0)) [some (.ref H.length), some (.int 1000000000000)] (mid H 0 [.int 1000000000000] []) = some (.next, [some (.ref H.length), some (.int 1000000000000)], mid H 0 [.int 1000000000000, .int 1024] []) := yn (l := [.int 1000000000000]) (tl := []) (v := .int 1024) (tl' := []) (rfl) ho rfl rfl
 have s2 : zq (wv [(zh (.int 0))]) (wm 0 2 (zd 0)) [some (.ref H.length), some (.int 1000000000000)] (mid H 0 [.int 1000000000000, .int 1024] []) = some (.next, [some (.ref H.length), some (.int 1000000000000)], mid H 0 [.int 1000000000000, .int 1024, .ref (H.length + 1)] [.list [.int 0]]) := yn (l := [.int 1000000000000, .int 1024]) (tl := []) (v := .ref (H.length + 1)) (tl' := [.list [.int 0]]) (zeu rfl rfl rfl) ho rfl rfl
 have s3 : zq (wv []) (wm 0 3 (zd 0)) [some (.ref H.length), some (.int 1000000000000)] (mid H 0 [.int 1000000000000, .int 1024, .ref (H.length + 1)] [.list [.int 0]]) = some (.next, [some (.ref H.length), some (.int 1000000000000)], mid H 0 [.int 1000000000000, .int 1024, .ref (H.length + 1), .ref (H.length + 2)] [.list [.int 0], .list []]) := yn (l := [.int 1000000000000, .int 1024, .ref (H.length + 1)]) (tl := [.list [.int 0]]) (v := .ref (H.length + 2)) (tl' := [.list [.int 0], .list []]) (zcp rfl rfl) ho rfl rfl
 have s4 : zq (wv [(uf (zh (.int 1)))]) (wm 0 4 (zd 0)) [some (.ref H.length), some (.int 1000000000000)] (mid H 0 [.int 1000000000000, .int 1024, .ref (H.length + 1), .ref (H.length + 2)] [.list [.int 0], .list []]) = some (.next, [some (.ref H.length), some (.int 1000000000000)], mid H 0 [.int 1000000000000, .int 1024, .ref (H.length + 1), .ref (H.length + 2), .ref (H.length + 3)] [.list [.int 0], .list [], .list [.int (-1)]]) := yn (l := [.int 1000000000000, .int 1024, .ref (H.length + 1), .ref (H.length + 2)]) (tl := [.list [.int 0], .list []]) (v := .ref (H.length + 3)) (tl' := [.list [.int 0], .list [], .list [.int (-1)]]) (zeu rfl rfl rfl) ho rfl rfl
 exact us rfl (lo' := [some (.ref H.length), some (.int 1000000000000)]) ((zj s0).trans ((zj s1).trans ((zj s2).trans ((zj s3).trans ((zj s4).trans rfl)))))
theorem zom (H : St) : xp [] H = some (.ref H.length, H ++ [.obj 0 [.int 1000000000000, .int 1024, .ref (H.length + 1), .ref (H.length + 2), .ref (H.length + 3)], .list [.int 0], .list [], .list [.int (-1)]]) := by
 show (zey 0 uz) [] H = _
 unfold zey
 rw [zon]; rfl
theorem zqa {x : MO} {tl tl' : St} {lo : Lo} {H : St} {m : Nat} (hm : 1 + tl.length = m) (ht : tl ++ [.obj 0 [.int 1000000000000, .int 1024, .ref (H.length + m + 1), .ref (H.length + m + 2), .ref (H.length + m + 3)], .list [.int 0], .list [], .list [.int (-1)]] = tl') : we xp [] lo (H ++ x :: tl) = some (.ref (H.length + m), H ++ x :: tl') := by
 show xp [] _ = _
 rw [zom, zgm, zs7, ← ht, zxb, hm]; rfl
theorem zlc (H : St) : zaf [.ref H.length, .none] (H ++ [.obj 1 []]) = some (.none, H ++ [.obj 1 [.none, .ref (H.length + 1), .ref (H.length + 2), .ref (H.length + 3), .ref (H.length + 4), .ref (H.length + 5), .ref (H.length + 8), .ref (H.length + 9), .ref (H.length + 13), .ref (H.length + 14), .int 0, .int 0, .ref (H.length + 15), .ref (H.length + 16), .ref (H.length + 17), .ref (H.length + 18), .int 0], .list [.int 0], .list [.int 0], .list [.int (-1)], .list [.int 0], .list [.int (-1)], .list [], .list [], .list [.ref (H.length + 6), .ref (H.length + 7)], .obj 0 [.int 1000000000000, .int 1024, .ref (H.length + 9 + 1), .ref (H.length + 9 + 2), .ref (H.length + 9 + 3)], .list [.int 0], .list [], .list [.int (-1)], .list [], .list [], .list [], .list [], .list [], .list []]) := by
 have ho : ∀ H', zd 0 [some (.ref H.length), some .none] H' = some (.ref H.length, H') := fun _ => rfl
 have s0 : zq (zd 1) (wm 1 0 (zd 0)) [some (.ref H.length), some .none] (mid H 1 [] []) = some (.next, [some (.ref H.length), some .none], mid H 1 [.none] []) := yn (v := .none) (rfl) ho rfl rfl
 have s1 : zq (wv [(zh (.int 0))]) (wm 1 1 (zd 0)) [some (.ref H.length), some .none] (mid H 1 [.none] []) = some (.next, [some (.ref H.length), some .none], mid H 1 [.none, .ref (H.length + 1)] [.list [.int 0]]) := yn (v := .ref (H.length + 1)) (zeu rfl rfl rfl) ho rfl rfl
 have s2 : zq (wv [(zh (.int 0))]) (wm 1 2 (zd 0)) [some (.ref H.length), some .none] (mid H 1 [.none, .ref (H.length + 1)] [.list [.int 0]]) = some (.next, [some (.ref H.length), some .none], mid H 1 [.none, .ref (H.length + 1), .ref (H.length + 2)] [.list [.int 0], .list [.int 0]]) := yn (v := .ref (H.length + 2)) (zeu rfl rfl rfl) ho rfl rfl
 have s3 : zq (wv [(zh (.int (-1)))]) (wm 1 3 (zd 0)) [some (.ref H.length), some .none] (mid H 1 [.none, .ref (H.length + 1), .ref (H.length + 2)] [.list [.int 0], .list [.int 0]]) = some (.next, [some (.ref H.length), some .none], mid H 1 [.none, .ref (H.length + 1), .ref (H.length + 2), .ref (H.length + 3)] [.list [.int 0], .list [.int 0], .list [.int (-1)]]) := yn (v := .ref (H.length + 3)) (zeu rfl rfl rfl) ho rfl rfl
 have s4 : zq (wv [(zh (.int 0))]) (wm 1 4 (zd 0)) [some (.ref H.length), some .none] (mid H 1 [.none, .ref (H.length + 1), .ref (H.length + 2), .ref (H.length + 3)] [.list [.int 0], .list [.int 0], .list [.int (-1)]]) = some (.next, [some (.ref H.length), some .none], mid H 1 [.none, .ref (H.length + 1), .ref (H.length + 2), .ref (H.length + 3), .ref (H.length + 4)] [.list [.int 0], .list [.int 0], .list [.int (-1)], .list [.int 0]]) := yn (v := .ref (H.length + 4)) (zeu rfl rfl rfl) ho rfl rfl
 have s5 : zq (wv [(zh (.int (-1)))]) (wm 1 5 (zd 0)) [some (.ref H.length), some .none] (mid H 1 [.none, .ref (H.length + 1), .ref (H.length + 2), .ref (H.length + 3), .ref (H.length + 4)] [.list [.int 0], .list [.int 0], .list [.int (-1)], .list [.int 0]]) = some (.next, [some (.ref H.length), some .none], mid H 1 [.none, .ref (H.length + 1), .ref (H.length + 2), .ref (H.length + 3), .ref (H.length + 4), .ref (H.length + 5)] [.list [.int 0], .list [.int 0], .list [.int (-1)], .list [.int 0], .list [.int (-1)]]) := yn (v := .ref (H.length + 5)) (zeu rfl rfl rfl) ho rfl rfl
 have s6 : zq (wv [(wv []), (wv [])]) (wm 1 6 (zd 0)) [some (.ref H.length), some .none] (mid H 1 [.none, .ref (H.length + 1), .ref (H.length + 2), .ref (H.length + 3), .ref (H.length + 4), .ref (H.length + 5)] [.list [.int 0], .list [.int 0], .list [.int (-1)], .list [.int 0], .list [.int (-1)]]) = some (.next, [some (.ref H.length), some .none], mid H 1 [.none, .ref (H.length + 1), .ref (H.length + 2), .ref (H.length + 3), .ref (H.length + 4), .ref (H.length + 5), .ref (H.length + 8)] [.list [.int 0], .list [.int 0], .list [.int (-1)], .list [.int 0], .list [.int (-1)], .list [], .list [], .list [.ref (H.length + 6), .ref (H.length + 7)]]) := yn (v := .ref (H.length + 8)) (list2' rfl rfl rfl rfl) ho rfl rfl
 have s7 : zq (we xp []) (wm 1 7 (zd 0)) [some (.ref H.length), some .none] (mid H 1 [.none, .ref (H.length + 1), .ref (H.length + 2), .ref (H.length + 3), .ref (H.length + 4), .ref (H.length + 5), .ref (H.length + 8)] [.list [.int 0], .list [.int 0], .list [.int (-1)], .list [.int 0], .list [.int (-1)], .list [], .list [], .list [.ref (H.length + 6), .ref (H.length + 7)]]) = some (.next, [some (.ref H.length), some .none], mid H 1 [.none, .ref (H.length + 1), .ref (H.length + 2), .ref (H.length + 3), .ref (H.length + 4), .ref (H.length + 5), .ref (H.length + 8), .ref (H.length + 9)] [.list [.int 0], .list [.int 0], .list [.int (-1)], .list [.int 0], .list [.int (-1)], .list [], .list [], .list [.ref (H.length + 6), .ref (H.length + 7)], .obj 0 [.int 1000000000000, .int 1024, .ref (H.length + 9 + 1), .ref (H.length + 9 + 2), .ref (H.length + 9 + 3)], .list [.int 0], .list [], .list [.int (-1)]]) := yn (v := .ref (H.length + 9)) (zqa rfl rfl) ho rfl rfl
 have s8 : zq (wv []) (wm 1 8 (zd 0)) [some (.ref H.length), some .none] (mid H 1 [.none, .ref (H.length + 1), .ref (H.length + 2), .ref (H.length + 3), .ref (H.length + 4), .ref (H.length + 5), .ref (H.length + 8), .ref (H.length + 9)] [.list [.int 0], .list [.int 0], .list [.int (-1)], .list [.int 0], .list [.int (-1)], .list [], .list [], .list [.ref (H.length + 6), .ref (H.length + 7)], .obj 0 [.int 1000000000000, .int 1024, .ref (H.length + 9 + 1), .ref (H.length + 9 + 2), .ref (H.length + 9 + 3)], .list [.int 0], .list [], .list [.int (-1)]]) = some (.next, [some (.ref H.length), some .none], mid H 1 [.none, .ref (H.length + 1), .ref (H.length + 2), .ref (H.length + 3), .ref (H.length + 4), .ref (H.length + 5), .ref (H.length + 8), .ref (H.length + 9), .ref (H.length + 13)] [.list [.int 0], .list [.int 0], .list [.int (-1)], .list [.int 0], .list [.int (-1)], .list [], .list [], .list [.ref (H.length + 6), .ref (H.length + 7)], .obj 0 [.int 1000000000000, .int 1024, .ref (H.length + 9 + 1), .ref (H.length + 9 + 2), .ref (H.length + 9 + 3)], .list [.int 0], .list [], .list [.int (-1)], .list []]) := yn (v := .ref (H.length + 13)) (zcp rfl rfl) ho rfl rfl
 have s9 : zq (wv []) (wm 1 9 (zd 0)) [some (.ref H.length), some .none] (mid H 1 [.none, .ref (H.length + 1), .ref (H.length + 2), .ref (H.length + 3), .ref (H.length + 4), .ref (H.length + 5), .ref (H.length + 8), .ref (H.length + 9), .ref (H.length + 13)] [.list [.int 0], .list [.int 0], .list [.int (-1)], .list [.int 0], .list [.int (-1)], .list [], .list [], .list [.ref (H.length + 6), .ref (H.length + 7)], .obj 0 [.int 1000000000000, .int 1024, .ref (H.length + 9 + 1), .ref (H.length + 9 + 2), .ref (H.length + 9 + 3)], .list [.int 0], .list [], .list [.int (-1)], .list []]) = some (.next, [some (.ref H.length), some .none], mid H 1 [.none, .ref (H.length + 1), .ref (H.length + 2), .ref (H.length + 3), .ref (H.length + 4), .ref (H.length + 5), .ref (H.length + 8), .ref (H.length + 9), .ref (H.length + 13), .ref (H.length + 14)] [.list [.int 0], .list [.int 0], .list [.int (-1)], .list [.int 0], .list [.int (-1)], .list [], .list [], .list [.ref (H.length + 6), .ref (H.length + 7)], .obj 0 [.int 1000000000000, .int 1024, .ref (H.length + 9 + 1), .ref (H.length + 9 + 2), .ref (H.length + 9 + 3)], .list [.int 0], .list [], .list [.int (-1)], .list [], .list []]) := yn (v := .ref (H.length + 14)) (zcp rfl rfl) ho rfl rfl
 have s10 : zq (zh (.int 0)) (wm 1 10 (zd 0)) [some (.ref H.length), some .none] (mid H 1 [.none, .ref (H.length + 1), .ref (H.length + 2), .ref (H.length + 3), .ref (H.length + 4), .ref (H.length + 5), .ref (H.length + 8), .ref (H.length + 9), .ref (H.length + 13), .ref (H.length + 14)] [.list [.int 0], .list [.int 0], .list [.int (-1)], .list [.int 0], .list [.int (-1)], .list [], .list [], .list [.ref (H.length + 6), .ref (H.length + 7)], .obj 0 [.int 1000000000000, .int 1024, .ref (H.length + 9 + 1), .ref (H.length + 9 + 2), .ref (H.length + 9 + 3)], .list [.int 0], .list [], .list [.int (-1)], .list [], .list []]) = some (.next, [some (.ref H.length), some .none], mid H 1 [.none, .ref (H.length + 1), .ref (H.length + 2), .ref (H.length + 3), .ref (H.length + 4), .ref (H.length + 5), .ref (H.length + 8), .ref (H.length + 9), .ref (H.length + 13), .ref (H.length + 14), .int 0] [.list [.int 0], .list [.int 0], .list [.int (-1)], .list [.int 0], .list [.int (-1)], .list [], .list [], .list [.ref (H.length + 6), .ref (H.length + 7)], .obj 0 [.int 1000000000000, .int 1024, .ref (H.length + 9 + 1), .ref (H.length + 9 + 2), .ref (H.length + 9 + 3)], .list [.int 0], .list [], .list [.int (-1)], .list [], .list []]) := yn (v := .int 0) (rfl) ho rfl rfl
 have s11 : zq (zh (.int 0)) (wm 1 11 (zd 0)) [some (.ref H.length), some .none] (mid H 1 [.none, .ref (H.length + 1), .ref (H.length + 2), .ref (H.length + 3), .ref (H.length + 4), .ref (H.length + 5), .ref (H.length + 8), .ref (H.length + 9), .ref (H.length + 13), .ref (H.length + 14), .int 0] [.list [.int 0], .list [.int 0], .list [.int (-1)], .list [.int 0], .list [.int (-1)], .list [], .list [], .list [.ref (H.length + 6), .ref (H.length + 7)], .obj 0 [.int 1000000000000, .int 1024, .ref (H.length + 9 + 1), .ref (H.length + 9 + 2), .ref (H.length + 9 + 3)], .list [.int 0], .list [], .list [.int (-1)], .list [], .list []]) = some (.next, [some (.ref H.length), some .none], mid H 1 [.none, .ref (H.length + 1), .ref (H.length + 2), .ref (H.length + 3), .ref (H.length + 4), .ref (H.length + 5), .ref (H.length + 8), .ref (H.length + 9), .ref (H.length + 13), .ref (H.length + 14), .int 0, .int 0] [.list [.int 0], .list [.int 0], .list [.int (-1)], .list [.int 0], .list [.int (-1)], .list [], .list [], .list [.ref (H.length + 6), .ref (H.length + 7)], .obj 0 [.int 1000000000000, .int 1024, .ref (H.length + 9 + 1), .ref (H.length + 9 + 2), .ref (H.length + 9 + 3)], .list [.int 0], .list [], .list [.int (-1)], .list [], .list []]) := yn (v := .int 0) (rfl) ho rfl rfl
 have s12 : zq (wv []) (wm 1 12 (zd 0)) [some (.ref H.length), some .none] (mid H 1 [.none, .ref (H.length + 1), .ref (H.length + 2), .ref (H.length + 3), .ref (H.length + 4), .ref (H.length + 5), .ref (H.length + 8), .ref (H.length + 9), .ref (H.length + 13), .ref (H.length + 14), .int 0, .int 0] [.list [.int 0], .list [.int 0], .list [.int (-1)], .list [.int 0], .list [.int (-1)], .list [], .list [], .list [.ref (H.length + 6), .ref (H.length + 7)], .obj 0 [.int 1000000000000, .int 1024, .ref (H.length + 9 + 1), .ref (H.length + 9 + 2), .ref (H.length + 9 + 3)], .list [.int 0], .list [], .list [.int (-1)], .list [], .list []]) = some (.next, [some (.ref H.length), some .none], mid H 1 [.none, .ref (H.length + 1), .ref (H.length + 2), .ref (H.length + 3), .ref (H.length + 4), .ref (H.length + 5), .ref (H.length + 8), .ref (H.length + 9), .ref (H.length + 13), .ref (H.length + 14), .int 0, .int 0, .ref (H.length + 15)] [.list [.int 0], .list [.int 0], .list [.int (-1)], .list [.int 0], .list [.int (-1)], .list [], .list [], .list [.ref (H.length + 6), .ref (H.length + 7)], .obj 0 [.int 1000000000000, .int 1024, .ref (H.length + 9 + 1), .ref (H.length + 9 + 2), .ref (H.length + 9 + 3)], .list [.int 0], .list [], .list [.int (-1)], .list [], .list [], .list []]) := yn (v := .ref (H.length + 15)) (zcp rfl rfl) ho rfl rfl
 have s13 : zq (wv []) (wm 1 13 (zd 0)) [some (.ref H.length), some .none] (mid H 1 [.none, .ref (H.length + 1), .ref (H.length + 2), .ref (H.length + 3), .ref (H.length + 4), .ref (H.length + 5), .ref (H.length + 8), .ref (H.length + 9), .ref (H.length + 13), .ref (H.length + 14), .int 0, .int 0, .ref (H.length + 15)] [.list [.int 0], .list [.int 0], .list [.int (-1)], .list [.int 0], .list [.int (-1)], .list [], .list [], .list [.ref (H.length + 6), .ref (H.length + 7)], .obj 0 [.int 1000000000000, .int 1024, .ref (H.length + 9 + 1), .ref (H.length + 9 + 2), .ref (H.length + 9 + 3)], .list [.int 0], .list [], .list [.int (-1)], .list [], .list [], .list []]) = some (.next, [some (.ref H.length), some .none], mid H 1 [.none, .ref (H.length + 1), .ref (H.length + 2), .ref (H.length + 3), .ref (H.length + 4), .ref (H.length + 5), .ref (H.length + 8), .ref (H.length + 9), .ref (H.length + 13), .ref (H.length + 14), .int 0, .int 0, .ref (H.length + 15), .ref (H.length + 16)] [.list [.int 0], .list [.int 0], .list [.int (-1)], .list [.int 0], .list [.int (-1)], .list [], .list [], .list [.ref (H.length + 6), .ref (H.length + 7)], .obj 0 [.int 1000000000000, .int 1024, .ref (H.length + 9 + 1), .ref (H.length + 9 + 2), .ref (H.length + 9 + 3)], .list [.int 0], .list [], .list [.int (-1)], .list [], .list [], .list [], .list []]) := yn (v := .ref (H.length + 16)) (zcp rfl rfl) ho rfl rfl
 have s14 : zq (wv []) (wm 1 14 (zd 0)) [some (.ref H.length), some .none] (mid H 1 [.none, .ref (H.length + 1), .ref (H.length + 2), .ref (H.length + 3), .ref (H.length + 4), .ref (H.length + 5), .ref (H.length + 8), .ref (H.length + 9), .ref (H.length + 13), .ref (H.length + 14), .int 0, .int 0, .ref (H.length + 15), .ref (H.length + 16)] [.list [.int 0], .list [.int 0], .list [.int (-1)], .list [.int 0], .list [.int (-1)], .list [], .list [], .list [.ref (H.length + 6), .ref (H.length + 7)], .obj 0 [.int 1000000000000, .int 1024, .ref (H.length + 9 + 1), .ref (H.length + 9 + 2), .ref (H.length + 9 + 3)], .list [.int 0], .list [], .list [.int (-1)], .list [], .list [], .list [], .list []]) = some (.next, [some (.ref H.length), some .none], mid H 1 [.none, .ref (H.length + 1), .ref (H.length + 2), .ref (H.length + 3), .ref (H.length + 4), .ref (H.length + 5), .ref (H.length + 8), .ref (H.length + 9), .ref (H.length + 13), .ref (H.length + 14), .int 0, .int 0, .ref (H.length + 15), .ref (H.length + 16), .ref (H.length + 17)] [.list [.int 0], .list [.int 0], .list [.int (-1)], .list [.int 0], .list [.int (-1)], .list [], .list [], .list [.ref (H.length + 6), .ref (H.length + 7)], .obj 0 [.int 1000000000000, .int 1024, .ref (H.length + 9 + 1), .ref (H.length + 9 + 2), .ref (H.length + 9 + 3)], .list [.int 0], .list [], .list [.int (-1)], .list [], .list [], .list [], .list [], .list []]) := yn (v := .ref (H.length + 17)) (zcp rfl rfl) ho rfl rfl
 have s15 : zq (wv []) (wm 1 15 (zd 0)) [some (.ref H.length), some .none] (mid H 1 [.none, .ref (H.length + 1), .ref (H.length + 2), .ref (H.length + 3), .ref (H.length + 4), .ref (H.length + 5), .ref (H.length + 8), .ref (H.length + 9), .ref (H.length + 13), .ref (H.length + 14), .int 0, .int 0, .ref (H.length + 15), .ref (H.length + 16), .ref (H.length + 17)] [.list [.int 0], .list [.int 0], .list [.int (-1)], .list [.int 0], .list [.int (-1)], .list [], .list [], .list [.ref (H.length + 6), .ref (H.length + 7)], .obj 0 [.int 1000000000000, .int 1024, .ref (H.length + 9 + 1), .ref (H.length + 9 + 2), .ref (H.length + 9 + 3)], .list [.int 0], .list [], .list [.int (-1)], .list [], .list [], .list [], .list [], .list []]) = some (.next, [some (.ref H.length), some .none], mid H 1 [.none, .ref (H.length + 1), .ref (H.length + 2), .ref (H.length + 3), .ref (H.length + 4), .ref (H.length + 5), .ref (H.length + 8), .ref (H.length + 9), .ref (H.length + 13), .ref (H.length + 14), .int 0, .int 0, .ref (H.length + 15), .ref (H.length + 16), .ref (H.length + 17), .ref (H.length + 18)] [.list [.int 0], .list [.int 0], .list [.int (-1)], .list [.int 0], .list [.int (-1)], .list [], .list [], .list [.ref (H.length + 6), .ref (H.length + 7)], .obj 0 [.int 1000000000000, .int 1024, .ref (H.length + 9 + 1), .ref (H.length + 9 + 2), .ref (H.length + 9 + 3)], .list [.int 0], .list [], .list [.int (-1)], .list [], .list [], .list [], .list [], .list [], .list []]) := yn (v := .ref (H.length + 18)) (zcp rfl rfl) ho rfl rfl
 have s16 : zq (zh (.int 0)) (wm 1 16 (zd 0)) [some (.ref H.length), some .none] (mid H 1 [.none, .ref (H.length + 1), .ref (H.length + 2), .ref (H.length + 3), .ref (H.length + 4), .ref (H.length + 5), .ref (H.length + 8), .ref (H.length + 9), .ref (H.length + 13), .ref (H.length + 14), .int 0, .int 0, .ref (H.length + 15), .ref (H.length + 16), .ref (H.length + 17), .ref (H.length + 18)] [.list [.int 0], .list [.int 0], .list [.int (-1)], .list [.int 0], .list [.int (-1)], .list [], .list [], .list [.ref (H.length + 6), .ref (H.length + 7)], .obj 0 [.int 1000000000000, .int 1024, .ref (H.length + 9 + 1), .ref (H.length + 9 + 2), .ref (H.length + 9 + 3)], .list [.int 0], .list [], .list [.int (-1)], .list [], .list [], .list [], .list [], .list [], .list []]) = some (.next, [some (.ref H.length), some .none], mid H 1 [.none, .ref (H.length + 1), .ref (H.length + 2), .ref (H.length + 3), .ref (H.length + 4), .ref (H.length + 5), .ref (H.length + 8), .ref (H.length + 9), .ref (H.length + 13), .ref (H.length + 14), .int 0, .int 0, .ref (H.length + 15), .ref (H.length + 16), .ref (H.length + 17), .ref (H.length + 18), .int 0] [.list [.int 0], .list [.int 0], .list [.int (-1)], .list [.int 0], .list [.int (-1)], .list [], .list [], .list [.ref (H.length + 6), .ref (H.length + 7)], .obj 0 [.int 1000000000000, .int 1024, .ref (H.length + 9 + 1), .ref (H.length + 9 + 2), .ref (H.length + 9 + 3)], .list [.int 0], .list [], .list [.int (-1)], .list [], .list [], .list [], .list [], .list [], .list []]) := yn (v := .int 0) (rfl) ho rfl rfl
 exact us rfl (lo' := [some (.ref H.length), some .none]) ((zj s0).trans ((zj s1).trans ((zj s2).trans ((zj s3).trans ((zj s4).trans ((zj s5).trans ((zj s6).trans ((zj s7).trans ((zj s8).trans ((zj s9).trans ((zj s10).trans ((zj s11).trans ((zj s12).trans ((zj s13).trans ((zj s14).trans ((zj s15).trans ((zj s16).trans rfl)))))))))))))))))
noncomputable def zqp (r : Nat) : St := [.obj 1 [.none, .ref (r + 1), .ref (r + 2), .ref (r + 3), .ref (r + 4), .ref (r + 5), .ref (r + 8), .ref (r + 9), .ref (r + 13), .ref (r + 14), .int 0, .int 0, .ref (r + 15), .ref (r + 16), .ref (r + 17), .ref (r + 18), .int 0], .list [.int 0], .list [.int 0], .list [.int (-1)], .list [.int 0], .list [.int (-1)], .list [], .list [], .list [.ref (r + 6), .ref (r + 7)], .obj 0 [.int 1000000000000, .int 1024, .ref (r + 9 + 1), .ref (r + 9 + 2), .ref (r + 9 + 3)], .list [.int 0], .list [], .list [.int (-1)], .list [], .list [], .list [], .list [], .list [], .list []]
theorem zlb (H : St) : zfg [.none] H = some (.ref H.length, H ++ zqp H.length) := by
 show (zey 1 zaf) [.none] H = _
 unfold zey
 rw [zlc]; rfl
noncomputable def t0 (r : Nat) : T := { r := r, as := [0], lv := [0], rs := [-1], sp := [0], ph := [-1], ta := r + 13, tr := [], sa := r + 14, st := [], he := 0, to := 0, W := [(r + 6, []), (r + 7, [])], C := [], x1 := [], x2 := [], x3 := [], ac := [0], hp := [], pl := [-1] }
noncomputable def kdOf : Nat → Kd
 | 0 => .obj | 1 => .as | 2 => .lv | 3 => .rs | 4 => .sp | 5 => .ph | 6 => .w 0 | 7 => .w 1 | 8 => .ws | 9 => .hob | 10 => .ac | 11 => .hp | 12 => .pl | 13 => .tr | 14 => .st | 15 => .cl | 16 => .x1 | 17 => .x2 | _ => .x3
theorem at0 {r : Nat} {k : Kd} {a : Nat} (h : (t0 r).at k = some a) : ∃ i, i < 19 ∧ a = r + i ∧ kdOf i = k ∧ (zqp r)[i]? = some ((t0 r).is k) := by
 cases k with
 | w i =>
  match i, h with
  | 0, h => exact ⟨6, by decide, (zvu.inj h).symm, rfl, by kernel_rfl⟩
  | 1, h => exact ⟨7, by decide, (zvu.inj h).symm, rfl, by kernel_rfl⟩
  | i + 2, h => cases h
 | c j => cases h
 | obj => exact ⟨0, by decide, (zvu.inj h).symm, rfl, by kernel_rfl⟩
 | as => exact ⟨1, by decide, (zvu.inj h).symm, rfl, by kernel_rfl⟩
 | lv => exact ⟨2, by decide, (zvu.inj h).symm, rfl, by kernel_rfl⟩
 | rs => exact ⟨3, by decide, (zvu.inj h).symm, rfl, by kernel_rfl⟩
 | sp => exact ⟨4, by decide, (zvu.inj h).symm, rfl, by kernel_rfl⟩
 | ph => exact ⟨5, by decide, (zvu.inj h).symm, rfl, by kernel_rfl⟩
 | ws => exact ⟨8, by decide, (zvu.inj h).symm, rfl, by kernel_rfl⟩
 | hob => exact ⟨9, by decide, (zvu.inj h).symm, rfl, by kernel_rfl⟩
 | ac => exact ⟨10, by decide, (zvu.inj h).symm, rfl, by kernel_rfl⟩
 | hp => exact ⟨11, by decide, (zvu.inj h).symm, rfl, by kernel_rfl⟩
 | pl => exact ⟨12, by decide, (zvu.inj h).symm, rfl, by kernel_rfl⟩
 | tr => exact ⟨13, by decide, (zvu.inj h).symm, rfl, by kernel_rfl⟩
 | st => exact ⟨14, by decide, (zvu.inj h).symm, rfl, by kernel_rfl⟩
 | cl => exact ⟨15, by decide, (zvu.inj h).symm, rfl, by kernel_rfl⟩
 | x1 => exact ⟨16, by decide, (zvu.inj h).symm, rfl, by kernel_rfl⟩
 | x2 => exact ⟨17, by decide, (zvu.inj h).symm, rfl, by kernel_rfl⟩
 | x3 => exact ⟨18, by decide, (zvu.inj h).symm, rfl, by kernel_rfl⟩
structure zjj (t : T) (H H' : St) : Prop where
 rep : Rep t H'
 len : H.length ≤ H'.length
 ext : ∀ a, a < H.length → H'[a]? = H[a]?
 new : ∀ k a, t.at k = some a → H.length ≤ a
theorem born0 (H : St) : zjj (t0 H.length) H (H ++ zqp H.length) := by
 refine ⟨⟨fun k a h => ?_, fun k k' a h h' => ?_⟩, by simp, fun a h => zst h, fun k a h => ?_⟩
 ·obtain ⟨i, -, rfl, -, e⟩ := at0 h
  rw [zs2 (by lia), show H.length + i - H.length = i by lia]
  exact e
 ·obtain ⟨i, -, rfl, e1, -⟩ := at0 h
  obtain ⟨j, -, e, e2, -⟩ := at0 h'
  have : i = j := by lia
  rw [← e1, ← e2, this]
 ·obtain ⟨i, -, rfl, -, -⟩ := at0 h
  lia
theorem zjj.op {t t' : T} {H H' H'' : St} (B : zjj t H H') (O : Op t H' t' H'') : zjj t' H H'' := by
 refine ⟨O.rep, zw1 B.len O.out.1, fun a h => ?_, fun k a h => ?_⟩
 ·rw [O.out.2 a (fun k e => absurd (B.new k a e) (by lia)) (zw2 h B.len), B.ext a h]
 ·rcases O.near k a h with q | ⟨k', q⟩
  ·exact zw1 B.len q
  ·exact B.new k' a q
end Mine
namespace Mine
section
variable {m n : Nat} {t t' : T} {H : St}
theorem zl8 (R : Rep t H) {k0 k1 : Kd} {a1 : Nat} {o0 o1 : MO} (hne : k0 ≠ k1) (hat0 : t'.at k0 = some H.length) (h1 : t.at k1 = some a1) (hat : ∀ k, k ≠ k0 → t'.at k = t.at k) (his : ∀ k, k ≠ k0 → k ≠ k1 → t.at k ≠ none → t'.is k = t.is k) (hr : t'.r = t.r) (e0 : t'.is k0 = o0) (e1 : t'.is k1 = o1) :
  Op t H t' ((H ++ [o0]).set a1 o1) := by
 subst e0; subst e1
 have hlt := R.lt h1
 have ne : a1 ≠ H.length := zwu hlt
 have h1' : t'.at k1 = some a1 := (hat k1 (Ne.symm hne)).trans h1
 refine ⟨⟨fun k a h => ?_, fun k2 k3 a h2 h3 => ?_⟩, ⟨by simp, fun a q1 q2 => ?_⟩, fun k a h => ?_, hr⟩
 ·by_cases e : k = k0
  ·subst e
   rw [hat0] at h; cases h
   rw [zsn ne]; simp
  ·rw [hat k e] at h
   by_cases e2 : k = k1
   ·subst e2
    rw [h1] at h; cases h
    rw [zsy (by simp; lia)]
   ·have : a1 ≠ a := fun q => e2 (R.inj k k1 a h (q ▸ h1))
    rw [zsn this, zst (R.lt h), R.at' k a h, his k e e2 (by rw [h]; exact nofun)]
 ·by_cases e1 : k2 = k0
  ·by_cases e2 : k3 = k0
   ·rw [e1, e2]
   ·subst e1
    rw [hat0] at h2; cases h2
    rw [hat k3 e2] at h3
    exact absurd (R.lt h3) (zwx _)
  ·by_cases e2 : k3 = k0
   ·subst e2
    rw [hat0] at h3; cases h3
    rw [hat k2 e1] at h2
    exact absurd (R.lt h2) (zwx _)
   ·rw [hat k2 e1] at h2; rw [hat k3 e2] at h3
    exact R.inj k2 k3 a h2 h3
 ·have : a1 ≠ a := fun q => q1 k1 (q ▸ h1)
  rw [zsn this, zst q2]
 ·by_cases e : k = k0
  ·subst e
   rw [hat0] at h; cases h
   exact .inl (zwt _)
  ·exact .inr ⟨k, (hat k e).symm.trans h⟩
theorem op_lv (R : Rep t H) (l : List Int) : Op t H (t.wLv l) (H.set (t.r + 2) (il l)) := .set (k := .lv) R rfl (fun k => by cases k <;> rfl) rfl (R.set_lv l)
theorem op_sp (R : Rep t H) (l : List Int) : Op t H (t.wSp l) (H.set (t.r + 4) (il l)) := .set (k := .sp) R rfl (fun k => by cases k <;> rfl) rfl (R.set_sp l)
theorem zrp (R : Rep t H) : Op t H (t.wW (t.W ++ [(H.length, [])])) ((H ++ [il []]).set (t.r + 8) (.list ((t.W.map fun p => MV.ref p.1) ++ [.ref H.length]))) := by
 have at0 : ({ t with W := t.W ++ [(H.length, [])] } : T).at (.w t.W.length) = some H.length := by
  show zvw _ ((t.W ++ [(H.length, [])])[t.W.length]?) = _
  simp
 have ne : ∀ i, Kd.w i ≠ .w t.W.length → (t.W ++ [(H.length, ([] : List Int))])[i]? = t.W[i]? := fun i hi => by
  have : i ≠ t.W.length := fun e => hi (by rw [e])
  by_cases h : i < t.W.length
  ·rw [zst h]
  ·rw [ztf (by simp; lia), ztf (by lia)]
 refine zl8 (t' := { t with W := t.W ++ [(H.length, [])] }) (k0 := .w t.W.length) (k1 := .ws) R (by simp) at0 rfl (fun k hk => ?_) (fun k hk h1 h2 => ?_) rfl ?_ ?_
 ·cases k <;> first | rfl | skip
  rename_i i
  show zvw _ ((t.W ++ [(H.length, [])])[i]?) = _
  rw [ne i hk]; rfl
 ·cases k <;> first | rfl | exact absurd rfl h1 | skip
  rename_i i
  show il ((zvw _ ((t.W ++ [(H.length, [])])[i]?)).getD []) = _
  rw [ne i hk]; rfl
 ·show il ((zvw _ ((t.W ++ [(H.length, [])])[t.W.length]?)).getD []) = _
  simp
 ·show MO.list ((t.W ++ [(H.length, [])]).map _) = _
  rw [zs3]; rfl
structure zh0 (m : Nat) (t : T) : Prop where
 as : t.as = zsp (m + 1) 0
 lv : t.lv = zsp (m + 1) 0
 rs : t.rs = zsp (m + 1) (-1)
 sp : t.sp = zsp (m + 1) 0
 ph : t.ph = zsp (m + 1) (-1)
 ac : t.ac = zsp (m + 1) 0
 tr : t.tr = []
 st : t.st = []
 he : t.he = 0
 C : t.C = []
 xs : t.x1 = [] ∧ t.x2 = [] ∧ t.x3 = []
 W : t.W.length = 2 * m + 2
 w0 : ∀ p ∈ t.W, p.2 = []
 hk : HOk m t.ac t.hp t.pl
 held : ∀ v : Nat, 1 ≤ v → v ≤ m → (v : Int) ∈ t.hp
theorem fresh0 (r : Nat) : zh0 0 (t0 r) := by
 refine ⟨rfl, rfl, rfl, rfl, rfl, rfl, rfl, rfl, rfl, rfl, ⟨rfl, rfl, rfl⟩, rfl, fun p hp => ?_, ⟨rfl, rfl, by decide, fun v hv => (nomatch hv), zty, (fun i v h => by simp [t0] at h), fun v h1 h2 => absurd h2 (by lia), fun i i0 im => absurd im (by simp [t0])⟩, fun v h1 h2 => absurd h2 (by lia)⟩
 rcases zss.mp hp with rfl | hp
 ·rfl
 ·rw [zsq.mp hp]
theorem zby {x : Int} : zsp (m + 1) x ++ [x] = zsp (m + 1 + 1) x := by rw [List.replicate_succ' (n := m + 1)]
theorem zp2 (R : Rep t H) (K : HOk m t.ac t.hp t.pl) (hac : t.ac = zsp (m + 1) 0) (hm : m < 10) (hh : ∀ v : Nat, 1 ≤ v → v ≤ m → (v : Int) ∈ t.hp) :
  ∃ H' hp' pl', u0 [.ref (t.r + 9), .int (m + 1 : Nat)] H = some (.none, H') ∧ Op t H { t with ac := zsp (m + 1 + 1) 0, hp := hp', pl := pl' } H' ∧ HOk (m + 1) (zsp (m + 1 + 1) 0) hp' pl' ∧ ∀ v : Nat, 1 ≤ v → v ≤ m + 1 → (v : Int) ∈ hp' := by
 have many : ∀ {t1 : T} {H1 : St}, Rep t1 H1 → t1.r = t.r → t1.ac.length ≤ 100 → qk [.ref (t.r + 9)] H1 = some (.int ((t1.ac.length : Int) - 1), H1) := fun {t1 H1} R1 er hl => by
  have e := jh (f := zp 0 2 (zd 0)) (lo := [some (.ref (t.r + 9))]) (H := H1) (R1.hattr rfl (by rw [er]; rfl) rfl) (R1.at' .ac _ rfl) (by rw [zsk]; lia)
  rw [zsk] at e
  exact y8 rfl (lo' := [some (.ref (t.r + 9))]) (wq (qc (vy e rfl)))
 have acl : t.ac.length = m + 1 := K.aclen
 have hl := zdv K.rng K.nd
 have test : ∀ {t1 : T} {H1 : St} {k : Nat}, Rep t1 H1 → t1.r = t.r → t1.ac.length = k + 1 → k ≤ 20 → z9 .Lt (z5 0 qk (zd 0) []) (zd 1) [some (.ref (t.r + 9)), some (.int (m + 1 : Nat))] H1 = some (decide (k < m + 1), H1) := fun {t1 H1 k} R1 er ek hk => by
  refine (wi (op := .Lt) ((qf (F := qk) (f := zd 0) (a := t.r + 9) rfl (by rw [← er]; exact R1.at' .hob _ rfl)).trans (many R1 er (by lia))) (g := zd 1) (y := .int (m + 1 : Nat)) rfl (b := decide ((t1.ac.length : Int) - 1 < (m + 1 : Nat))) rfl).trans ?_
  rw [decide_eq_decide.mpr (show (t1.ac.length : Int) - 1 < (m + 1 : Nat) ↔ k < m + 1 by rw [ek]; lia)]
 have s1 := qu (f := zp 0 2 (zd 0)) (g := zh (.int 0)) (lo := [some (.ref (t.r + 9)), some (.int (m + 1 : Nat))]) (H := H) (v := .int 0) (R.hattr rfl rfl rfl) rfl ⟨_, R.at' .ac _ rfl⟩ (R.at' .ac _ rfl) (by rw [zsk]; lia)
 rw [ky, hac, zby] at s1
 have O1 := op_ac R (zsp (m + 1 + 1) 0)
 generalize H.set (t.r + 10) (il (zsp (m + 1 + 1) 0)) = H1 at s1 O1
 have s2 := qu (f := zp 0 4 (zd 0)) (g := uf (zh (.int 1))) (lo := [some (.ref (t.r + 9)), some (.int (m + 1 : Nat))]) (H := H1) (v := .int (-1)) (O1.rep.hattr rfl rfl rfl) rfl ⟨_, O1.rep.at' .pl _ rfl⟩ (O1.rep.at' .pl _ rfl) (by rw [zsk]; show t.pl.length ≤ _; rw [K.pllen]; lia)
 rw [ky] at s2
 have O2 := O1.trans (zo3 O1.rep (t.pl ++ [-1]))
 change wh _ _ H1 = some (.next, _, H1.set (t.r + 12) (il (t.pl ++ [-1]))) at s2
 generalize H1.set (t.r + 12) (il (t.pl ++ [-1])) = H2 at s2 O2
 have kk : ∀ v : Int, key (zsp (m + 1 + 1) 0) v = -v := fun v => by
  unfold key
  rw [zsz, zt2]
  split
  ·show (0 : Int) * 1000 - v = _; lia
  ·show (0 : Int) * 1000 - v = _; lia
 have k0 : ∀ v : Int, key t.ac v = -v := fun v => by
  rw [hac]
  unfold key
  rw [zsz, zt2]
  split
  ·show (0 : Int) * 1000 - v = _; lia
  ·show (0 : Int) * 1000 - v = _; lia
 have K2 : HOk (m + 1) (zsp (m + 1 + 1) 0) t.hp (t.pl ++ [-1]) := by
  refine ⟨by simp, by rw [zs1, K.pllen]; rfl, by lia, fun v hv => by have := K.rng v hv; lia, K.nd, fun i v h => ?_, fun v h1 h2 h3 => ?_, fun i i0 im => ?_⟩
  ·have := K.rng v (zsm h)
   rw [zst (by rw [K.pllen]; lia)]
   exact K.on i v h
  ·by_cases e : v = m + 1
   ·subst e
    rw [zs2 (by rw [K.pllen]; assumption), K.pllen, zww]; rfl
   ·rw [zst (by rw [K.pllen]; lia)]
    exact K.off v h1 (by lia) h3
  ·show key _ _ ≤ key _ _
   have := K.ord i i0 im
   have this' : key t.ac (t.hp.getD i 0) ≤ key t.ac (t.hp.getD ((i - 1) / 2) 0) := this
   rw [k0, k0] at this'
   rw [kk, kk]; exact this'
 have e3 := many O2.rep rfl (by show (zsp (m + 1 + 1) (0 : Int)).length ≤ 100; simp; lia)
 change qk [.ref (t.r + 9)] H2 = some (.int (((zsp (m + 1 + 1) (0 : Int)).length : Int) - 1), H2) at e3
 rw [zux, show (((m + 1 + 1 : Nat) : Int) - 1) = ((m + 1 : Nat) : Int) by lia] at e3
 refine zvt fun hq0 => ?_
 obtain ⟨H3, hp3, pl3, e4, O3, K3, p3⟩ := zmx (t := { t with ac := zsp (m + 1 + 1) 0, pl := t.pl ++ [-1] }) (n := m + 1) (v := ((m + 1 : Nat) : Int)) O2.rep K2 (by lia) (by lia)
 have O23 := O2.trans O3
 have body : xd [some (.ref (t.r + 9)), some (.int (m + 1 : Nat))] H = some (.next, [some (.ref (t.r + 9)), some (.int (m + 1 : Nat))], H3) := by
  refine (zj s1).trans ((zj s2).trans ((zj (qj (v := .none) ?_)).trans rfl))
  exact (yu (F := gn) (f := zd 0) rfl (O2.rep.at' .hob _ rfl) ((qf (F := qk) (f := zd 0) rfl (O2.rep.at' .hob _ rfl)).trans e3)).trans e4
 have lp : vm (z9 .Lt (z5 0 qk (zd 0) []) (zd 1)) xd (198 + 1 + 1) [some (.ref (t.r + 9)), some (.int (m + 1 : Nat))] H = some (.next, [some (.ref (t.r + 9)), some (.int (m + 1 : Nat))], H3) := by
  unfold vm
  rw [test R rfl acl (by lia)]
  dsimp only [bnd]
  rw [if_pos (by simp), body]
  dsimp only [after]
  unfold vm
  rw [test O23.rep rfl (k := m + 1) (by show (zsp (m + 1 + 1) (0 : Int)).length = _; simp) (by lia)]
  dsimp only [bnd]
  rw [if_neg (by simp)]
 refine hq0 ?_
 refine ⟨H3, hp3, pl3, us rfl ((zj lp).trans rfl), O23, K3, fun v h1 h2 => ?_⟩
 have p3' : (v : Int) ∈ hp3 ↔ (v : Int) ∈ t.hp ∨ (v : Int) = ((m + 1 : Nat) : Int) := p3 v
 rw [p3']
 by_cases e : v = m + 1
 ·exact .inr (by lia)
 ·exact .inl (hh v h1 (by lia))
end
end Mine
namespace Mine
section
variable {m n : Nat} {t t' : T} {H : St}
theorem zhu {k : Kd} {a j : Nat} {l : List Int} {x : Int} {g : DE} {lo : Lo} (R : Rep t H) (ha : t.at k = some a) (hi : t.is k = il l) (hj : ∀ t' : T, t'.r = t.r → zp 1 j (zd 0) lo H = some (.ref a, H)) (hg : g lo H = some (.int x, H)) (hs : l.length ≤ 1000)
  (hO : Op t H t' (H.set a (il (l ++ [x])))) : ∃ H', wh (yj Mine.m.append (zp 1 j (zd 0)) [g]) lo H = some (.next, lo, H') ∧ Op t H t' H' := by
 have hh : H[a]? = some (il l) := (R.at' k a ha).trans (congrArg some hi)
 have s := qu (f := zp 1 j (zd 0)) (g := g) (lo := lo) (H := H) (hj t rfl) hg ⟨_, hh⟩ hh (by rw [zsk]; omega)
 rw [ky] at s
 exact ⟨_, s, hO⟩
theorem zrz (R : Rep t H) (F : zh0 m t) (hm : m < 10) : ∃ t' H', zag [.ref t.r] H = some (.int (m + 1 : Nat), H') ∧ Op t H t' H' ∧ zh0 (m + 1) t' := by
 have lr : ∀ {l : List Int} {x : Int}, l = zsp (m + 1) x → l.length = m + 1 := fun {l x} e => by rw [e, zux]
 have s0 := jh (f := zp 1 1 (zd 0)) (lo := [some (.ref t.r), none]) (H := H) (R.attr rfl rfl rfl) (R.at' .as _ rfl) (by rw [zsk, lr F.as]; omega)
 rw [zsk, lr F.as] at s0
 refine zvt fun hq0 => ?_
 obtain ⟨H1, s1, O1⟩ := zhu (k := .as) (j := 1) (l := t.as) (x := 0) (g := zh (.int 0)) (lo := [some (.ref t.r), some (.int (m + 1 : Nat))]) R rfl rfl (fun _ _ => R.attr rfl rfl rfl) rfl (by rw [lr F.as]; omega) (op_as R (t.as ++ [0]))
 obtain ⟨H2, s2, O2⟩ := zhu (k := .lv) (j := 2) (l := t.lv) (x := 0) (g := zh (.int 0)) (lo := [some (.ref t.r), some (.int (m + 1 : Nat))]) O1.rep rfl rfl (fun _ _ => O1.rep.attr rfl rfl rfl) rfl (by rw [lr F.lv]; omega) (op_lv O1.rep (t.lv ++ [0]))
 have O2 := O1.trans O2
 obtain ⟨H3, s3, O3⟩ := zhu (k := .rs) (j := 3) (l := t.rs) (x := -1) (g := zh (.int (-1))) (lo := [some (.ref t.r), some (.int (m + 1 : Nat))]) O2.rep rfl rfl (fun _ _ => O2.rep.attr rfl rfl rfl) rfl (by rw [lr F.rs]; omega) (op_rs O2.rep (t.rs ++ [-1]))
 have O3 := O2.trans O3
 obtain ⟨H4, s4, O4⟩ := zhu (k := .sp) (j := 4) (l := t.sp) (x := 0) (g := zh (.int 0)) (lo := [some (.ref t.r), some (.int (m + 1 : Nat))]) O3.rep rfl rfl (fun _ _ => O3.rep.attr rfl rfl rfl) rfl (by rw [lr F.sp]; omega) (op_sp O3.rep (t.sp ++ [0]))
 have O4 := O3.trans O4
 obtain ⟨H5, s5, O5⟩ := zhu (k := .ph) (j := 5) (l := t.ph) (x := -1) (g := zh (.int (-1))) (lo := [some (.ref t.r), some (.int (m + 1 : Nat))]) O4.rep rfl rfl (fun _ _ => O4.rep.attr rfl rfl rfl) rfl (by rw [lr F.ph]; omega) (op_ph O4.rep (t.ph ++ [-1]))
 have O5 := O4.trans O5
 have w1 : ∀ {t1 : T} {H1 : St}, Rep t1 H1 → t1.r = t.r → t1.W.length ≤ 100 → ∃ H', wh (yj Mine.m.append (zp 1 6 (zd 0)) [(wv [])]) [some (.ref t.r), some (.int (m + 1 : Nat))] H1 = some (.next, [some (.ref t.r), some (.int (m + 1 : Nat))], H') ∧ Op t1 H1 (t1.wW (t1.W ++ [(H1.length, [])])) H' := fun {t1 H1} R1 er hl => by
  have s := qu (f := zp 1 6 (zd 0)) (g := wv []) (lo := [some (.ref t.r), some (.int (m + 1 : Nat))]) (H := H1) (H1 := H1 ++ [il []]) (v := .ref H1.length) (a := t1.r + 8) (R1.attr rfl (by rw [er]; rfl) rfl) rfl ⟨_, R1.at' .ws _ rfl⟩ (R1.app.at' .ws _ rfl) (by rw [zsk]; omega)
  exact ⟨_, s, zrp R1⟩
 obtain ⟨H6, s6, O6⟩ := w1 O5.rep rfl (by show t.W.length ≤ 100; rw [F.W]; omega)
 have O6' := O5.trans O6
 obtain ⟨H7, s7, O7⟩ := w1 O6'.rep rfl (by show (t.W ++ [_]).length ≤ 100; rw [zs1, F.W]; simp; omega)
 have O7' := O6'.trans O7
 obtain ⟨H8, hp8, pl8, e8, O8, K8, h8⟩ := zp2 (m := m) O7'.rep F.hk F.ac hm F.held
 refine hq0 ?_
 refine ⟨_, H8, y8 rfl (lo' := [some (.ref t.r), some (.int (m + 1 : Nat))]) ?_, O7'.trans O8, ?_⟩
 ·refine (zj (wc s0 (by simp))).trans ((zj s1).trans ((zj s2).trans ((zj s3).trans ((zj s4).trans ((zj s5).trans ((zj s6).trans ((zj s7).trans ((zj (qj (v := .none) ?_)).trans (wq (qc rfl))))))))))
  exact (yu (F := u0) (f := zp 1 7 (zd 0)) (O7'.rep.attr rfl rfl rfl) (O7'.rep.at' .hob _ rfl) rfl).trans e8
 ·refine ⟨?_, ?_, ?_, ?_, ?_, rfl, F.tr, F.st, F.he, F.C, F.xs, ?_, ?_, K8, h8⟩
  ·show t.as ++ [0] = _; rw [F.as, zby]
  ·show t.lv ++ [0] = _; rw [F.lv, zby]
  ·show t.rs ++ [-1] = _; rw [F.rs, zby]
  ·show t.sp ++ [0] = _; rw [F.sp, zby]
  ·show t.ph ++ [-1] = _; rw [F.ph, zby]
  ·show ((t.W ++ [_]) ++ [_]).length = _
   rw [zs1, zs1, F.W]; simp; omega
  ·intro p hp
   have hp' : p ∈ (t.W ++ [(H5.length, ([] : List Int))]) ++ [(H6.length, [])] := hp
   rcases zs0.mp hp' with q | q
   ·rcases zs0.mp q with q | q
    ·exact F.w0 p q
    ·rw [zsq.mp q]
   ·rw [zsq.mp q]
theorem zpn {x : Int} {i : Nat} (h : i < m + 1) : (zsp (m + 1) x).getD i 0 = x := by rw [zsz, zt2, if_pos h]; rfl
theorem zh0.stl (F : zh0 n t) (h1 : 1 ≤ n) (h6 : n ≤ 6) : Stl n [] t := by
 have lr : ∀ {l : List Int} {x : Int}, l = zsp (n + 1) x → l.length = n + 1 := fun {l x} e => by rw [e, zux]
 have g0 : ∀ v : Nat, v ≤ n → t.as.getD v 0 = 0 := fun v hv => by rw [F.as]; exact zpn (by omega)
 refine ⟨⟨lr F.as, h1, h6, ⟨by rw [lr F.lv, lr F.as], by rw [lr F.rs, lr F.as], by rw [lr F.sp, lr F.as], by rw [lr F.as]; omega, by rw [F.tr]; simp, by rw [F.st]; simp⟩, lr F.ph, F.W, by rw [F.C]; rfl, fun j c0 h => (by simp at h), fun l l1 l2 => ?_, fun l hl => by rw [F.tr] at hl; (nomatch hl), by rw [F.tr]; simp, fun i l h => by rw [F.tr] at h; simp at h, fun v v1 v2 _ => ?_, fun i l h => by rw [F.tr] at h; simp at h, fun l l1 l2 => ?_, fun q hq => by rw [F.st] at hq; (nomatch hq), by rw [F.st]; exact .nil, fun q hq => by rw [F.st] at hq; (nomatch hq), ?_⟩, F.hk, fun v v1 v2 _ => F.held v v1 v2, by rw [F.he, F.tr]; rfl, fun j x y r h => ?_⟩
 ·rw [F.tr, if_neg (by simp), if_neg (by simp)]
  unfold T.val
  split
  ·exact g0 _ (by omega)
  ·rw [g0 _ (by omega)]; rfl
 ·rw [F.rs, zt2, if_pos (by omega)]
 ·have hi : (plc l).toNat < t.W.length := by
   rw [F.W]; unfold plc; split <;> omega
  have e := zsv hi
  generalize t.W[(plc l).toNat] = p at e
  obtain ⟨b, ns⟩ := p
  have := F.w0 _ (zsm e)
  have this' : ns = [] := this
  subst this'
  refine ⟨b, [], e, zty, fun x => ⟨(fun q => nomatch q), fun ⟨j, _, a, b, r, e, _⟩ => ?_⟩⟩
  unfold T.ls at e
  rw [F.C] at e; simp at e
 ·rw [F.as, zt2, if_pos (by omega)]
 ·unfold T.ls at h
  rw [F.C] at h; simp at h
end
end Mine
namespace Mine
structure zpc (n : Nat) (lots : List (List Int)) (t : T) : Prop where
 s : Stl n lots t
 tr : t.tr = []
 st : t.st = []
 ph : t.ph = zsp (n + 1) (-1)
 ac : t.ac = zsp (n + 1) 0
 xs : t.x1.length = lots.length ∧ t.x2.length = lots.length ∧ t.x3.length = lots.length
section
variable {n : Nat} {lots : List (List Int)} {t t' t2 : T} {H : St} {c0 : List Int}
theorem zhe {α : Type} {C : List α} {x : α} {i : Nat} (h : i ≠ C.length) : (C ++ [x])[i]? = C[i]? := by
 by_cases q : i < C.length
 ·rw [zst q]
 ·rw [ztf (by simp; lia), ztf (by lia)]
theorem za3 {α : Type} {C K : List α} {x : α} {i : Nat} (h : C[i]? = some x) : (C ++ K)[i]? = some x := by rw [zst (zsl.mp h).1]; exact h
theorem zrq (R : Rep t H) (c : List Int) : Op t H { t with C := t.C ++ [some (H.length, c)] } ((H ++ [il c]).set (t.r + 15) (.list (t.C.map zaw ++ [.ref H.length]))) := by
 have ne : ∀ i, Kd.c i ≠ .c t.C.length → (t.C ++ [some (H.length, c)])[i]? = t.C[i]? := fun i hi => zhe fun e => hi (by rw [e])
 refine zl8 (t' := { t with C := t.C ++ [some (H.length, c)] }) (k0 := .c t.C.length) (k1 := .cl) R (by simp) ?_ rfl (fun k hk => ?_) (fun k hk h1 h2 => ?_) rfl ?_ ?_
 ·show zvw _ ((t.C ++ [some (H.length, c)])[t.C.length]?.join) = _
  simp
 ·cases k <;> first | rfl | skip
  rename_i i
  show zvw _ ((t.C ++ [some (H.length, c)])[i]?.join) = _
  rw [ne i hk]; rfl
 ·cases k <;> first | rfl | exact absurd rfl h1 | skip
  rename_i i
  show il ((zvw _ ((t.C ++ [some (H.length, c)])[i]?.join)).getD []) = _
  rw [ne i hk]; rfl
 ·show il ((zvw _ ((t.C ++ [some (H.length, c)])[t.C.length]?.join)).getD []) = _
  simp
 ·show MO.list ((t.C ++ [some (H.length, c)]).map _) = _
  rw [zs3]; rfl
theorem zre {α : Type} {C : List α} {x : α} {j i : Nat} (h : i ≠ j) : (C.set j x)[i]? = C[i]? := zsn (Ne.symm h)
theorem zro (R : Rep t H) {j : Nat} (hj : j < t.C.length) (c : List Int) : Op t H { t with C := t.C.set j (some (H.length, c)) } ((H ++ [il c]).set (t.r + 15) (.list ((t.C.map zaw).set j (.ref H.length)))) := by
 have ne : ∀ i, Kd.c i ≠ .c j → (t.C.set j (some (H.length, c)))[i]? = t.C[i]? := fun i hi => zre fun e => hi (by rw [e])
 have at' : (t.C.set j (some (H.length, c)))[j]? = some (some (H.length, c)) := zsy hj
 refine zl8 (t' := { t with C := t.C.set j (some (H.length, c)) }) (k0 := .c j) (k1 := .cl) R (by simp) ?_ rfl (fun k hk => ?_) (fun k hk h1 h2 => ?_) rfl ?_ ?_
 ·show zvw _ ((t.C.set j (some (H.length, c)))[j]?.join) = _
  rw [at']; rfl
 ·cases k <;> first | rfl | skip
  rename_i i
  show zvw _ ((t.C.set j (some (H.length, c)))[i]?.join) = _
  rw [ne i hk]; rfl
 ·cases k <;> first | rfl | exact absurd rfl h1 | skip
  rename_i i
  show il ((zvw _ ((t.C.set j (some (H.length, c)))[i]?.join)).getD []) = _
  rw [ne i hk]; rfl
 ·show il ((zvw _ ((t.C.set j (some (H.length, c)))[j]?.join)).getD []) = _
  rw [at']; rfl
 ·show MO.list ((t.C.set j (some (H.length, c))).map _) = _
  rw [zt7]; rfl
theorem op_x1 (R : Rep t H) (l : List MV) : Op t H (t.wX1 l) (H.set (t.r + 16) (.list l)) := .set (k := .x1) R rfl (fun k => by cases k <;> rfl) rfl (R.set_x1 l)
theorem op_x2 (R : Rep t H) (l : List MV) : Op t H (t.wX2 l) (H.set (t.r + 17) (.list l)) := .set (k := .x2) R rfl (fun k => by cases k <;> rfl) rfl (R.set_x2 l)
theorem op_x3 (R : Rep t H) (l : List MV) : Op t H (t.wX3 l) (H.set (t.r + 18) (.list l)) := .set (k := .x3) R rfl (fun k => by cases k <;> rfl) rfl (R.set_x3 l)
theorem zm1 (R : Rep t H) {i a : Nat} {ns : List Int} (h : t.W[i]? = some (a, ns)) (x : Int) : Op t H (t.addW i x) (H.set a (il (ns ++ [x]))) :=
 .set (k := .w i) R (T.at_w h) zji rfl (R.upd _ (T.at_w h) (fun k => zji k) (fun k hk => znk k hk) (zk4 h))
noncomputable abbrev T.stored (t : T) (K : Nat) (c : List Int) : T := { t with C := t.C ++ [some (K, c)], x1 := t.x1 ++ [.none], x2 := t.x2 ++ [.bool false], x3 := t.x3 ++ [.int 0] }
theorem znq (R : Rep t H) (hC : t.C.length ≤ 100) (hx : t.x1.length ≤ 100 ∧ t.x2.length ≤ 100 ∧ t.x3.length ≤ 100) {ca : Nat} (hc : H[ca]? = some (il c0)) (hl : c0.length ≤ 100) :
  ∃ H', ux [.ref t.r, .ref ca, .none, .bool false] H = some (.int t.C.length, H') ∧ Op t H (t.stored H.length c0) H' := by
 have s1 := jh (f := zp 1 12 (zd 0)) (lo := [some (.ref t.r), some (.ref ca), some .none, some (.bool false), none]) (H := H) (R.attr rfl rfl rfl) (R.at' .cl _ rfl) (by rw [zsk]; lia)
 rw [zsk] at s1
 have e2 : z4 b.list [zd 1] [some (.ref t.r), some (.ref ca), some .none, some (.bool false), some (.int t.C.length)] H = some (.ref H.length, H ++ [il c0]) := by
  unfold z4
  rw [um (v := .ref ca) rfl]
  dsimp only [bnd]
  rw [list_of hc (zbx (by rw [zsk]; lia))]
 have s2 := qu (f := zp 1 12 (zd 0)) (g := z4 b.list [zd 1]) (lo := [some (.ref t.r), some (.ref ca), some .none, some (.bool false), some (.int t.C.length)]) (H := H) (a := t.r + 15) (R.attr rfl rfl rfl) e2 ⟨_, R.at' .cl _ rfl⟩ (R.app.at' .cl _ rfl) (by rw [zsk]; lia)
 have O2 := zrq R c0
 generalize (H ++ [il c0]).set (t.r + 15) (.list (t.C.map zaw ++ [.ref H.length])) = H2 at s2 O2
 have s3 := qu (f := zp 1 13 (zd 0)) (g := zd 2) (lo := [some (.ref t.r), some (.ref ca), some .none, some (.bool false), some (.int t.C.length)]) (H := H2) (v := .none) (O2.rep.attr rfl rfl rfl) rfl ⟨_, O2.rep.at' .x1 _ rfl⟩ (O2.rep.at' .x1 _ rfl) (by show t.x1.length ≤ _; lia)
 have O3 := O2.trans (op_x1 O2.rep (t.x1 ++ [.none]))
 change wh _ _ H2 = some (.next, _, H2.set (t.r + 16) (.list (t.x1 ++ [.none]))) at s3
 generalize H2.set (t.r + 16) (.list (t.x1 ++ [.none])) = H3 at s3 O3
 have s4 := qu (f := zp 1 14 (zd 0)) (g := zd 3) (lo := [some (.ref t.r), some (.ref ca), some .none, some (.bool false), some (.int t.C.length)]) (H := H3) (v := .bool false) (O3.rep.attr rfl rfl rfl) rfl ⟨_, O3.rep.at' .x2 _ rfl⟩ (O3.rep.at' .x2 _ rfl) (by show t.x2.length ≤ _; lia)
 have O4 := O3.trans (op_x2 O3.rep (t.x2 ++ [.bool false]))
 change wh _ _ H3 = some (.next, _, H3.set (t.r + 17) (.list (t.x2 ++ [.bool false]))) at s4
 generalize H3.set (t.r + 17) (.list (t.x2 ++ [.bool false])) = H4 at s4 O4
 have s5 := qu (f := zp 1 15 (zd 0)) (g := zh (.int 0)) (lo := [some (.ref t.r), some (.ref ca), some .none, some (.bool false), some (.int t.C.length)]) (H := H4) (v := .int 0) (O4.rep.attr rfl rfl rfl) rfl ⟨_, O4.rep.at' .x3 _ rfl⟩ (O4.rep.at' .x3 _ rfl) (by show t.x3.length ≤ _; lia)
 have O5 := O4.trans (op_x3 O4.rep (t.x3 ++ [.int 0]))
 change wh _ _ H4 = some (.next, _, H4.set (t.r + 18) (.list (t.x3 ++ [.int 0]))) at s5
 refine ⟨_, y8 rfl (lo' := [some (.ref t.r), some (.ref ca), some .none, some (.bool false), some (.int t.C.length)]) ?_, O5⟩
 exact (zj (wc s1 (by simp))).trans ((zj s2).trans ((zj s3).trans ((zj s4).trans ((zj s5).trans ((zj ((yw (uj (f := zd 3) (b := false) rfl)).trans rfl)).trans (wq (qc (f := zd 4) (v := .int t.C.length) rfl)))))))
theorem zjb {α : Type} {W : List α} {f : α → α} {i k : Nat} : (W.modify i f)[k]? = if i = k then (W[k]?).map f else W[k]? := by
 rw [ztg]
 by_cases h : i = k
 ·simp [h]
 ·simp [h]
theorem TI.add (I : TI n lots t) (htr : t.tr = []) (hst : t.st = []) {x y : Int} {rest : List Int} (hp : (x :: y :: rest).Perm c0) (hx : 1 ≤ x.natAbs ∧ x.natAbs ≤ n) (hy : 1 ≤ y.natAbs ∧ y.natAbs ≤ n) (hxy : x ≠ y) {K : Nat} (e1 : t2.as = t.as ∧ t2.lv = t.lv ∧ t2.rs = t.rs ∧ t2.sp = t.sp ∧ t2.ph = t.ph) (e2 : t2.tr = t.tr ∧ t2.st = t.st)
  (eC : t2.C = t.C ++ [some (K, x :: y :: rest)]) (eW : t2.W = ((t.W.modify (plc x).toNat fun p => (p.1, p.2 ++ [(t.C.length : Int)])).modify (plc y).toNat fun p => (p.1, p.2 ++ [(t.C.length : Int)]))) : TI n (lots ++ [c0]) t2 := by
 refine zvt fun hq0 => ?_
 obtain ⟨q1, q2, q3, q4, q5⟩ := e1
 obtain ⟨p1, p2⟩ := e2
 have no : ∀ l : Int, l ∉ t2.tr := fun l h => by rw [p1, htr] at h; (nomatch h)
 have hls : t2.ls = t.ls ++ [some (x :: y :: rest)] := by unfold T.ls; rw [eC, zs3]; rfl
 have ll : t.ls.length = t.C.length := by unfold T.ls; rw [zsk]
 have wat : ∀ z l, Wat t2.ls z l ↔ Wat t.ls z l ∨ (z = (t.C.length : Int) ∧ (x = l ∨ y = l)) := fun z l => by
  rw [hls]
  constructor
  ·rintro ⟨j, rfl, a, b, r, e, hl⟩
   by_cases h : j = t.C.length
   ·subst h
    rw [← ll, zs2 (zwt _), zww] at e
    cases e
    exact .inr ⟨rfl, hl⟩
   ·rw [zhe (by rw [ll]; exact h)] at e
    exact .inl ⟨j, rfl, a, b, r, e, hl⟩
  ·rintro (⟨j, rfl, a, b, r, e, hl⟩ | ⟨rfl, hl⟩)
   ·exact ⟨j, rfl, a, b, r, za3 e, hl⟩
   ·refine ⟨t.C.length, rfl, x, y, rest, ?_, hl⟩
    rw [← ll, zs2 (zwt _), zww]; rfl
 have old : ∀ l, ¬ Wat t.ls (t.C.length : Int) l := fun l ⟨j, e, a, b, r, e2, _⟩ => by
  have := (zsl.mp e2).1
  rw [ll] at this; lia
 refine hq0 ?_
 refine ⟨by rw [q1]; exact I.as, I.n1, I.n6, ⟨by rw [q1, q2]; exact I.len.lv, by rw [q1, q3]; exact I.len.rs, by rw [q1, q4]; exact I.len.sp, by rw [q1]; exact I.len.as, by rw [p1]; exact I.len.tr, by rw [p2]; exact I.len.st⟩, by rw [q5]; exact I.ph, by rw [eW, zuy, zuy]; exact I.W, by rw [eC, zs1, zs1, I.C]; rfl, fun j d h => ?_,
  fun l h1 h2 => ?_, fun l hl => absurd hl (no l), by rw [p1]; exact I.ndo, fun i l h => absurd (zsm h) (no l), fun v v1 v2 hv => by rw [q3]; rw [q1] at hv; exact I.unk v v1 v2 hv, fun i l h => absurd (zsm h) (no l), fun l h1 h2 => ?_, fun q hq => by rw [p2, hst] at hq; (nomatch hq), by rw [p2]; exact I.st, fun q hq => by rw [p2, hst] at hq; (nomatch hq), by rw [q1]; exact I.a0⟩
 ·by_cases hj : j = lots.length
  ·subst hj
   rw [zs2 (zwt _), zww] at h
   cases h
   exact ⟨K, _, by rw [eC, ← I.C, zs2 (zwt _), zww]; rfl, hp⟩
  ·rw [zhe hj] at h
   obtain ⟨a, c, e, p⟩ := I.cl j d h
   exact ⟨a, c, by rw [eC]; exact za3 e, p⟩
 ·have := I.val l h1 h2
  unfold T.val at this ⊢
  rw [q1, p1]; exact this
 ·obtain ⟨b, ns, e, nd, hns⟩ := I.wat l h1 h2
  have hn : (t.C.length : Int) ∉ ns := fun q => old l ((hns _).mp q)
  have two : ∀ ns' : List Int, (ns' = ns ∧ x ≠ l ∧ y ≠ l) ∨ (ns' = ns ++ [(t.C.length : Int)] ∧ (x = l ∨ y = l)) → ns'.Nodup ∧ ∀ z, z ∈ ns' ↔ Wat t2.ls z l := fun ns' h => by
   rcases h with ⟨rfl, n1, n2⟩ | ⟨rfl, hl⟩
   ·refine ⟨nd, fun z => ?_⟩
    rw [wat, hns]
    exact ⟨.inl, fun q => q.elim id fun ⟨_, q⟩ => q.elim (fun q => absurd q n1) fun q => absurd q n2⟩
   ·refine ⟨?_, fun z => ?_⟩
    ·rw [zte]
     exact ⟨nd, by simp, fun a ha b hb e => hn (by rw [zsq.mp hb] at e; exact e ▸ ha)⟩
    ·rw [wat, zs0, hns, zsq]
     exact ⟨fun q => q.imp id fun q => ⟨q, hl⟩, fun q => q.imp id fun q => q.1⟩
  rw [eW, zjb, zjb, e]
  by_cases k1 : x = l
  ·have k2 : ¬ (plc y).toNat = (plc l).toNat := fun q => hxy (k1.trans (zcn q hy.1 h1).symm)
   rw [if_neg k2, if_pos (by rw [k1])]
   obtain ⟨r1, r2⟩ := two (ns ++ [(t.C.length : Int)]) (.inr ⟨rfl, .inl k1⟩)
   exact ⟨b, _, rfl, r1, r2⟩
  ·have k1' : ¬ (plc x).toNat = (plc l).toNat := fun q => k1 (zcn q hx.1 h1)
   by_cases k2 : y = l
   ·rw [if_pos (by rw [k2]), if_neg k1']
    obtain ⟨r1, r2⟩ := two (ns ++ [(t.C.length : Int)]) (.inr ⟨rfl, .inr k2⟩)
    exact ⟨b, _, rfl, r1, r2⟩
   ·rw [if_neg (fun q => k2 (zcn q hy.1 h1)), if_neg k1']
    obtain ⟨r1, r2⟩ := two ns (.inl ⟨rfl, k1, k2⟩)
    exact ⟨b, _, rfl, r1, r2⟩
end
end Mine
namespace Mine
section
variable {n : Nat} {lots : List (List Int)} {t t' t2 : T} {H : St} {c0 : List Int}
noncomputable def zqw : MV → Int
 | .int i => i
 | _ => 0
theorem zn0 {l : List MV} {c : List Int} (h : l.Perm (c.map .int)) : ∃ c1 : List Int, l = c1.map .int ∧ c1.Perm c := by
 refine ⟨l.map zqw, ?_, ?_⟩
 ·rw [ztc]
  refine (zvs (fun x => rfl) l).symm.trans (zt5 fun x hx => ?_)
  obtain ⟨i, _, rfl⟩ := zso.mp (h.mem_iff.mp hx)
  rfl
 ·have := h.map zqw
  rw [ztc] at this
  have e : c.map (zqw ∘ MV.int) = c := zvs (fun x => rfl) c
  rwa [e] at this
theorem zfq {b tup : Bool} {g : MV → St → Option (MV × St)} {c : List Int} {H : St} (kf : Int → MV) (zf : Int → List Int) (hl : c.length ≤ 3) (hg : ∀ l ∈ c, g (.int l) H = some (kf l, H)) (hz : ∀ l ∈ c, zo9 tup (kf l) = some (zf l)) :
  ∃ c1 : List Int, xy b tup g (c.map .int) H = some (c1.map .int) ∧ c1.Perm c := by
 have k1 : ∀ {c : List Int}, (∀ l ∈ c, g (.int l) H = some (kf l, H)) → zbm g (c.map .int) H = some (c.map kf, H) := fun {c} h => by
  induction c with
  | nil => rfl
  | cons x c ih =>
   rw [zs9]
   unfold zbm
   rw [h x (.head _)]
   dsimp only [bnd]
   rw [ih fun l hl => h l (.tail _ hl)]; rfl
 have k2 : ∀ {c : List Int}, (∀ l ∈ c, zo9 tup (kf l) = some (zf l)) → zdo tup (c.map kf) = some (c.map zf) := fun {c} h => by
  induction c with
  | nil => rfl
  | cons x c ih =>
   rw [zs9]
   show (zo9 tup (kf x)).bind (fun z => (zdo tup (c.map kf)).map (z :: ·)) = _
   rw [h x (.head _), ih fun l hl => h l (.tail _ hl)]; rfl
 obtain ⟨c1, e, p⟩ := zn0 (zlg (d := MV.none) (b := b) (zs := c.map zf) (l := c.map .int) (by rw [zsk, zsk]) (by rw [zsk]; exact hl))
 refine ⟨c1, ?_, p⟩
 unfold xy zqz
 rw [if_pos (by rw [zsk]; lia), k1 hg]
 rw [show (some (c.map kf, H)).bind (fun p : List MV × St => open Classical in if p.2 = H then some p.1 else none) = some (c.map kf) from if_pos rfl]
 show (zdo tup (c.map kf)).map _ = _
 rw [k2 hz, zv0, e]
theorem zpp {H : St} {l : Int} : vj [.int l] H = some (.tup [.int l.natAbs, .int l], H) :=
 y8 rfl (lo' := [some (.int l)]) (wq (qc (zjg (xk (f := zd 0) (i := l) rfl) rfl)))
theorem zoa (R : Rep t H) {l : Int} (hb : l.natAbs < t.as.length) (hs : t.as.length ≤ 1000) (hst : t.st.length ≤ 1000) (hv : t.val l = 0) : jj [.ref t.r, .int l] H = some (.int (t.st.length + 1), H) := by
 have c1 := wi (op := .NotEq) (vt R (f := zd 0) (g := zd 1) (lo := [some (.ref t.r), some (.int l)]) rfl rfl hb hs) (g := zh (.int (-1))) (y := .int (-1)) rfl (b := t.val l != -1) rfl
 rw [hv] at c1
 exact y8 rfl (lo' := [some (.ref t.r), some (.int l)]) (wq ((kr c1).trans (wq (qc (jt (y := 1) ((qf (F := wg) (f := zd 0) rfl (R.at' .obj _ rfl)).trans (vc R hst)) rfl)))))
theorem zlu (R : Rep t H) {c : List Int} {ca : Nat} (hc : H[ca]? = some (il c)) (hl : c.length ≤ 3) (hb : ∀ l ∈ c, l.natAbs < t.as.length ∧ t.val l = 0) (hs : t.as.length ≤ 1000) (hst : t.st.length ≤ 1000) :
  ∃ c2 : List Int, c2.Perm c ∧ ge [.ref t.r, .ref ca] H = some (.ref H.length, H ++ [il c2]) := by
 refine zvt fun hq0 => ?_
 obtain ⟨c1, e1, p1⟩ := zfq (b := false) (tup := true) (g := fun x H => vj [x] H) (H := H) (fun l => .tup [.int l.natAbs, .int l]) (fun l => [(l.natAbs : Int), l]) hl (fun l _ => zpp) (fun l _ => rfl)
 have s1 : zbc vj (zd 1) [some (.ref t.r), some (.ref ca), none] H = some (.ref H.length, H ++ [il c1]) := by
  unfold zbc
  rw [show zd 1 [some (.ref t.r), some (.ref ca), none] H = some (.ref ca, H) from rfl]
  show y4 H[ca]? _ = _
  rw [hc]
  show (xy false true (fun x H => vj [x] H) (c.map .int) H).map _ = _
  rw [e1]; rfl
 have hK : ∀ k, t.at k ≠ some H.length := fun k e => absurd (R.lt e) (zwx _)
 have RJ : Rep t ((H ++ [il c1]).set H.length .junk) := R.app.setOut hK _
 obtain ⟨c2, e2, p2⟩ := zfq (b := true) (tup := false) (g := fun x H => jj [.ref t.r, x] H) (c := c1) (H := (H ++ [il c1]).set H.length .junk) (fun l => .int (t.st.length + 1)) (fun l => [(t.st.length : Int) + 1]) (by rw [p1.length_eq]; exact hl)
  (fun l hl => zoa RJ (hb l (p1.mem_iff.mp hl)).1 hs hst (hb l (p1.mem_iff.mp hl)).2) (fun l _ => rfl)
 have g1 : (H ++ [il c1])[H.length]? = some (il c1) := zdw
 have s2 : ze6 1 jj (zd 2) (zd 0) [some (.ref t.r), some (.ref ca), some (.ref H.length)] (H ++ [il c1]) = some (.none, H ++ [il c2]) := by
  unfold ze6
  rw [show zd 2 [some (.ref t.r), some (.ref ca), some (.ref H.length)] (H ++ [il c1]) = some (.ref H.length, H ++ [il c1]) from rfl]
  dsimp only [bnd]
  rw [if_pos (zdp g1), show zd 0 [some (.ref t.r), some (.ref ca), some (.ref H.length)] (H ++ [il c1]) = some (.ref t.r, H ++ [il c1]) from rfl]
  dsimp only
  rw [if_pos (zdd (R.app.at' .obj _ rfl))]
  show y4 (H ++ [il c1])[H.length]? _ = _
  rw [g1]
  show (xy true false (fun x H => jj [.ref t.r, x] H) (c1.map .int) ((H ++ [il c1]).set H.length .junk)).map _ = _
  rw [e2, zv0, zm6]
 refine hq0 ?_
 exact ⟨c2, p2.trans p1, y8 rfl ((zj (wc s1 (by simp))).trans ((zj (qj s2)).trans (wq (qc (f := zd 2) (v := .ref H.length) rfl))))⟩
theorem zk7 (R : Rep t H) {num K : Nat} {x y : Int} {rest : List Int} (hC : t.C[num]? = some (some (K, x :: y :: rest))) (hCl : t.C.length ≤ 100) (hW : t.W.length ≤ 100) (hx : x.natAbs < 1000) (hy : y.natAbs < 1000) (hr : rest.length ≤ 100) {a b : Nat} {ns ms : List Int} (wx : t.W[(plc x).toNat]? = some (a, ns)) (wy : t.W[(plc y).toNat]? = some (b, ms)) (hne : (plc x).toNat ≠ (plc y).toNat) (h1 : ns.length ≤ 100) (h2 : ms.length ≤ 100) :
  ∃ H', uv [.ref t.r, .int num] H = some (.none, H') ∧ Op t H ((t.addW (plc x).toNat num).addW (plc y).toNat num) H' := by
 have hc : H[K]? = some (il (x :: y :: rest)) := (R.at' _ _ (T.at_c hC)).trans (congrArg some (T.is_c hC))
 have s1 : zq (wd (zp 1 12 (zd 0)) (zd 1)) (zy 2) [some (.ref t.r), some (.int num), none] H = some (.next, [some (.ref t.r), some (.int num), some (.ref K)], H) :=
  wc (v := .ref K) (zbg (i := (num : Int)) (R.attr rfl rfl rfl) rfl (j1 (R.at' .cl _ rfl) (by lia) (by rw [zsu, show ((num : Int)).toNat = num from rfl, hC]; rfl) (by rw [zsk]; lia))) (by simp)
 have hw : H[a]? = some (il ns) := (R.at' _ _ (T.at_w wx)).trans (congrArg some (T.is_w wx))
 have e2 := zdh R (f := zd 0) (g := wd (zd 2) (zh (.int 0))) (lo := [some (.ref t.r), some (.int num), some (.ref K)]) (l := x) rfl (yo (i := 0) rfl rfl hc (by decide) rfl (by simp; lia)) hx wx (by lia)
 have s2 := qu e2 (g := zd 1) (v := .int num) rfl ⟨_, hw⟩ hw (by rw [zsk]; lia)
 rw [ky] at s2
 have O2 := zm1 R wx num
 generalize H.set a (il (ns ++ [(num : Int)])) = H2 at s2 O2
 have wy2 : (t.addW (plc x).toNat num).W[(plc y).toNat]? = some (b, ms) := by
  show (t.W.modify _ _)[_]? = _
  rw [zjb, if_neg hne, wy]
 have hC2 : (t.addW (plc x).toNat num).C[num]? = some (some (K, x :: y :: rest)) := hC
 have hc2 : H2[K]? = some (il (x :: y :: rest)) := (O2.rep.at' _ _ (T.at_c hC2)).trans (congrArg some (T.is_c hC2))
 have hw2 : H2[b]? = some (il ms) := (O2.rep.at' _ _ (T.at_w wy2)).trans (congrArg some (T.is_w wy2))
 have e3 := zdh O2.rep (f := zd 0) (g := wd (zd 2) (zh (.int 1))) (lo := [some (.ref t.r), some (.int num), some (.ref K)]) (l := y) rfl (yo (i := 1) rfl rfl hc2 (by decide) rfl (by simp; lia)) hy wy2 (by show (t.W.modify _ _).length ≤ _; rw [zuy]; lia)
 have s3 := qu e3 (g := zd 1) (v := .int num) rfl ⟨_, hw2⟩ hw2 (by rw [zsk]; lia)
 rw [ky] at s3
 exact ⟨_, us rfl ((zj s1).trans ((zj s2).trans ((zj s3).trans rfl))), O2.trans (zm1 O2.rep wy2 num)⟩
end
end Mine
namespace Mine
section
variable {n : Nat} {lots : List (List Int)} {t t' t2 : T} {H : St} {c0 : List Int}
theorem zpi {α : Type} {C : List α} {x y : α} : (C ++ [x]).set C.length y = C ++ [y] := by rw [zt8 _ _ (zwt _), zww]; rfl
noncomputable abbrev T.laid (t : T) (j K : Nat) (c : List Int) : T := { t with C := t.C.set j (some (K, c)) }
theorem zny (R : Rep t H) {num K : Nat} (hC : t.C[num]? = some (some (K, c0))) (hCl : t.C.length ≤ 100) (hWl : t.W.length ≤ 100) (hc2 : 2 ≤ c0.length) (hc3 : c0.length ≤ 3) (hb : ∀ l ∈ c0, (1 ≤ l.natAbs ∧ l.natAbs < t.as.length) ∧ t.val l = 0) (hnd : c0.Nodup) (hs : t.as.length ≤ 1000) (hst : t.st.length ≤ 1000)
  (hW : ∀ l : Int, l ∈ c0 → ∃ b ns, t.W[(plc l).toNat]? = some (b, ns) ∧ ns.length ≤ 100) :
  ∃ (x y : Int) (rest : List Int) (H' : St), (x :: y :: rest).Perm c0 ∧ uy [.ref t.r, .int num] H = some (.int (-1), H') ∧ Op t H (((t.laid num H.length (x :: y :: rest)).addW (plc x).toNat num).addW (plc y).toNat num) H' := by
 have hk : H[K]? = some (il c0) := (R.at' _ _ (T.at_c hC)).trans (congrArg some (T.is_c hC))
 have hj := (zsl.mp hC).1
 have g1 : wd (zp 1 12 (zd 0)) (zd 1) [some (.ref t.r), some (.int num), none] H = some (.ref K, H) :=
  zbg (i := (num : Int)) (R.attr rfl rfl rfl) rfl (j1 (R.at' .cl _ rfl) (by lia) (by rw [zsu, show ((num : Int)).toNat = num from rfl, hC]; rfl) (by rw [zsk]; lia))
 have s0 := wi (op := .Lt) (jh g1 hk (by rw [zsk]; lia)) (g := zh (.int 2)) (y := .int 2) rfl (b := false) (by
  show some (decide _) = some false
  rw [decide_eq_false]; rw [zsk]; lia)
 obtain ⟨c2, p2, e1⟩ := zlu R hk hc3 (fun l hl => ⟨(hb l hl).1.2, (hb l hl).2⟩) hs hst
 have s1 : zq (z5 1 ge (zd 0) [(wd (zp 1 12 (zd 0)) (zd 1))]) (zy 2) [some (.ref t.r), some (.int num), none] H = some (.next, [some (.ref t.r), some (.int num), some (.ref H.length)], H ++ [il c2]) :=
  wc (i := 2) ((yu (F := ge) (f := zd 0) rfl (R.at' .obj _ rfl) g1).trans e1) (by simp)
 have l2 := p2.length_eq
 match c2, l2, p2, s1 with
 | [], l2, _, _ => rw [zu8] at l2; lia
 | [_], l2, _, _ => rw [ztt] at l2; lia
 | x :: y :: rest, l2, p2, s1 =>
  have lr : rest.length ≤ 1 := by simp at l2; lia
  have mx : x ∈ c0 := p2.mem_iff.mp (.head _)
  have my : y ∈ c0 := p2.mem_iff.mp (.tail _ (.head _))
  obtain ⟨⟨x1, x2⟩, xv⟩ := hb x mx
  obtain ⟨⟨y1, y2⟩, yv⟩ := hb y my
  have hxy : x ≠ y := fun e => by
   have := p2.nodup_iff.mpr hnd
   rw [zs4] at this
   exact this.1 (e ▸ .head _)
  have s2 : zq (zd 2) (y9 (zp 1 12 (zd 0)) (zd 1)) [some (.ref t.r), some (.int num), some (.ref H.length)] (H ++ [il (x :: y :: rest)]) = some (.next, [some (.ref t.r), some (.int num), some (.ref H.length)], (H ++ [il (x :: y :: rest)]).set (t.r + 15) (.list ((t.C.map zaw).set num (.ref H.length)))) :=
   ki (v := .ref H.length) (i := (num : Int)) rfl (R.app.attr rfl rfl rfl) rfl (R.app.at' .cl _ rfl) (by lia) (by rw [zsk]; exact hj) (by rw [zsk]; lia)
  have O2 := zro R hj (x :: y :: rest)
  have hx2 : ((H ++ [il (x :: y :: rest)]).set (t.r + 15) (.list ((t.C.map zaw).set num (.ref H.length))))[H.length]? = some (il (x :: y :: rest)) := by
   rw [zsn (zwu (R.lt (k := .cl) rfl))]; exact zdw
  generalize (H ++ [il (x :: y :: rest)]).set (t.r + 15) (.list ((t.C.map zaw).set num (.ref H.length))) = H2 at s2 O2 hx2
  have len : ∀ {H3 : St}, H3[H.length]? = some (il (x :: y :: rest)) → z4 b.len [(zd 2)] [some (.ref t.r), some (.int num), some (.ref H.length)] H3 = some (.int (rest.length + 2 : Nat), H3) := fun {H3} h => by
   have := jh (f := zd 2) (lo := [some (.ref t.r), some (.int num), some (.ref H.length)]) (H := H3) rfl h (by rw [zsk]; simp; lia)
   rw [zsk] at this
   exact this
  have s3 := wi (op := .Gt) (len hx2) (g := zh (.int 1)) (y := .int 1) rfl (b := true) (by
   show some (decide _) = some true
   rw [decide_eq_true]; lia)
  obtain ⟨b1, n1, w1, k1⟩ := hW x mx
  obtain ⟨b2, n2, w2, k2⟩ := hW y my
  obtain ⟨H3, e4, O4⟩ := zk7 (t := t.laid num H.length (x :: y :: rest)) O2.rep (num := num) (K := H.length) (x := x) (y := y) (rest := rest) (zsy hj) (by show (t.C.set _ _).length ≤ _; rw [zsx]; exact hCl) hWl (by lia) (by lia) (by lia) w1 w2 (fun e => hxy (zcn e x1 y1)) k1 k2
  have s4 : wh (z5 1 uv (zd 0) [(zd 1)]) [some (.ref t.r), some (.int num), some (.ref H.length)] H2 = some (.next, [some (.ref t.r), some (.int num), some (.ref H.length)], H3) :=
   qj ((yu (F := uv) (f := zd 0) (g := zd 1) rfl (O2.rep.at' .obj _ rfl) rfl).trans e4)
  have O := O2.trans O4
  have R4 := O.rep
  have hC4 : (((t.laid num H.length (x :: y :: rest)).addW (plc x).toNat num).addW (plc y).toNat num).C[num]? = some (some (H.length, x :: y :: rest)) := zsy hj
  have hx4 : H3[H.length]? = some (il (x :: y :: rest)) := (R4.at' _ _ (T.at_c hC4)).trans (congrArg some (T.is_c hC4))
  have v1 : ∀ {k : Int} {z : Int}, (x :: y :: rest)[k.toNat]? = some z → 0 ≤ k → z.natAbs < t.as.length → t.val z = 0 → z5 1 wf (zd 0) [(wd (zd 2) (zh (.int k)))] [some (.ref t.r), some (.int num), some (.ref H.length)] H3 = some (.int 0, H3) := fun {k z} hk h0 hz hv => by
   have := vt R4 (f := zd 0) (g := wd (zd 2) (zh (.int k))) (lo := [some (.ref t.r), some (.int num), some (.ref H.length)]) (l := z) rfl (yo (i := k) rfl rfl hx4 h0 hk (by simp; lia)) hz hs
   rw [show T.val (((t.laid num H.length (x :: y :: rest)).addW (plc x).toNat num).addW (plc y).toNat num) z = t.val z from rfl, hv] at this
   exact this
  have a0 := v1 (k := 0) (z := x) rfl (zv7 0) x2 xv
  have a1 := v1 (k := 1) (z := y) rfl (by decide) y2 yv
  have q5 := wi (op := .Eq) (len hx4) (g := zh (.int 0)) (y := .int 0) rfl (b := ((rest.length + 2 : Nat) : Int) == 0) rfl
  rw [show ((((rest.length + 2 : Nat) : Int)) == 0) = false from beq_eq_false_iff_ne.mpr (by lia)] at q5
  have q6 := wi (op := .Eq) a0 (g := zh (.int (-1))) (y := .int (-1)) rfl (b := false) rfl
  have q7 := wi (op := .Eq) a0 (g := zh (.int 0)) (y := .int 0) rfl (b := true) rfl
  have q8 := wi (op := .Eq) (len hx4) (g := zh (.int 1)) (y := .int 1) rfl (b := ((rest.length + 2 : Nat) : Int) == 1) rfl
  rw [show ((((rest.length + 2 : Nat) : Int)) == 1) = false from beq_eq_false_iff_ne.mpr (by lia)] at q8
  have q9 := wi (op := .Eq) a1 (g := zh (.int (-1))) (y := .int (-1)) rfl (b := false) rfl
  refine ⟨x, y, rest, H3, p2, y8 rfl (lo' := [some (.ref t.r), some (.int num), some (.ref H.length)]) ?_, O⟩
  exact (zj ((yw s0).trans rfl)).trans ((zj s1).trans ((zj s2).trans ((zj ((kr s3).trans ((zj s4).trans rfl))).trans
   ((zj ((yw ((ut q5).trans ((ut q6).trans rfl))).trans rfl)).trans
   ((zj ((kr q7).trans ((zj ((yw q8).trans ((zj ((yw q9).trans rfl)).trans rfl))).trans rfl))).trans
   (wq (qc (v := .int (-1)) rfl)))))))
theorem add_ok (R : Rep t H) (B : zpc n lots t) (G : LG n (lots ++ [c0])) {ca : Nat} (hc : H[ca]? = some (il c0)) :
  ∃ t' H1 H', ux [.ref t.r, .ref ca, .none, .bool false] H = some (.int lots.length, H1) ∧ uy [.ref t.r, .int lots.length] H1 = some (.int (-1), H') ∧ Op t H t' H' ∧ (∃ l, H1[t.r]? = some (.obj 1 l)) ∧ zpc n (lots ++ [c0]) t' := by
 have I := B.s.ti
 refine zvt fun hq0 => ?_
 obtain ⟨h2, h3, hnd, hr⟩ := G.good c0 (zth _ (.head _))
 have few := G.few
 rw [zs1, ztt] at few
 have G0 : LG n lots := ⟨by lia, fun c hc => G.good c (zta _ hc)⟩
 have n6 := I.n6
 have has := I.as
 have hCl := I.C
 obtain ⟨xs1, xs2, xs3⟩ := B.xs
 obtain ⟨H1, e1, O1⟩ := znq R (by lia) ⟨by lia, by lia, by lia⟩ hc (by lia)
 rw [hCl] at e1
 have hW : ∀ l : Int, l ∈ c0 → ∃ b ns, t.W[(plc l).toNat]? = some (b, ns) ∧ ns.length ≤ 100 := fun l hl => by
  obtain ⟨b, ns, e, nd, hx⟩ := I.wat l (hr l hl).1 (hr l hl).2
  have := I.short G0 nd hx
  exact ⟨b, ns, e, by lia⟩
 have hC1 : (t.stored H.length c0).C[lots.length]? = some (some (H.length, c0)) := by
  show (t.C ++ [_])[_]? = _
  rw [← hCl, zs2 (zwt _), zww]; rfl
 obtain ⟨x, y, rest, H', p, e2, O2⟩ := zny (t := t.stored H.length c0) O1.rep hC1 (by show (t.C ++ [_]).length ≤ _; rw [zs1, ztt]; lia) (by show t.W.length ≤ _; rw [I.W]; lia) h2 h3
  (fun l hl => by
   obtain ⟨l1, l2⟩ := hr l hl
   refine ⟨⟨l1, by show l.natAbs < t.as.length; lia⟩, ?_⟩
   show t.val l = 0
   rw [I.val l l1 l2, B.tr, if_neg (by simp), if_neg (by simp)])
  (by rw [ztq, ztr] at hnd; exact hnd.imp fun h e => h (by rw [e])) (by show t.as.length ≤ _; lia) (by show t.st.length ≤ _; rw [B.st]; simp) hW
 have px := hr x (p.mem_iff.mp (.head _))
 have py := hr y (p.mem_iff.mp (.tail _ (.head _)))
 have hxy : x ≠ y := fun e => by
  have : (x :: y :: rest).Nodup := p.nodup_iff.mpr (by rw [ztq, ztr] at hnd; exact hnd.imp fun h e => h (by rw [e]))
  rw [zs4] at this
  exact this.1 (e ▸ .head _)
 refine hq0 ?_
 refine ⟨_, H1, H', e1, e2, O1.trans O2, ⟨_, O1.rep.at' .obj _ rfl⟩, ?_⟩
 have I' := I.add (c0 := c0) (t2 := (((t.stored H.length c0).laid lots.length H1.length (x :: y :: rest)).addW (plc x).toNat lots.length).addW (plc y).toNat lots.length) B.tr B.st p px py hxy (K := H1.length) ⟨rfl, rfl, rfl, rfl, rfl⟩ ⟨rfl, rfl⟩
  (by show (t.C ++ [_]).set _ _ = _; rw [← hCl, zpi]) (by rw [hCl]; rfl)
 refine ⟨⟨I', B.s.hk, B.s.held, B.s.he, fun j a b r _ => ?_⟩, B.tr, B.st, B.ph, B.ac, ?_⟩
 ·show (-a ∈ t.tr → _) ∧ (-b ∈ t.tr → _)
  rw [B.tr]
  exact ⟨(fun q => nomatch q), (fun q => nomatch q)⟩
 ·show (t.x1 ++ [_]).length = _ ∧ (t.x2 ++ [_]).length = _ ∧ (t.x3 ++ [_]).length = _
  rw [zs1, zs1, zs1, zs1, xs1, xs2, xs3]
  exact ⟨rfl, rfl, rfl⟩
end
end Mine
namespace Mine
section
variable {n : Nat} {lots : List (List Int)} {t t' t2 : T} {H : St} {c0 : List Int}
theorem zp4 {c a : Nat} {F : DF} {f g h i : DE} {lo : Lo} {H H1 H2 H3 : St} {l : List MV} {v u w : MV} (hf : f lo H = some (.ref a, H)) (ha : H[a]? = some (.obj c l)) (hg : g lo H = some (v, H1)) (hh : h lo H1 = some (u, H2)) (hi : i lo H2 = some (w, H3)) : z5 c F f [g, h, i] lo H = F [.ref a, v, u, w] H3 := by
 unfold z5; rw [hf]; dsimp only [bnd]; rw [if_pos (zdd ha), vu hg hh hi]
theorem LG.part (G : LG n lots) (k : Nat) : LG n (lots.take k) := ⟨zw1 (List.length_take_le' ..) G.few, fun c hc => G.good c (zt1 hc)⟩
noncomputable def zei (H : St) (cs : List Nat) (lots : List (List Int)) : Prop := cs.length = lots.length ∧ ∀ (i : Nat) ca, cs[i]? = some ca → ∃ c0, lots[i]? = some c0 ∧ H[ca]? = some (il c0)
theorem zei.keep {H H' : St} {cs : List Nat} (L : zei H cs lots) (h : ∀ a, a < H.length → H'[a]? = H[a]?) : zei H' cs lots := ⟨L.1, fun i ca hi => by
 obtain ⟨c0, h1, h2⟩ := L.2 i ca hi
 exact ⟨c0, h1, (h ca (jf h2)).trans h2⟩⟩
theorem zek {lo : Nat} {cs : List Nat} (hlo : H[lo]? = some (.list (cs.map .ref))) (hcs : zei H cs lots) (G : LG n lots) (h1 : 1 ≤ n) (h6 : n ≤ 6) :
  ∃ t H', vk [.int n, .ref lo] H = some (.ref t.r, H') ∧ zjj t H H' ∧ zpc n lots t := by
 have s1 : zq (we zfg [(zh .none)]) (zy 2) [some (.int n), some (.ref lo), none, none, none] H = some (.next, [some (.int n), some (.ref lo), some (.ref H.length), none, none], H ++ zqp H.length) :=
  wc (i := 2) ((j3 (F := zfg) (g := zh .none) rfl).trans (zlb H)) (by simp)
 have f2 := xa (g := zy 3) (b := zac) (j2 (f := zd 0) (lo := [some (.int n), some (.ref lo), some (.ref H.length), none, none]) (H := H ++ zqp H.length) (y := (n : Int)) rfl) (by decide) (by decide) (by lia) (by lia)
 rw [zhm] at f2
 have rule := jb (g := zy 3) (b := zac) (l := (zsr n).map fun i : Nat => MV.int (0 + i))
  (fun i lo1 H' => ∃ t u, lo1 = [some (.int n), some (.ref lo), some (.ref H.length), u, none] ∧ zjj t H H' ∧ t.r = H.length ∧ zh0 i t)
  (Q := fun lo1 H' => ∃ t u, lo1 = [some (.int n), some (.ref lo), some (.ref H.length), u, none] ∧ zjj t H H' ∧ t.r = H.length ∧ zh0 n t) (R := fun _ _ _ => False)
  (fun i v lo1 H' hv hI => by
   obtain ⟨t, u, hl, B, hr, F⟩ := hI
   subst hl
   obtain ⟨hi, rfl⟩ := jk hv
   obtain ⟨t', H'', e, O, F'⟩ := zrz B.rep F (by lia)
   refine ⟨[some (.int n), some (.ref lo), some (.ref H.length), some (.int (0 + (i : Int))), none], H', rfl, ?_⟩
   have : zac [some (.int n), some (.ref lo), some (.ref H.length), some (.int (0 + (i : Int))), none] H' = some (.next, [some (.int n), some (.ref lo), some (.ref H.length), some (.int (0 + (i : Int))), none], H'') :=
    (zj (qj ((qf (F := zag) (f := zd 2) (a := t.r) (by rw [hr]; rfl) (B.rep.at' .obj _ rfl)).trans e))).trans rfl
   rw [this]
   exact ⟨t', _, rfl, B.op O, O.r.trans hr, F'⟩)
  (fun lo1 H' hI => by obtain ⟨t, u, hl, B, hr, F⟩ := hI; exact ⟨t, u, hl, B, hr, by rw [zsk, zts] at F; exact F⟩)
  (lo := [some (.int n), some (.ref lo), some (.ref H.length), none, none]) (H := H ++ zqp H.length) ⟨t0 H.length, none, rfl, born0 H, rfl, fresh0 _⟩
 rw [← f2] at rule
 refine zvt fun hq0 => ?_
 obtain ⟨lo2, H2, s2, t2, u2, rfl, B2, r2, F2⟩ := rule.next
 have S2 := F2.stl h1 h6
 have f3 := zee (g := zy 4) (b := zad) (f := zd 1) (lo := [some (.int n), some (.ref lo), some (.ref H.length), u2, none]) (H := H2) (r := lo) rfl ((B2.ext lo (jf hlo)).trans hlo)
 have rule3 := zfm (g := zy 4) (b := zad) (r := lo) (l := cs.map .ref)
  (fun i lo1 H' => ∃ t u, lo1 = [some (.int n), some (.ref lo), some (.ref H.length), u2, u] ∧ zjj t H H' ∧ t.r = H.length ∧ zpc n (lots.take i) t)
  (Q := fun lo1 H' => ∃ t u, lo1 = [some (.int n), some (.ref lo), some (.ref H.length), u2, u] ∧ zjj t H H' ∧ t.r = H.length ∧ zpc n lots t) (R := fun _ _ _ => False)
  (fun i lo1 H' hI => by obtain ⟨t, u, hl, B, hr, F⟩ := hI; exact (B.ext lo (jf hlo)).trans hlo)
  (fun i v lo1 H' hv hI => by
   obtain ⟨t, u, hl, B, hr, F⟩ := hI
   subst hl
   rw [zsu] at hv
   obtain ⟨ca, hx, rfl⟩ := zvv.mp hv
   obtain ⟨c0, g1, g2⟩ := hcs.2 i ca hx
   have hi := (zsl.mp g1).1
   have et : lots.take i ++ [c0] = lots.take (i + 1) := by rw [List.take_succ, g1]; rfl
   obtain ⟨t', H1, H'', e1, e2, O, ho, F'⟩ := add_ok B.rep F (by rw [et]; exact G.part _) ((B.ext ca (jf g2)).trans g2)
   refine ⟨[some (.int n), some (.ref lo), some (.ref H.length), u2, some (.ref ca)], H', rfl, ?_⟩
   have : zad [some (.int n), some (.ref lo), some (.ref H.length), u2, some (.ref ca)] H' = some (.next, [some (.int n), some (.ref lo), some (.ref H.length), u2, some (.ref ca)], H'') :=
    (zj (qj ((yu (F := uy) (f := zd 2) (a := t.r) (by rw [hr]; rfl) (B.rep.at' .obj _ rfl) ((zp4 (F := ux) (f := zd 2) (a := t.r) (g := zd 4) (h := zh .none) (i := zh (.bool false)) (by rw [hr]; rfl) (B.rep.at' .obj _ rfl) rfl rfl rfl).trans e1)).trans e2))).trans rfl
   rw [this]
   exact ⟨t', _, rfl, B.op O, O.r.trans hr, by rw [← et]; exact F'⟩)
  (fun lo1 H' hI => by obtain ⟨t, u, hl, B, hr, F⟩ := hI; exact ⟨t, u, hl, B, hr, by rw [zsk, hcs.1, zto] at F; exact F⟩)
  (lo := [some (.int n), some (.ref lo), some (.ref H.length), u2, none]) (H := H2) ⟨t2, none, rfl, B2, r2, ⟨S2, F2.tr, F2.st, F2.ph, F2.ac, by rw [F2.xs.1, F2.xs.2.1, F2.xs.2.2]; exact ⟨rfl, rfl, rfl⟩⟩⟩
 rw [← f3] at rule3
 obtain ⟨lo3, H3, s3, t3, u3, rfl, B3, r3, F3⟩ := rule3.next
 refine hq0 ?_
 exact ⟨t3, H3, y8 rfl (lo' := [some (.int n), some (.ref lo), some (.ref H.length), u2, u3]) ((zj s1).trans ((zj s2).trans ((zj s3).trans (wq (qc (by rw [r3]; rfl)))))), B3, F3⟩
end
end Mine
namespace Mine
section
variable {n h c p : Nat} {cells : List Int} {lots : List (List Int)} {H H1 : St} {c0 : List Int}
theorem zfa (L : Hat h c cells p H) {m : Int} (hm : 0 < m) : ∃ x H', wj [.ref h, .int m] H = some (.int x, H') ∧ 0 ≤ x ∧ x < m ∧ Hat h c cells (p + 1) H' ∧ H'.length = H.length ∧ ∀ a, a ≠ h → H'[a]? = H[a]? := by
 refine zvt fun hq0 => ?_
 obtain ⟨x, e, h1, h2, L'⟩ := zmy L hm
 refine hq0 ?_
 exact ⟨x, _, e, h1, h2, L', by simp, fun a ha => zsn (Ne.symm ha)⟩
theorem zrd (L : Hat h c cells p H) : ∃ x H', kd [.ref h] H = some (.int x, H') ∧ (x = 1 ∨ x = -1) ∧ Hat h c cells (p + 1) H' ∧ H'.length = H.length ∧ ∀ a, a ≠ h → H'[a]? = H[a]? := by
 refine zvt fun hq0 => ?_
 obtain ⟨x, H', e, h1, h2, L'⟩ := zfa L (m := 2) (by decide)
 refine hq0 ?_
 refine ⟨1 - 2 * x, H', y8 rfl (lo' := [some (.ref h)]) (wq (qc ?_)), by lia, L'⟩
 exact vy (x := 1) rfl (zdy (x := 2) rfl ((qw (F := wj) (g := zd 0) (h := zh (.int 2)) rfl rfl).trans e) (by decide))
noncomputable def va (n : Nat) (s : Int) (k : Nat) : Nat := (1 + (s + k).fmod n).natAbs
theorem va_rng {s : Int} {k : Nat} (hn : 4 ≤ n) : 1 ≤ va n s k ∧ va n s k ≤ n := by
 have h1 := zwe (s + k) (show (0 : Int) < n by lia)
 have h2 := zwh (s + k) (show (0 : Int) < n by lia)
 unfold va
 omega
theorem va_nd {s : Int} {w : Nat} (hn : 4 ≤ n) (hn6 : n ≤ 6) (h0 : 0 ≤ s) (h1 : s < n) (hw : w ≤ 3) : ((zsr w).map (va n s)).Nodup := by
 rw [ztq, ztr]
 have := List.pairwise_lt_range (n := w)
 refine zvf.imp_of_mem (fun {a b} ha hb hab e => ?_) this
 rw [ztn] at ha hb
 unfold va at e
 rw [zwj _ (by lia), zwj _ (by lia)] at e
 have : n = 4 ∨ n = 5 ∨ n = 6 := by lia
 rcases this with rfl | rfl | rfl <;> omega
theorem zqb {f : DE} {t : Lo → St → Option (Bool × St)} {e : DE} {lo : Lo} {H H1 H2 : St} {x y : Int} {q : Nat} {acc : List MV} (hf : f lo H = some (.rng x y 1, H1)) (h1 : -1000 ≤ x) (h2 : x ≤ 1000) (h3 : -1000 ≤ y) (h4 : y ≤ 1000) (hq : lo.length = q)
  (hc : zix (zo8 ((zsr (y - x).toNat).map fun i : Nat => MV.int (x + i))) (zy q) t e (((zsr (y - x).toNat).map fun i : Nat => MV.int (x + i)).length + 1) 0 [] (lo ++ [none]) H1 = some (acc, H2)) : gr q 1 f (zy q) t e lo H = some (.ref H2.length, H2 ++ [.list acc]) := by
 unfold gr zb3
 rw [hf]
 simp only [bnd_some, zdj]
 rw [if_pos hq, if_pos (zcy h1 h2 h3 (by lia)), zcz]
 generalize ((zsr (y - x).toNat).map fun i : Nat => MV.int (x + i)) = l at hc ⊢
 simp only [zug, hc, zv0]
noncomputable abbrev dl (n h w : Nat) (s : Int) (u2 u3 : Option MV) : Lo := [some (.ref h), some (.int n), u2, u3, some (.int w), some (.int s)]
noncomputable abbrev dE : DE := wo o.mul (wo o.add (zh (.int 1)) (wo o.mod (wo o.add (zd 5) (zd 6)) (zd 1))) (we kd [(zd 0)])
theorem zp8 (L : Hat h c cells p H) {w : Nat} {s : Int} (hn : 4 ≤ n) (hn6 : n ≤ 6) (h0 : 0 ≤ s) (h1 : s < n) (hw : w ≤ 3) {u2 u3 : Option MV} :
  ∃ acc H1, zix (zo8 ((zsr w).map fun i : Nat => MV.int (0 + i))) (zy 6) zah dE (((zsr w).map fun i : Nat => MV.int (0 + i)).length + 1) 0 [] (dl n h w s u2 u3 ++ [none]) H = some (acc, H1) ∧
   ∃ (c0 : List Int) (p1 : Nat), acc = c0.map .int ∧ Hat h c cells p1 H1 ∧ H1.length = H.length ∧ (∀ a, a ≠ h → H1[a]? = H[a]?) ∧ c0.map zv6 = (zsr w).map (va n s) := by
 exact zjh (src := zo8 ((zsr w).map fun i : Nat => MV.int (0 + i))) (g := zy 6) (t := zah) (e := wo o.mul (wo o.add (zh (.int 1)) (wo o.mod (wo o.add (zd 5) (zd 6)) (zd 1))) (we kd [(zd 0)])) (l := (zsr w).map fun i : Nat => MV.int (0 + i))
  (fun i acc lo' H' => (∃ u, lo' = [some (.ref h), some (.int n), u2, u3, some (.int w), some (.int s), u]) ∧ ∃ (c0 : List Int) (p1 : Nat), acc = c0.map .int ∧ Hat h c cells p1 H' ∧ H'.length = H.length ∧ (∀ a, a ≠ h → H'[a]? = H[a]?) ∧ c0.map zv6 = (zsr i).map (va n s))
  (Q := fun acc H' => ∃ (c0 : List Int) (p1 : Nat), acc = c0.map .int ∧ Hat h c cells p1 H' ∧ H'.length = H.length ∧ (∀ a, a ≠ h → H'[a]? = H[a]?) ∧ c0.map zv6 = (zsr w).map (va n s))
  (fun i acc lo' H' _ => rfl)
  (fun i v acc lo' H' hv hI => by
   obtain ⟨⟨u, hu⟩, c0, p1, q1, q2, q3, q4, q5⟩ := hI
   subst hu
   obtain ⟨hi, rfl⟩ := jk hv
   refine ⟨[some (.ref h), some (.int n), u2, u3, some (.int w), some (.int s), some (.int (0 + (i : Int)))], H', true, H', rfl, rfl, ?_⟩
   rw [if_pos rfl]
   obtain ⟨x, H3, e, hx, L3, k3, f3⟩ := zrd q2
   have hmod : wo o.mod (wo o.add (zd 5) (zd 6)) (zd 1) [some (.ref h), some (.int n), u2, u3, some (.int w), some (.int s), some (.int (0 + (i : Int)))] H' = some (.int ((s + i).fmod n), H') := by
    rw [zbh (jt (f := zd 5) (g := zd 6) (x := s) (y := 0 + (i : Int)) rfl rfl) (show zd 1 _ H' = some (.int (n : Int), H') from rfl)]
    show (if ((n : Int) == 0) = true then none else some (MV.int ((s + (0 + (i : Int))).fmod n), H')) = _
    rw [if_neg (by simp; lia), zv9]
   have b1 := zwe (s + i) (show (0 : Int) < n by lia)
   have b2 := zwh (s + i) (show (0 : Int) < n by lia)
   have e2 := zdy (jt (f := zh (.int 1)) (x := 1) rfl hmod) ((j3 (F := kd) (g := zd 0) rfl).trans e) (zdk (by omega) (by omega))
   refine ⟨_, H3, e2, ?_, ⟨_, rfl⟩, c0 ++ [(1 + (s + i).fmod n) * x], p1 + 1, by rw [q1, zs3]; rfl, L3, k3.trans q3, fun a ha => (f3 a ha).trans (q4 a ha), ?_⟩
   ·have := congrArg List.length q5
    rw [zsk, zsk, zts] at this
    rw [q1, zsk]; lia
   ·rw [zs3, q5, List.range_succ, zs3]
    congr 1
    show [_] = [va n s i]
    unfold va
    rcases hx with rfl | rfl
    ·rw [zwf]
    ·rw [show (1 + (s + i).fmod n) * (-1 : Int) = -(1 + (s + i).fmod n) by lia, zwa])
  (fun acc lo' H' hI => by obtain ⟨_, c0, p1, q1, q2, q3, q4, q5⟩ := hI; exact ⟨c0, p1, q1, q2, q3, q4, by rw [zsk, zts] at q5; exact q5⟩)
  (lo := [some (.ref h), some (.int n), u2, u3, some (.int w), some (.int s)] ++ [none]) (H := H) ⟨⟨none, rfl⟩, [], p, rfl, L, rfl, fun _ _ => rfl, rfl⟩
theorem zp7 (L : Hat h c cells p H) {w : Nat} {s : Int} (hn : 4 ≤ n) (hn6 : n ≤ 6) (h0 : 0 ≤ s) (h1 : s < n) (hw : w ≤ 3) {u2 u3 : Option MV} :
  ∃ c0 H1 p1, gr 6 1 (z4 b.range [(zd 4)]) (zy 6) zah (wo o.mul (wo o.add (zh (.int 1)) (wo o.mod (wo o.add (zd 5) (zd 6)) (zd 1))) (we kd [(zd 0)])) [some (.ref h), some (.int n), u2, u3, some (.int w), some (.int s)] H = some (.ref H1.length, H1 ++ [il c0]) ∧
   Hat h c cells p1 H1 ∧ H1.length = H.length ∧ (∀ a, a ≠ h → H1[a]? = H[a]?) ∧ c0.map zv6 = (zsr w).map (va n s) := by
 refine zvt fun hq0 => ?_
 obtain ⟨acc, H2, e1, c0, p1, q1, q2, q3, q4, q5⟩ := zp8 L (w := w) (s := s) hn hn6 h0 h1 hw (u2 := u2) (u3 := u3)
 subst q1
 refine hq0 ?_
 exact ⟨c0, H2, p1, zqb (j2 (f := zd 4) (y := (w : Int)) rfl) (by decide) (by decide) (by lia) (by lia) rfl (by rw [zhm]; exact e1), q2, q3, q4, q5⟩
theorem zei.add {cs : List Nat} (L : zei H cs lots) {k : Nat} {o : MO} (hk : k < H.length) (hn : ∀ ca ∈ cs, ca ≠ k) : zei ((H ++ [il c0]).set k o) (cs ++ [H.length]) (lots ++ [c0]) := by
 refine ⟨by rw [zs1, zs1, L.1]; rfl, fun i ca hi => ?_⟩
 by_cases q : i < cs.length
 ·rw [zst q] at hi
  obtain ⟨d, h1, h2⟩ := L.2 i ca hi
  exact ⟨d, za3 h1, by rw [zsn (Ne.symm (hn ca (zsm hi)))]; exact za3 h2⟩
 ·rw [zs2 (by lia)] at hi
  have : i - cs.length = 0 := by
   have := (zsl.mp hi).1
   simp at this; assumption
  rw [this] at hi
  cases hi
  refine ⟨c0, ?_, ?_⟩
  ·rw [zs2 (by rw [← L.1]; lia), ← L.1, this]; rfl
  ·rw [zsn (by lia), zs2 (zwt _), zww]; rfl
theorem zj3 (L : Hat h c cells p H) (hn : 4 ≤ n) (hn6 : n ≤ 6) :
  ∃ (k : Nat) (cs : List Nat) (lots : List (List Int)) (p1 : Nat) (H1 : St), za2 [.ref h, .int n] H = some (.ref k, H1) ∧ Hat h c cells p1 H1 ∧ H1[k]? = some (.list (cs.map .ref)) ∧ zei H1 cs lots ∧ LG n lots := by
 have hh := jf L.hat
 have hc := jf L.held
 have s1 : zq (wv []) (zy 2) [some (.ref h), some (.int n), none, none, none, none] H = some (.next, [some (.ref h), some (.int n), some (.ref H.length), none, none, none], H ++ [.list []]) :=
  wc (i := 2) (v := .ref H.length) rfl (by simp)
 have L1 : Hat h c cells p (H ++ [.list []]) := L.keep (zst hc) (zst hh)
 refine zvt fun hq0 => ?_
 obtain ⟨x, H2, e2, x1, x2, L2, k2, f2⟩ := zfa L1 (m := 4) (by decide)
 have g2 : H2[H.length]? = some (.list []) := (f2 _ (by lia)).trans zdw
 have fr := xa (g := zy 3) (b := zbb) (lo := [some (.ref h), some (.int n), some (.ref H.length), none, none, none]) (j2 (jt (f := zh (.int 2)) (x := 2) rfl ((qw (F := wj) (g := zd 0) (h := zh (.int 4)) rfl rfl).trans e2))) (by decide) (by decide) (by lia) (by lia)
 have hm : (2 + x - 0).toNat ≤ 5 := by lia
 generalize (2 + x - 0).toNat = m at fr hm
 clear x1 x2 e2
 have rule := jb (g := zy 3) (b := zbb) (l := (zsr m).map fun i : Nat => MV.int (0 + i))
  (fun i lo1 H' => (∃ u3 u4 u5, lo1 = [some (.ref h), some (.int n), some (.ref H.length), u3, u4, u5]) ∧ ∃ (cs : List Nat) (lots : List (List Int)) (p1 : Nat), Hat h c cells p1 H' ∧ H'[H.length]? = some (.list (cs.map .ref)) ∧ zei H' cs lots ∧ lots.length = i ∧ (∀ ca ∈ cs, H.length < ca) ∧ ∀ c ∈ lots, 2 ≤ c.length ∧ c.length ≤ 3 ∧ (c.map zv6).Nodup ∧ ∀ l ∈ c, 1 ≤ l.natAbs ∧ l.natAbs ≤ n)
  (Q := fun lo1 H' => (∃ u3 u4 u5, lo1 = [some (.ref h), some (.int n), some (.ref H.length), u3, u4, u5]) ∧ ∃ (cs : List Nat) (lots : List (List Int)) (p1 : Nat), Hat h c cells p1 H' ∧ H'[H.length]? = some (.list (cs.map .ref)) ∧ zei H' cs lots ∧ LG n lots) (R := fun _ _ _ => False)
  (fun i v lo1 H' hv hI => by
   obtain ⟨⟨u3, u4, u5, hl⟩, cs, lots, p1, L', g1, li, hi0, hcs, gd⟩ := hI
   subst hl
   obtain ⟨hi, rfl⟩ := jk hv
   refine ⟨[some (.ref h), some (.int n), some (.ref H.length), some (.int (0 + (i : Int))), u4, u5], H', rfl, ?_⟩
   obtain ⟨x, H3, e3, x1, x2, L3, k3, f3⟩ := zfa L' (m := 2) (by decide)
   obtain ⟨s, H4, e4, s1, s2, L4, k4, f4⟩ := zfa L3 (m := (n : Int)) (by lia)
   obtain ⟨w, hw⟩ : ∃ w : Nat, 2 + x = w := ⟨(2 + x).toNat, by omega⟩
   have t3 : zq (wo o.add (zh (.int 2)) (we wj [(zd 0), (zh (.int 2))])) (zy 4) [some (.ref h), some (.int n), some (.ref H.length), some (.int (0 + (i : Int))), u4, u5] H' = some (.next, [some (.ref h), some (.int n), some (.ref H.length), some (.int (0 + (i : Int))), some (.int (w : Int)), u5], H3) :=
    wc (i := 4) (by rw [← hw]; exact jt (f := zh (.int 2)) (x := 2) rfl ((qw (F := wj) (g := zd 0) (h := zh (.int 2)) rfl rfl).trans e3)) (by simp)
   have t4 : zq (we wj [(zd 0), (zd 1)]) (zy 5) [some (.ref h), some (.int n), some (.ref H.length), some (.int (0 + (i : Int))), some (.int (w : Int)), u5] H3 = some (.next, [some (.ref h), some (.int n), some (.ref H.length), some (.int (0 + (i : Int))), some (.int (w : Int)), some (.int s)], H4) :=
    wc (i := 5) ((qw (F := wj) (g := zd 0) (h := zd 1) rfl rfl).trans e4) (by simp)
   obtain ⟨c0, H5, p5, e5, L5, k5, f5, hc0⟩ := zp7 (u2 := some (.ref H.length)) (u3 := some (.int (0 + (i : Int)))) (w := w) L4 hn hn6 s1 s2 (by lia)
   have fall : ∀ a, a ≠ h → H5[a]? = H'[a]? := fun a ha => ((f5 a ha).trans (f4 a ha)).trans (f3 a ha)
   have g5 : H5[H.length]? = some (.list (cs.map .ref)) := (fall _ (by lia)).trans g1
   have g4 : H4[H.length]? = some (.list (cs.map .ref)) := ((f4 _ (by lia)).trans (f3 _ (by lia))).trans g1
   have hlt := jf g5
   have li5 : zei H5 cs lots := ⟨li.1, fun i ca hi => by
    obtain ⟨d, h1, h2⟩ := li.2 i ca hi
    exact ⟨d, h1, (fall ca (by have := hcs ca (zsm hi); lia)).trans h2⟩⟩
   have t5 := qu (f := zd 2) (a := H.length) (lo := [some (.ref h), some (.int n), some (.ref H.length), some (.int (0 + (i : Int))), some (.int (w : Int)), some (.int s)]) rfl e5 ⟨_, g4⟩ (za3 g5) (by rw [zsk, li.1, hi0]; lia)
   have : zbb [some (.ref h), some (.int n), some (.ref H.length), some (.int (0 + (i : Int))), u4, u5] H' = some (.next, [some (.ref h), some (.int n), some (.ref H.length), some (.int (0 + (i : Int))), some (.int (w : Int)), some (.int s)], (H5 ++ [il c0]).set H.length (.list (cs.map .ref ++ [.ref H5.length]))) :=
    (zj t3).trans ((zj t4).trans ((zj t5).trans rfl))
   rw [this]
   have cl : c0.length = w := by
    have := congrArg List.length hc0
    rw [zsk, zsk, zts] at this
    exact this
   refine ⟨⟨_, _, _, rfl⟩, cs ++ [H5.length], lots ++ [c0], p5, ?_, ?_, li5.add hlt (fun ca hca => by have := hcs ca hca; lia), by rw [zs1, hi0]; rfl, fun ca hca => ?_, fun d hd => ?_⟩
   ·have q1 := jf L5.hat
    have q2 := jf L5.held
    exact L5.keep (by rw [zsn (by lia), zst q2]) (by rw [zsn (by lia), zst q1])
   ·rw [zsy (by simp; lia), zs3]; rfl
   ·rcases zs0.mp hca with q | q
    ·exact hcs ca q
    ·rw [zsq.mp q]; exact hlt
   ·rcases zs0.mp hd with q | q
    ·exact gd d q
    ·rw [zsq.mp q]
     refine ⟨by lia, by lia, by rw [hc0]; exact va_nd hn hn6 s1 s2 (by lia), fun l hl => ?_⟩
     have : l.natAbs ∈ c0.map zv6 := zs5 hl
     rw [hc0] at this
     obtain ⟨k, _, ek⟩ := zso.mp this
     rw [← ek]; exact va_rng hn)
  (fun lo1 H' hI => by obtain ⟨a, cs, lots, p1, L', g1, li, hi0, hcs, gd⟩ := hI; exact ⟨a, cs, lots, p1, L', g1, li, by rw [hi0, zsk, zts]; exact hm, gd⟩)
  (lo := [some (.ref h), some (.int n), some (.ref H.length), none, none, none]) (H := H2) ⟨⟨none, none, none, rfl⟩, [], [], p + 1, L2, g2, ⟨rfl, fun i ca hi => by simp at hi⟩, rfl, fun ca hca => (nomatch hca), fun d hd => (nomatch hd)⟩
 rw [← fr] at rule
 obtain ⟨lo3, H3, s3, ⟨u3, u4, u5, rfl⟩, cs, lots, p1, L3, g3, li, G⟩ := rule.next
 refine hq0 ?_
 exact ⟨H.length, cs, lots, p1, H3, y8 rfl (lo' := [some (.ref h), some (.int n), some (.ref H.length), u3, u4, u5]) ((zj s1).trans ((zj s3).trans (wq (qc (f := zd 2) (v := .ref H.length) rfl)))), L3, g3, li, G⟩
end
end Mine
namespace Mine
section
variable {n h c p : Nat} {cells : List Int} {lots : List (List Int)} {H H1 : St} {c0 : List Int} {t u : T}
theorem zei.more {cs : List Nat} (L : zei H cs lots) : zei (H ++ [il c0]) (cs ++ [H.length]) (lots ++ [c0]) := by
 refine ⟨by rw [zs1, zs1, L.1]; rfl, fun i ca hi => ?_⟩
 by_cases q : i < cs.length
 ·rw [zst q] at hi
  obtain ⟨d, h1, h2⟩ := L.2 i ca hi
  exact ⟨d, za3 h1, za3 h2⟩
 ·rw [zs2 (by lia)] at hi
  have : i - cs.length = 0 := by
   have := (zsl.mp hi).1
   simp at this; assumption
  rw [this] at hi
  cases hi
  exact ⟨c0, by rw [zs2 (by rw [← L.1]; lia), ← L.1, this]; rfl, by rw [zs2 (zwt _), zww]; rfl⟩
theorem zoo {f : DE} {lo : Lo} {q k : Nat} {cs : List Nat} (hf : f lo H = some (.ref k, H)) (hk : H[k]? = some (.list (cs.map .ref))) (L : zei H cs lots) (hq : lo.length = q) (hl : lots.length ≤ 1000) (h3 : ∀ c0 ∈ lots, c0.length ≤ 1000) :
  ∃ (cs' : List Nat) (H2 : St), gr q 1 f (zy q) zah (z4 b.list [(zd q)]) lo H = some (.ref H2.length, H2 ++ [.list (cs'.map .ref)]) ∧ zei H2 cs' lots ∧ H.length ≤ H2.length ∧ ∀ a, a < H.length → H2[a]? = H[a]? := by
 unfold gr zb3
 rw [hf]
 simp only [bnd_some, zdj, hk]
 rw [if_pos hq]
 have lget : ∀ (u : MV) H, zd q (lo ++ [some u]) H = some (u, H) := fun u H => jc (by rw [zs2 (by lia)]; simp [hq])
 have hg : ∀ v (u : Option MV) H, zy q v (lo ++ [u]) H = some (lo ++ [some v], H) := fun v u H => by
  unfold zy
  rw [if_pos (by simp; lia), zt8 _ _ (by lia)]
  simp [hq]
 obtain ⟨acc, H2, e1, cs', q1, q2, q3, q4⟩ := zjh (src := zld k) (g := zy q) (t := zah) (e := z4 b.list [(zd q)]) (l := cs.map .ref)
  (fun i acc lo' H' => (∃ u, lo' = lo ++ [u]) ∧ ∃ cs' : List Nat, acc = cs'.map .ref ∧ zei H' cs' (lots.take i) ∧ H.length ≤ H'.length ∧ ∀ a, a < H.length → H'[a]? = H[a]?)
  (Q := fun acc H' => ∃ cs' : List Nat, acc = cs'.map .ref ∧ zei H' cs' lots ∧ H.length ≤ H'.length ∧ ∀ a, a < H.length → H'[a]? = H[a]?)
  (fun i acc lo' H' hI => by obtain ⟨_, cs', _, _, _, q4⟩ := hI; simp only [zld, q4 k (jf hk), hk])
  (fun i v acc lo' H' hv hI => by
   obtain ⟨⟨u, hu⟩, cs', q1, q2, q3, q4⟩ := hI
   subst hu
   rw [zsu] at hv
   obtain ⟨ca, ho, rfl⟩ := zvv.mp hv
   obtain ⟨c0, g1, g2⟩ := L.2 i ca ho
   have et : lots.take (i + 1) = lots.take i ++ [c0] := by rw [zud, g1]; rfl
   have h0 : H'[ca]? = some (il c0) := (q4 ca (jf g2)).trans g2
   refine ⟨_, H', true, H', hg _ u H', rfl, ?_⟩
   rw [if_pos rfl]
   refine ⟨.ref H'.length, H' ++ [il c0], ?_, ?_, ⟨_, rfl⟩, cs' ++ [H'.length], by rw [q1, zs3]; rfl, by rw [et]; exact q2.more, by simp; lia, fun a ha => (zst (by lia)).trans (q4 a ha)⟩
   ·unfold z4
    rw [um (lget _ _)]
    dsimp only [bnd]
    rw [list_of h0 (zbx (by rw [zsk]; have := h3 c0 (zsm g1); lia))]
   ·have := q2.1
    rw [zti] at this
    rw [q1, zsk]; omega)
  (fun acc lo' H' hI => by obtain ⟨_, cs', q1, q2, q3, q4⟩ := hI; exact ⟨cs', q1, by rw [zsk, L.1, zto] at q2; exact q2, q3, q4⟩)
  (lo := lo ++ [none]) (H := H) ⟨⟨none, rfl⟩, [], rfl, ⟨rfl, fun i ca hi => by simp at hi⟩, zwt _, fun _ _ => rfl⟩
 refine ⟨cs', H2, ?_, q2, q3, q4⟩
 simp only [zug, e1, zv0, q1]
theorem zr5 {f g k : DE} {lo : Lo} {H H1 H2 H3 : St} {u v w : MV} (hf : f lo H = some (u, H1)) (hg : g lo H1 = some (v, H2)) (hk : k lo H2 = some (w, H3)) : j0 [f, g, k] lo H = some (.tup [u, v, w], H3) := by
 unfold j0; rw [vu hf hg hk]; rfl
theorem zp3 {f : DE} {lo : Lo} {H H1 : St} {x y z : MV} (hf : f lo H = some (.tup [x, y, z], H1)) (hl : lo.length = 13) : zbk f [4, 5, 6] lo H = some (.next, ((lo.set 6 (some z)).set 5 (some y)).set 4 (some x), H1) := by
 unfold zbk
 rw [hf]
 show (zau [zy 6, zy 5, zy 4] [z, y, x] lo H1).map _ = _
 simp [bnd_some, zau, zy, hl]
theorem ev_rep {f g : DE} {lo : Lo} {H H1 : St} {x : MV} {a : Nat} {m : Int} (hf : f lo H = some (.ref a, H1)) (ha : H1[a]? = some (.list [x])) (hg : g lo H1 = some (.int m, H1)) (h0 : 0 ≤ m) (h1 : m ≤ 1000) : wo o.mul f g lo H = some (.ref H1.length, H1 ++ [.list (zsp m.toNat x)]) := by
 rw [zbh hf hg]
 show (y4 H1[a]? _) = _
 rw [ha]
 show (if 0 ≤ m ∧ m ≤ 1000000 then _ else none) = _
 rw [if_pos ⟨h0, by lia⟩]
noncomputable def mapI (f : Int → Int) : MV → MV
 | .int i => .int (f i)
 | v => v
theorem zpv {l : List Int} (f : Int → Int) : (l.map MV.int).map (mapI f) = (l.map f).map .int := by
 rw [ztc, ztc]; rfl
theorem hat_ok (is : List Int) (h : is.length ≤ 63) : ∃ cells : List Int, zq (zg9 2 (gr 13 1 (kx (zd 0) none (some (zh (.int 60))) none) (zy 13) zah (wo o.mod (z4 b.abs [(zd 13)]) (zh (.int 1000003)))) (zh (.int 0))) (zy 1) (some (.frz is) :: zsp 12 none) [] = some (.next, some (.frz is) :: some (.ref 2) :: zsp 11 none, [il (is.take 60), il cells, .obj 2 [.ref 1, .int 0]]) ∧ Hat 2 1 cells 0 [il (is.take 60), il cells, .obj 2 [.ref 1, .int 0]] := by
 have e0 : kx (zd 0) none (some (zh (.int 60))) none (some (.frz is) :: zsp 12 none) [] = some (.ref 0, [il (is.take 60)]) := by
  have sm : small (is.map MV.int).length = true := by simp [small]; lia
  show (if small (is.map MV.int).length = true then some (MV.ref 0, [MO.list (zmz (is.map MV.int) none (some ((60 : Nat) : Int)) none)]) else none) = _
  rw [if_pos sm, zh6, ← zt9]
 have e1 := zdz (q := 13) (f := kx (zd 0) none (some (zh (.int 60))) none) (t := zah) (e := wo o.mod (z4 b.abs [(zd 13)]) (zh (.int 1000003))) (lo := some (.frz is) :: zsp 12 none) (H := []) (fun _ => true) (mapI fun i => (i.natAbs : Int).fmod 1000003) e0 (l := (is.take 60).map .int) rfl rfl (by rw [zsk, zti]; lia) (fun _ _ => rfl)
  (fun v hv _ => by
   obtain ⟨i, hi, rfl⟩ := zso.mp hv
   exact (zbh (xk (f := zd 13) (i := i) rfl) (show zh (.int 1000003) _ _ = some (.int 1000003, _) from rfl)).trans rfl)
 rw [zuj.mpr (fun _ _ => rfl), zpv] at e1
 have hpos : ∀ c ∈ (is.take 60).map (fun i => (i.natAbs : Int).fmod 1000003), 0 ≤ c := fun c hc => by
  obtain ⟨i, _, rfl⟩ := zso.mp hc
  exact zwe _ (by decide)
 have hcl : ((is.take 60).map (fun i => (i.natAbs : Int).fmod 1000003)).length ≤ 60 := by rw [zsk, zti]; lia
 generalize (is.take 60).map (fun i => (i.natAbs : Int).fmod 1000003) = cells at e1 hpos hcl
 refine ⟨cells, ?_, rfl, rfl, hpos, hcl, by decide⟩
 refine (wc (H1 := [il (is.take 60), il cells, .obj 2 [.ref 1, .int 0]]) (v := .ref 2) ?_ (by simp)).trans rfl
 unfold zg9
 rw [e1]; rfl
theorem zpg {H3 H4 H5 : St} {cells : List Int} {x : MO} (L : Hat h c cells p H3) (B1 : zjj t H3 H4) (B2 : zjj u H4 H5) (S1 : zpc n lots t) (S2 : zpc n lots u) : SW n lots h c (H5.length + 1) cells 0 p t u (zsp (n + 1) (-1)) ((H5 ++ [x]) ++ [il (zsp (n + 1) (-1))]) := by
 have q1 := jf L.hat
 have q2 := jf L.held
 have k1 := B1.len
 have k2 := B2.len
 have low : ∀ a, a < H3.length → ((H5 ++ [x]) ++ [il (zsp (n + 1) (-1))])[a]? = H3[a]? := fun a ha => by
  rw [zst (by simp; lia), zst (by lia), B2.ext a (by lia), B1.ext a ha]
 have a1 : ∀ k a, t.at k = some a → a < H4.length ∧ H3.length ≤ a := fun k a e => ⟨B1.rep.lt e, B1.new k a e⟩
 have a2 : ∀ k a, u.at k = some a → a < H5.length ∧ H4.length ≤ a := fun k a e => ⟨B2.rep.lt e, B2.new k a e⟩
 refine ⟨⟨L.keep (low c q2) (low h q1), ?_, B2.rep.app.app, ?_, fun y hy => (nomatch hy), fun k a e => ?_, fun k a e => ?_, fun k k' a e1 e2 => ?_, ⟨by lia, by lia⟩⟩, S1.s, S2.s, S1.ph, ⟨fun l => by rw [S1.tr, S2.tr], by rw [S1.st, S2.st], fun g s1 s2 e1 _ _ => by rw [S1.st] at e1; simp at e1, fun l hl => by rw [S1.tr] at hl; (nomatch hl), S1.ac.trans S2.ac.symm⟩, fun v => ?_⟩
 ·exact (B1.rep.frame fun k a e => B2.ext a (a1 k a e).1).app.app
 ·rw [zs2 (by simp)]; simp
 ·have := a1 k a e
  exact ⟨by lia, by lia, by lia, fun y hy => (nomatch hy)⟩
 ·have := a2 k a e
  exact ⟨by lia, by lia, by lia, fun y hy => (nomatch hy)⟩
 ·have := a1 k a e1
  have := a2 k' a e2
  lia
 ·rw [S1.ac, zsz, zt2]
  split
  ·exact zv7 _
  ·exact zv7 _
theorem zno {la : Nat} {last : List Int} {i : Nat} (S : SW n lots h c la cells i p t u last H) {lo : Lo} (h4 : lo[4]? = some (some (.ref t.r))) (h5 : lo[5]? = some (some (.ref u.r))) :
  ∃ H', zch .Eq (we ud [(zd 4)]) (we ud [(zd 5)]) lo H = some (.bool true, H') := by
 refine zvt fun hq0 => ?_
 obtain ⟨r, U, a, t', H1, e1, O1, ka, ga, la', R1⟩ := zml S.lw.r1 S.s1
 have L1 := S.lw.op O1
 obtain ⟨r2, U2, a2, u', H2, e2, O2, kb, gb, lb, R2⟩ := zml L1.r2 S.s2
 have hr : r = r2 := by
  rw [← S.pr.frees S.s1.ti S.s2.ti, ← S.pr.ac] at R2
  exact (R1.same (zii S.s1.ti) R2 (by lia)).1
 subst hr
 have ga2 : H2[a]? = some (il r) := (O2.out.2 a (fun k e => absurd (S.lw.r2.lt e) (by lia)) (jf ga)).trans ga
 refine hq0 ?_
 exact ⟨H2, zex ((j3 (F := ud) (g := zd 4) (jc h4)).trans e1) ((j3 (F := ud) (g := zd 5) (jc h5)).trans e2) (zky (zo2 (k := 6) ga2) (zo2 (k := 6) gb) (zdl (zc1 r) (by decide)))⟩
end
end Mine
namespace Mine
section
variable {n h c p : Nat} {cells : List Int} {lots : List (List Int)} {H H1 : St} {t u : T}
inductive LI (n la : Nat) (cells : List Int) (lots : List (List Int)) (t u : T) (w0 w3 : Option MV) (i : Nat) (lo1 : Lo) (H' : St) : Prop
 | mk (p : Nat) (t' u' : T) (last : List Int) (w7 w8 w9 w10 w11 w12 : Option MV) (hl : lo1 = wlo n 2 la t u w0 w3 w7 w8 w9 w10 w11 w12) (S : SW n lots 2 1 la cells i p t' u' last H') (r1 : t'.r = t.r) (r2 : u'.r = u.r)
theorem zpy (is : List Int) (hlen : is.length ≤ 63) : ∃ lo' H', zq0 (some (.frz is) :: zsp 12 none) [] = some (.ret (.bool true), lo', H') := by
 refine zvt fun hq0 => ?_
 obtain ⟨cells, s1, L0⟩ := hat_ok is hlen
 generalize [il (is.take 60), il cells, .obj 2 [.ref 1, .int 0]] = H0 at s1 L0
 obtain ⟨x, H1, e2, x1, x2, L1, -, -⟩ := zfa L0 (m := 3) (by decide)
 obtain ⟨n, hn⟩ : ∃ n : Nat, 4 + x = n := ⟨(4 + x).toNat, by lia⟩
 have n4 : 4 ≤ n := by lia
 have n6 : n ≤ 6 := by lia
 have s2 : zq (wo o.add (zh (.int 4)) (we wj [(zd 1), (zh (.int 3))])) (zy 2) (some (.frz is) :: some (.ref 2) :: zsp 11 none) H0 = some (.next, some (.frz is) :: some (.ref 2) :: some (.int n) :: zsp 10 none, H1) :=
  wc (i := 2) (by rw [← hn]; exact jt (f := zh (.int 4)) (x := 4) rfl ((qw (F := wj) (g := zd 1) (h := zh (.int 3)) rfl rfl).trans e2)) (by simp)
 clear e2
 obtain ⟨k, cs, lots, p2, H2, e3, L2, gk, li, G⟩ := zj3 L1 n4 n6
 have s3 : zq (we za2 [(zd 1), (zd 2)]) (zy 3) (some (.frz is) :: some (.ref 2) :: some (.int n) :: zsp 10 none) H1 = some (.next, some (.frz is) :: some (.ref 2) :: some (.int n) :: some (.ref k) :: zsp 9 none, H2) :=
  wc (i := 3) ((qw (F := za2) (g := zd 1) (h := zd 2) rfl rfl).trans e3) (by simp)
 clear e3
 have few := G.few
 obtain ⟨cs', K, eK, li', kK, fK⟩ := zoo (f := zd 3) (lo := some (.frz is) :: some (.ref 2) :: some (.int n) :: some (.ref k) :: zsp 9 none) (q := 13) (H := H2) rfl gk li rfl (by lia) (fun c0 hc => by have := (G.good c0 hc).2.1; lia)
 have L3 : Hat 2 1 cells p2 (K ++ [.list (cs'.map .ref)]) := L2.keep (by rw [zst (zw2 (jf L2.held) kK), fK _ (jf L2.held)]) (by rw [zst (zw2 (jf L2.hat) kK), fK _ (jf L2.hat)])
 have up3 : ∀ a, a < H2.length → (K ++ [.list (cs'.map .ref)])[a]? = H2[a]? := fun a ha => (zst (zw2 ha kK)).trans (fK a ha)
 have g3 : (K ++ [.list (cs'.map .ref)])[K.length]? = some (.list (cs'.map .ref)) := zdw
 have li3 : zei (K ++ [.list (cs'.map .ref)]) cs' lots := li'.keep fun a ha => zst ha
 have k3 : H2.length ≤ (K ++ [MO.list (cs'.map .ref)]).length := by simp; lia
 generalize K ++ [.list (cs'.map .ref)] = H3 at eK L3 up3 g3 li3 k3
 obtain ⟨t, H4, e4, B1, S1⟩ := zek g3 li3 G (by lia) n6
 have up4 : ∀ a, a < H2.length → H4[a]? = H2[a]? := fun a ha => (B1.ext a (by lia)).trans (up3 a ha)
 obtain ⟨u, H5, e5, B2, S2⟩ := zek ((up4 k (jf gk)).trans gk) (li.keep up4) G (by lia) n6
 have S0 := zpg (x := .list [.int (-1)]) L3 B1 B2 S1 S2
 have e6 := ev_rep (f := wv [(uf (zh (.int 1)))]) (g := wo o.add (zd 2) (zh (.int 1))) (lo := some (.frz is) :: some (.ref 2) :: some (.int n) :: some (.ref k) :: zsp 9 none) (H := H5) (H1 := H5 ++ [.list [.int (-1)]]) (x := .int (-1)) (a := H5.length) (m := (n : Int) + 1) rfl zdw (jt (f := zd 2) (x := (n : Int)) rfl rfl) (by lia) (by lia)
 rw [show MO.list (zsp ((n : Int) + 1).toNat (.int (-1))) = il (zsp (n + 1) (-1)) by rw [show ((n : Int) + 1).toNat = n + 1 by rfl]; show _ = MO.list ((zsp (n + 1) (-1)).map MV.int); rw [List.map_replicate], show (H5 ++ [MO.list [.int (-1)]]).length = H5.length + 1 by simp] at e6
 have s4 := zp3 (zr5 ((qw (F := vk) (g := zd 2) rfl eK).trans e4) ((qw (F := vk) (g := zd 2) (h := zd 3) rfl rfl).trans e5) e6) rfl
 change zbk _ _ _ _ = some (.next, wlo n 2 (H5.length + 1) t u (some (.frz is)) (some (.ref k)) none none none none none none, _) at s4
 generalize (H5 ++ [MO.list [.int (-1)]]) ++ [il (zsp (n + 1) (-1))] = H6 at S0 s4
 generalize H5.length + 1 = la at S0 s4
 clear e6 e5 e4 eK up3 up4 g3 li3 L3 B1 B2
 obtain ⟨y, H7, e7, y1, y2, L7⟩ := S0.lw.pull (m := 3) (by decide)
 have S7 : SW n lots 2 1 la cells 0 (p2 + 1) t u (zsp (n + 1) (-1)) H7 := ⟨L7, S0.s1, S0.s2, S0.ph, S0.pr, S0.acb⟩
 have fr := xa (g := zy 7) (b := zht) (lo := wlo n 2 la t u (some (.frz is)) (some (.ref k)) none none none none none none) (H := H6) (j2 (jt (f := zh (.int 2)) (x := 2) rfl ((qw (F := wj) (g := zd 1) (h := zh (.int 3)) rfl rfl).trans e7))) (by decide) (by decide) (by lia) (by lia)
 have hm : (2 + y - 0).toNat ≤ 4 := by lia
 generalize (2 + y - 0).toNat = m at fr hm
 clear y1 y2 e7 L7
 have rule := jb (g := zy 7) (b := zht) (l := (zsr m).map fun i : Nat => MV.int (0 + i))
  (LI n la cells lots t u (some (.frz is)) (some (.ref k)))
  (Q := fun lo1 H' => ∃ i, LI n la cells lots t u (some (.frz is)) (some (.ref k)) i lo1 H') (R := fun _ _ _ => False)
  (fun i v lo1 H' hv hI => by
   obtain ⟨p, t', u', last, w7, w8, w9, w10, w11, w12, hl, S, hr, hr'⟩ := hI
   subst hl
   obtain ⟨hi, rfl⟩ := jk hv
   refine ⟨wlo n 2 la t u (some (.frz is)) (some (.ref k)) (some (.int (0 + (i : Int)))) w8 w9 w10 w11 w12, H', rfl, ?_⟩
   have T := zpx S G (by lia) (v0 := some (.frz is)) (v3 := some (.ref k)) (v7 := some (.int (0 + (i : Int)))) (v8 := w8) (v9 := w9) (v10 := w10) (v11 := w11) (v12 := w12)
    (P := LI n la cells lots t u (some (.frz is)) (some (.ref k)) (i + 1))
    (Q := fun lo1 H' => ∃ i, LI n la cells lots t u (some (.frz is)) (some (.ref k)) i lo1 H')
    (fun p2 t2 u2 l2 H2 x8 x9 x10 x11 x12 S2 q1 q2 => ⟨p2, t2, u2, l2, _, x8, x9, x10, x11, x12, zeb hr hr', S2, q1.trans hr, q2.trans hr'⟩)
    (fun p2 t2 u2 l2 H2 x8 x9 x10 x11 x12 S2 q1 q2 => ⟨i + 1, p2, t2, u2, l2, _, x8, x9, x10, x11, x12, zeb hr hr', S2, q1.trans hr, q2.trans hr'⟩)
   rw [zeb hr hr'] at T
   exact T)
  (fun lo1 H' hI => ⟨_, hI⟩)
  (lo := wlo n 2 la t u (some (.frz is)) (some (.ref k)) none none none none none none) (H := H7) ⟨p2 + 1, t, u, zsp (n + 1) (-1), none, none, none, none, none, none, rfl, S7, rfl, rfl⟩
 rw [← fr] at rule
 obtain ⟨lo8, H8, s5, i, hI⟩ := rule.next
 obtain ⟨p, t', u', last, w7, w8, w9, w10, w11, w12, rfl, S, hr, hr'⟩ := hI
 obtain ⟨H9, e9⟩ := zno S (lo := wlo n 2 la t u (some (.frz is)) (some (.ref k)) w7 w8 w9 w10 w11 w12) (by rw [hr]; rfl) (by rw [hr']; rfl)
 refine hq0 ?_
 exact ⟨_, H9, (zj s1).trans ((zj s2).trans ((zj s3).trans ((zj s4).trans ((zj s5).trans (wq (qc e9))))))⟩
end
end Mine
namespace Mine
theorem hp (args : List WData) : PySem.Challenge.rw_qz0012_02.row.claim.post args (.bool true) args = true := by
 show (WShape.has [] (.bool true) .bool && WTm.holds [] (.eq .res (.lit (.bool true))) { args := args, res := some (.bool true), after := args }) = true
 have h1 : WShape.has [] (.bool true) .bool = true := by rfl
 rw [h1, Bool.true_and]
 unfold WTm.holds
 have h2 : same (WData.bool true) (WData.bool true) = true := by simp [same]
 simp only [WTm.value, h2]
theorem join {w : World} {s₁ s : Shared} {mg mb : Str → Option Value} {p : Program} {loose : List Str} (KX : (K0 w.params).In s₁.heap) (T : TopRead p loose mg mb s₁.heap) (hg : s₁.gens = #[]) {script : Addr} {vs : List Value} {is : List Int}
  (hL : s₁.heap.IsList script vs.toArray) (hI : IntsAre vs is) (hlen : ¬ (63 : Int) < is.length) {m : Str → Option Value} (F : Fr s₁.heap s₁.heap.objs.size s.heap m) (hm : m "script" = some (.ref script)) (hos : s.os = s₁.os) (hgs : s.gens = s₁.gens)
  {A : Around} (R : zal 6 A) {qual : Str} {scope : Scope} {a : Addr} {cd : Value} (hk : scope.kind = .function) (hnc : (scope.names.all fun p => decide (p.2 ≠ .cell)) = true) {body : List Stmt} {cl : Str → Option Addr} {mean : ExcName → Option Value} {args : List WData} {E : Value → Shared → Prop}
  (hb : SB (W1 ⟨w, s₁.heap, mg, mb, p, loose, KX, T⟩) 6 (envOf qual scope s₁.heap.objs.size a cd) [some "script", some "hat", some "many", some "lots", some "one", some "even", some "last", some "lap", some "bumped", some "var", some "lit", some "goes", some "goal"] body zq0) (hpost : PySem.Challenge.rw_qz0012_02.row.claim.post args (.bool true) args = true) (hraise : ∀ cls, PySem.Challenge.rw_qz0012_02.row.claim.raises args cls = false) :
  wpAny (model PySem.Challenge.rw_qz0012_02.row.prog w) A (execs body (envOf qual scope s₁.heap.objs.size a cd)) (fun f s' => GoodW PySem.Challenge.rw_qz0012_02.row.claim cl mean args s₁ (.ok (.ret (match f with | .ret v => v | _ => .none))) s') E s := by
 obtain ⟨lo', H', hf⟩ := zpy is (by omega)
 have hfree : s₁.heap.get? s₁.heap.objs.size = none := ui _
 have S0 : Sim (W1 ⟨w, s₁.heap, mg, mb, p, loose, KX, T⟩) [] [] s.heap := ⟨F.keep, rfl, zty, (fun _ h => nomatch h), fun i o e => by simp at e⟩
 have noc : ∀ x, scope.names.lookup x = some .cell → False := fun x hx => by
  have := zun.mp hnc _ (mem_of_lookup hx)
  simp at this
 have L0 : Loc (W1 ⟨w, s₁.heap, mg, mb, p, loose, KX, T⟩) (envOf qual scope s₁.heap.objs.size a cd) [some "script", some "hat", some "many", some "lots", some "one", some "even", some "last", some "lap", some "bumped", some "var", some "lit", some "goes", some "goal"] (some (.frz is) :: zsp 12 none) [] s.heap := by
  refine ⟨hk, rfl, rfl, fun b hb => ?_, zay (by decide), ⟨m, F.ns, fun i x v h1 h2 h3 => ?_⟩, fun i x v h1 h2 h3 => (noc x h2).elim, fun x hx => (noc x hx).elim, fun x c hc => by simp [envOf] at hc⟩
  ·rcases hb with rfl | hb
   ·obtain ⟨o, es, ep, e1, e2, _⟩ := F.ns
    exact ⟨by simp, hfree, o, e1, by unfold qo; rw [e2]⟩
   ·simp [envOf] at hb
  ·cases i with
   | zero =>
    simp at h1 h3
    subst h1; subst h3
    exact ⟨_, hm, .frz _ _ vs hL hI⟩
   | succ i =>
    rw [ztw] at h3
    have := zsm h3
    rw [zum] at this
    cases this.2
 refine noE (wpAny_mono (hb A [] _ [] s _ lo' H' hf R S0 L0) (fun y s' ⟨φ', E', L', rf⟩ => ?_) fun _ _ x => x.elim)
 cases rf with | ret r =>
 cases r
 obtain ⟨h', t', rfl⟩ := E'.same
 exact ⟨.inl ⟨_, _, [], rfl, hraise, .bool true, hpost, fun _ => ⟨zty, (fun _ h => nomatch h)⟩⟩, E'.sim.base, hos, hgs.trans hg⟩
noncomputable def view : Program := { PySem.Challenge.rw_qz0012_02.row.prog with main := { PySem.Challenge.rw_qz0012_02.row.prog.main with body := (PySem.Challenge.rw_qz0012_02.row.prog.main.body.eraseIdx 11).eraseIdx 1 } }
noncomputable abbrev hk := kHook K0 ads (fun _ => rfl)
theorem left2 : LeftO PySem.Challenge.rw_qz0012_02.row.prog view [] (fun s => xlAt view [] s && recOk (RowW.records PySem.Challenge.rw_qz0012_02.row.toRowW) s) (Hook.obs hk) (Hook.val hk) 4338 := by intro w; kernel_rfl
theorem said2 : PySem.Challenge.rw_qz0012_02.wellSaid = true := by kernel_rfl
end Mine
theorem PySem.Challenge.cw_qz0012_02_holds : PySem.Challenge.rw_qz0012_02.Holds := by
 w_on
 refine holds_law Mine.said2 fun said => ?_
 refine PySem.W.holds_open (q := Mine.view) (loose := []) (Xt := fun s => xlAt Mine.view [] s && recOk (RowW.records PySem.Challenge.rw_qz0012_02.row.toRowW) s) (XP := XL Mine.view []) (Yf := Hook.obs Mine.hk) (Ya := Hook.val Mine.hk) (YP := Hook.says Mine.hk) (N := 4338) Mine.left2 (Hook.of Mine.hk) (Hook.keeps Mine.hk) (fun s e => xl_of s (zxv.mp e).1) XL.keeps (by rfl) (by rfl) (by rfl) (fun s e => recFacts_of (zxv.mp e).2) (by rfl) said (by decide +kernel) ⟨rfl, rfl, rfl, rfl, rfl, by decide +kernel⟩ ?hw ?hc
 (case hw => w_witness2)
 intro w s₀ s₁ mg mb G Y fa o pm cd doc dV kV ho hd hcd hD hmg hg args vals as hpre hlay hrd hwl hlo
 have KX := kIn_of Y
 refine Ground.open G ?_
 intro T B D TE TW
 try (refine guard_noD D (by decide +kernel) ?_; clear D)
 obtain ⟨_, _, M⟩ := bmod_of_top T
 have TA := at_of_top T
 try (obtain ⟨_, _, he, Bs⟩ := based_of_top T rfl hmg ho hd; have he' : cd = _ := he; subst he'; clear he)
 clear hmg
 wrow_args hpre hlay hrd hwl hlo
 first | refine callC_kw (enter_call ?_) | refine enter_call ?_ | refine callC_kw (enter_callW ?_) | refine enter_callW ?_ | w_how
 w_top on
 try refine codeAny_mono ?_ (fun _ _ g => GoodW.toG g)
 have Kb := below_caller (Top.heap T)
 w_call any ho hd hcd hD T F
 refine Mine.join (by assumption) (topRead_of (by assumption)) (by assumption) (by assumption) (by assumption) (by assumption) (by assumption) (by rfl) (by rfl) (by rfl) ⟨rfl, by show 1 + claimMargin + 1 + 6 ≤ 600; decide, by show 4 + 3 + 20 * 6 ≤ 8000; decide⟩ (by rfl) (by rfl) ?_ ?_ ?_
 ·generalize Mine.Par.mk _ _ _ _ _ _ _ _ = p
  unfold Mine.zq0
  open Mine in
  exact (zi (zg (zpk (by rfl) (by rfl) (by decide) (zcm (za1 (csl := [none, none, none, none, none, none, none, none, none, none, none, none, none, some "cell"]) (by kernel_rfl) (fun C => zt) (fun C => zf8) (fun C => (yl zjm (zb (vh p) vf (zo zl)) z8))) (zdb zl xw (ze9 z8) xw) (fun _ => by rfl)) z8) zt)
 (zi (zg (yl gh z8 (zf (qq p) (qp p) (zn zl (zo z8)))) zt)
 (zi (zg (zf (zj6 p) (zj5 p) (zn zl (zo zl))) zt)
 (zi (zi6 (xs := ["one", "even", "last"]) (zdt (zn (zf (zeo p) (zem p) (zn zl (zo (zcm (za1 (csl := [none, none, none, none, none, none, none, none, none, none, none, none, none, some "lits"]) (by kernel_rfl) (fun C => zt) (fun C => zf8) (fun C => (zb (znh p) znf (zo zl)))) zl (fun _ => by rfl))))) (zn (zf (zeo p) (zem p) (zn zl (zo zl))) (zo (yl zco (qz (zo (xf z8))) (yl gh zl z8)))))) (by rfl) (by rfl) (by rfl) (zfp (by rfl) (.inl (by rfl)) (by rfl) (.inl (by rfl)) (by rfl) (.inl (by rfl))))
 (zi (zr (zb (je p) jd (zo (yl gh z8 (zf (qq p) (qp p) (zn zl (zo z8)))))) zt (zi (qx (zds (zv (zf (zck p) (zcj p) (zn zl (zn zl (zo zl)))))) (zi (yk up)
 z6) z6)
 (zi (zg (yl gh z8 (zf (qq p) (qp p) (zn zl (zo zl)))) zt)
 (zi (zx (zm (zic p) (zbq p) (za (ye p) zl) (zo zl)))
 (zi (zx (zm (zic p) (zbq p) (za (ye p) zl) (zo zl)))
 (zi (zg (zm (xh p) (gl p) (za (ye p) zl) (zo (za (ye p) zl))) zt)
 (zi (qx (zc zl (zm (xh p) (gl p) (za (ye p) zl) (zo (za (ye p) zl)))) (zi (yk up)
 z6) z6)
 (zi (qx (zc zl z8) (zi zjk
 z6) z6)
 (zi (zg (yl zco zl (zf (zc6 p) (zc4 p) (zo zl))) zt)
 (zi (zg (zf (zap p) (zao p) (zn zl (zo zl))) zt)
 (zi (qx (zc zl (zf (zap p) (zao p) (zn zl (zo zl)))) (zi (yk up)
 z6) z6)
 (zi (qx (zds (zv zl)) (zi (zg (zf (qq p) (qp p) (zn zl (zo (zm (jn p) (qy p) zl y7)))) zt)
 (zi (zx (zf (zb7 p) (zb6 p) (zn zl (zn (zs (za (ye p) zl) zl) (zo zl)))))
 (zi (zx (zm (qv p) (y3 p) zl (zo zl)))
 (zi (zx (zm (qv p) (y3 p) zl (zo zl)))
 z6)))) z6)
 (zi (qx (zav (zc (zf (zep p) (zen p) (zo zl)) (zf (zep p) (zen p) (zo zl))) (zav (zc (zm (jn p) (qy p) zl y7) (zm (jn p) (qy p) zl y7)) (zav (zds (zv (zm (zbf p) (vq p) zl y7))) (zav (zds (zv (zm (zbf p) (vq p) zl y7))) zaq)))) (zi (yk up)
 z6) z6)
 z6)))))))))))))
 (zi (yk (ze (zf (zfx p) (zfw p) (zo zl)) (zf (zfx p) (zfw p) (zo zl))))
 z6))))))
 ·exact Mine.hp _
 ·intro cls; rfl
