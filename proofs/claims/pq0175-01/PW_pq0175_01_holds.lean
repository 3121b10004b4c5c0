import PyProof.Rows.All
import Wide.All
import Open.Line
import OpenK.KCell
import OpenK.KDict
import PyProof.Draws
import PyProof.CompFree
import PyProof.Rows.StrStrike
import PyProof.Rows.StrJoin2
import Lean
import PySem.Challenge.RW_pq0175_01
section
set_option Elab.async false
namespace Mine
/-! ### a chain of ∃ and ∧ taken apart, or made, at once -/
theorem x01 {P0 P1 : Prop} {R : Prop} (h : P0 ∧ P1) (t : P0 → P1 → R) : R := t h.1 h.2
theorem x02 {P0 P1 P2 : Prop} {R : Prop} (h : P0 ∧ P1 ∧ P2) (t : P0 → P1 → P2 → R) : R := t h.1 h.2.1 h.2.2
theorem x03 {P0 P1 P2 P3 : Prop} {R : Prop} (h : P0 ∧ P1 ∧ P2 ∧ P3) (t : P0 → P1 → P2 → P3 → R) : R := t h.1 h.2.1 h.2.2.1 h.2.2.2
theorem x04 {P0 P1 P2 P3 P4 : Prop} {R : Prop} (h : P0 ∧ P1 ∧ P2 ∧ P3 ∧ P4) (t : P0 → P1 → P2 → P3 → P4 → R) : R := t h.1 h.2.1 h.2.2.1 h.2.2.2.1 h.2.2.2.2
theorem x05 {P0 P1 P2 P3 P4 P5 : Prop} {R : Prop} (h : P0 ∧ P1 ∧ P2 ∧ P3 ∧ P4 ∧ P5) (t : P0 → P1 → P2 → P3 → P4 → P5 → R) : R := t h.1 h.2.1 h.2.2.1 h.2.2.2.1 h.2.2.2.2.1 h.2.2.2.2.2
theorem x10 {α : Type} {P0 : α → Prop} {R : Prop} (h : ∃ a, P0 a) (t : ∀ a, P0 a → R) : R := h.elim t
theorem x11 {α : Type} {P0 P1 : α → Prop} {R : Prop} (h : ∃ a, P0 a ∧ P1 a) (t : ∀ a, P0 a → P1 a → R) : R := h.elim fun a h => x01 h (t a)
theorem x12 {α : Type} {P0 P1 P2 : α → Prop} {R : Prop} (h : ∃ a, P0 a ∧ P1 a ∧ P2 a) (t : ∀ a, P0 a → P1 a → P2 a → R) : R := h.elim fun a h => x02 h (t a)
theorem x13 {α : Type} {P0 P1 P2 P3 : α → Prop} {R : Prop} (h : ∃ a, P0 a ∧ P1 a ∧ P2 a ∧ P3 a) (t : ∀ a, P0 a → P1 a → P2 a → P3 a → R) : R := h.elim fun a h => x03 h (t a)
theorem x14 {α : Type} {P0 P1 P2 P3 P4 : α → Prop} {R : Prop} (h : ∃ a, P0 a ∧ P1 a ∧ P2 a ∧ P3 a ∧ P4 a) (t : ∀ a, P0 a → P1 a → P2 a → P3 a → P4 a → R) : R := h.elim fun a h => x04 h (t a)
theorem x15 {α : Type} {P0 P1 P2 P3 P4 P5 : α → Prop} {R : Prop} (h : ∃ a, P0 a ∧ P1 a ∧ P2 a ∧ P3 a ∧ P4 a ∧ P5 a) (t : ∀ a, P0 a → P1 a → P2 a → P3 a → P4 a → P5 a → R) : R := h.elim fun a h => x05 h (t a)
theorem x20 {α β : Type} {P0 : α → β → Prop} {R : Prop} (h : ∃ a b, P0 a b) (t : ∀ a b, P0 a b → R) : R := h.elim fun a h => x10 h (t a)
theorem x21 {α β : Type} {P0 P1 : α → β → Prop} {R : Prop} (h : ∃ a b, P0 a b ∧ P1 a b) (t : ∀ a b, P0 a b → P1 a b → R) : R := h.elim fun a h => x11 h (t a)
theorem x22 {α β : Type} {P0 P1 P2 : α → β → Prop} {R : Prop} (h : ∃ a b, P0 a b ∧ P1 a b ∧ P2 a b) (t : ∀ a b, P0 a b → P1 a b → P2 a b → R) : R := h.elim fun a h => x12 h (t a)
theorem x23 {α β : Type} {P0 P1 P2 P3 : α → β → Prop} {R : Prop} (h : ∃ a b, P0 a b ∧ P1 a b ∧ P2 a b ∧ P3 a b) (t : ∀ a b, P0 a b → P1 a b → P2 a b → P3 a b → R) : R := h.elim fun a h => x13 h (t a)
theorem x24 {α β : Type} {P0 P1 P2 P3 P4 : α → β → Prop} {R : Prop} (h : ∃ a b, P0 a b ∧ P1 a b ∧ P2 a b ∧ P3 a b ∧ P4 a b) (t : ∀ a b, P0 a b → P1 a b → P2 a b → P3 a b → P4 a b → R) : R := h.elim fun a h => x14 h (t a)
theorem x25 {α β : Type} {P0 P1 P2 P3 P4 P5 : α → β → Prop} {R : Prop} (h : ∃ a b, P0 a b ∧ P1 a b ∧ P2 a b ∧ P3 a b ∧ P4 a b ∧ P5 a b) (t : ∀ a b, P0 a b → P1 a b → P2 a b → P3 a b → P4 a b → P5 a b → R) : R := h.elim fun a h => x15 h (t a)
theorem x30 {α β γ : Type} {P0 : α → β → γ → Prop} {R : Prop} (h : ∃ a b c, P0 a b c) (t : ∀ a b c, P0 a b c → R) : R := h.elim fun a h => x20 h (t a)
theorem x31 {α β γ : Type} {P0 P1 : α → β → γ → Prop} {R : Prop} (h : ∃ a b c, P0 a b c ∧ P1 a b c) (t : ∀ a b c, P0 a b c → P1 a b c → R) : R := h.elim fun a h => x21 h (t a)
theorem x32 {α β γ : Type} {P0 P1 P2 : α → β → γ → Prop} {R : Prop} (h : ∃ a b c, P0 a b c ∧ P1 a b c ∧ P2 a b c) (t : ∀ a b c, P0 a b c → P1 a b c → P2 a b c → R) : R := h.elim fun a h => x22 h (t a)
theorem x33 {α β γ : Type} {P0 P1 P2 P3 : α → β → γ → Prop} {R : Prop} (h : ∃ a b c, P0 a b c ∧ P1 a b c ∧ P2 a b c ∧ P3 a b c) (t : ∀ a b c, P0 a b c → P1 a b c → P2 a b c → P3 a b c → R) : R := h.elim fun a h => x23 h (t a)
theorem x34 {α β γ : Type} {P0 P1 P2 P3 P4 : α → β → γ → Prop} {R : Prop} (h : ∃ a b c, P0 a b c ∧ P1 a b c ∧ P2 a b c ∧ P3 a b c ∧ P4 a b c) (t : ∀ a b c, P0 a b c → P1 a b c → P2 a b c → P3 a b c → P4 a b c → R) : R := h.elim fun a h => x24 h (t a)
theorem x35 {α β γ : Type} {P0 P1 P2 P3 P4 P5 : α → β → γ → Prop} {R : Prop} (h : ∃ a b c, P0 a b c ∧ P1 a b c ∧ P2 a b c ∧ P3 a b c ∧ P4 a b c ∧ P5 a b c) (t : ∀ a b c, P0 a b c → P1 a b c → P2 a b c → P3 a b c → P4 a b c → P5 a b c → R) : R := h.elim fun a h => x25 h (t a)
theorem x40 {α β γ δ : Type} {P0 : α → β → γ → δ → Prop} {R : Prop} (h : ∃ a b c d, P0 a b c d) (t : ∀ a b c d, P0 a b c d → R) : R := h.elim fun a h => x30 h (t a)
theorem x41 {α β γ δ : Type} {P0 P1 : α → β → γ → δ → Prop} {R : Prop} (h : ∃ a b c d, P0 a b c d ∧ P1 a b c d) (t : ∀ a b c d, P0 a b c d → P1 a b c d → R) : R := h.elim fun a h => x31 h (t a)
theorem x42 {α β γ δ : Type} {P0 P1 P2 : α → β → γ → δ → Prop} {R : Prop} (h : ∃ a b c d, P0 a b c d ∧ P1 a b c d ∧ P2 a b c d) (t : ∀ a b c d, P0 a b c d → P1 a b c d → P2 a b c d → R) : R := h.elim fun a h => x32 h (t a)
theorem x43 {α β γ δ : Type} {P0 P1 P2 P3 : α → β → γ → δ → Prop} {R : Prop} (h : ∃ a b c d, P0 a b c d ∧ P1 a b c d ∧ P2 a b c d ∧ P3 a b c d) (t : ∀ a b c d, P0 a b c d → P1 a b c d → P2 a b c d → P3 a b c d → R) : R := h.elim fun a h => x33 h (t a)
theorem x44 {α β γ δ : Type} {P0 P1 P2 P3 P4 : α → β → γ → δ → Prop} {R : Prop} (h : ∃ a b c d, P0 a b c d ∧ P1 a b c d ∧ P2 a b c d ∧ P3 a b c d ∧ P4 a b c d) (t : ∀ a b c d, P0 a b c d → P1 a b c d → P2 a b c d → P3 a b c d → P4 a b c d → R) : R := h.elim fun a h => x34 h (t a)
theorem x45 {α β γ δ : Type} {P0 P1 P2 P3 P4 P5 : α → β → γ → δ → Prop} {R : Prop} (h : ∃ a b c d, P0 a b c d ∧ P1 a b c d ∧ P2 a b c d ∧ P3 a b c d ∧ P4 a b c d ∧ P5 a b c d) (t : ∀ a b c d, P0 a b c d → P1 a b c d → P2 a b c d → P3 a b c d → P4 a b c d → P5 a b c d → R) : R := h.elim fun a h => x35 h (t a)
theorem x50 {α β γ δ ε : Type} {P0 : α → β → γ → δ → ε → Prop} {R : Prop} (h : ∃ a b c d e, P0 a b c d e) (t : ∀ a b c d e, P0 a b c d e → R) : R := h.elim fun a h => x40 h (t a)
theorem x51 {α β γ δ ε : Type} {P0 P1 : α → β → γ → δ → ε → Prop} {R : Prop} (h : ∃ a b c d e, P0 a b c d e ∧ P1 a b c d e) (t : ∀ a b c d e, P0 a b c d e → P1 a b c d e → R) : R := h.elim fun a h => x41 h (t a)
theorem x52 {α β γ δ ε : Type} {P0 P1 P2 : α → β → γ → δ → ε → Prop} {R : Prop} (h : ∃ a b c d e, P0 a b c d e ∧ P1 a b c d e ∧ P2 a b c d e) (t : ∀ a b c d e, P0 a b c d e → P1 a b c d e → P2 a b c d e → R) : R := h.elim fun a h => x42 h (t a)
theorem x53 {α β γ δ ε : Type} {P0 P1 P2 P3 : α → β → γ → δ → ε → Prop} {R : Prop} (h : ∃ a b c d e, P0 a b c d e ∧ P1 a b c d e ∧ P2 a b c d e ∧ P3 a b c d e) (t : ∀ a b c d e, P0 a b c d e → P1 a b c d e → P2 a b c d e → P3 a b c d e → R) : R := h.elim fun a h => x43 h (t a)
theorem x55 {α β γ δ ε : Type} {P0 P1 P2 P3 P4 P5 : α → β → γ → δ → ε → Prop} {R : Prop} (h : ∃ a b c d e, P0 a b c d e ∧ P1 a b c d e ∧ P2 a b c d e ∧ P3 a b c d e ∧ P4 a b c d e ∧ P5 a b c d e) (t : ∀ a b c d e, P0 a b c d e → P1 a b c d e → P2 a b c d e → P3 a b c d e → P4 a b c d e → P5 a b c d e → R) : R := h.elim fun a h => x45 h (t a)
theorem x60 {α β γ δ ε ζ : Type} {P0 : α → β → γ → δ → ε → ζ → Prop} {R : Prop} (h : ∃ a b c d e f, P0 a b c d e f) (t : ∀ a b c d e f, P0 a b c d e f → R) : R := h.elim fun a h => x50 h (t a)
theorem x61 {α β γ δ ε ζ : Type} {P0 P1 : α → β → γ → δ → ε → ζ → Prop} {R : Prop} (h : ∃ a b c d e f, P0 a b c d e f ∧ P1 a b c d e f) (t : ∀ a b c d e f, P0 a b c d e f → P1 a b c d e f → R) : R := h.elim fun a h => x51 h (t a)
theorem x62 {α β γ δ ε ζ : Type} {P0 P1 P2 : α → β → γ → δ → ε → ζ → Prop} {R : Prop} (h : ∃ a b c d e f, P0 a b c d e f ∧ P1 a b c d e f ∧ P2 a b c d e f) (t : ∀ a b c d e f, P0 a b c d e f → P1 a b c d e f → P2 a b c d e f → R) : R := h.elim fun a h => x52 h (t a)
theorem x65 {α β γ δ ε ζ : Type} {P0 P1 P2 P3 P4 P5 : α → β → γ → δ → ε → ζ → Prop} {R : Prop} (h : ∃ a b c d e f, P0 a b c d e f ∧ P1 a b c d e f ∧ P2 a b c d e f ∧ P3 a b c d e f ∧ P4 a b c d e f ∧ P5 a b c d e f) (t : ∀ a b c d e f, P0 a b c d e f → P1 a b c d e f → P2 a b c d e f → P3 a b c d e f → P4 a b c d e f → P5 a b c d e f → R) : R := h.elim fun a h => x55 h (t a)
theorem x71 {α β γ δ ε ζ η : Type} {P0 P1 : α → β → γ → δ → ε → ζ → η → Prop} {R : Prop} (h : ∃ a b c d e f g, P0 a b c d e f g ∧ P1 a b c d e f g) (t : ∀ a b c d e f g, P0 a b c d e f g → P1 a b c d e f g → R) : R := h.elim fun a h => x61 h (t a)
theorem x72 {α β γ δ ε ζ η : Type} {P0 P1 P2 : α → β → γ → δ → ε → ζ → η → Prop} {R : Prop} (h : ∃ a b c d e f g, P0 a b c d e f g ∧ P1 a b c d e f g ∧ P2 a b c d e f g) (t : ∀ a b c d e f g, P0 a b c d e f g → P1 a b c d e f g → P2 a b c d e f g → R) : R := h.elim fun a h => x62 h (t a)
theorem x81 {α β γ δ ε ζ η θ : Type} {P0 P1 : α → β → γ → δ → ε → ζ → η → θ → Prop} {R : Prop} (h : ∃ a b c d e f g h, P0 a b c d e f g h ∧ P1 a b c d e f g h) (t : ∀ a b c d e f g h, P0 a b c d e f g h → P1 a b c d e f g h → R) : R := h.elim fun a h => x71 h (t a)
theorem x82 {α β γ δ ε ζ η θ : Type} {P0 P1 P2 : α → β → γ → δ → ε → ζ → η → θ → Prop} {R : Prop} (h : ∃ a b c d e f g h, P0 a b c d e f g h ∧ P1 a b c d e f g h ∧ P2 a b c d e f g h) (t : ∀ a b c d e f g h, P0 a b c d e f g h → P1 a b c d e f g h → P2 a b c d e f g h → R) : R := h.elim fun a h => x72 h (t a)
theorem x91 {α β γ δ ε ζ η θ ι : Type} {P0 P1 : α → β → γ → δ → ε → ζ → η → θ → ι → Prop} {R : Prop} (h : ∃ a b c d e f g h i, P0 a b c d e f g h i ∧ P1 a b c d e f g h i) (t : ∀ a b c d e f g h i, P0 a b c d e f g h i → P1 a b c d e f g h i → R) : R := h.elim fun a h => x81 h (t a)
theorem x92 {α β γ δ ε ζ η θ ι : Type} {P0 P1 P2 : α → β → γ → δ → ε → ζ → η → θ → ι → Prop} {R : Prop} (h : ∃ a b c d e f g h i, P0 a b c d e f g h i ∧ P1 a b c d e f g h i ∧ P2 a b c d e f g h i) (t : ∀ a b c d e f g h i, P0 a b c d e f g h i → P1 a b c d e f g h i → P2 a b c d e f g h i → R) : R := h.elim fun a h => x82 h (t a)
theorem x101 {α β γ δ ε ζ η θ ι κ : Type} {P0 P1 : α → β → γ → δ → ε → ζ → η → θ → ι → κ → Prop} {R : Prop} (h : ∃ a b c d e f g h i j, P0 a b c d e f g h i j ∧ P1 a b c d e f g h i j) (t : ∀ a b c d e f g h i j, P0 a b c d e f g h i j → P1 a b c d e f g h i j → R) : R := h.elim fun a h => x91 h (t a)
theorem x111 {α β γ δ ε ζ η θ ι κ μ : Type} {P0 P1 : α → β → γ → δ → ε → ζ → η → θ → ι → κ → μ → Prop} {R : Prop} (h : ∃ a b c d e f g h i j k, P0 a b c d e f g h i j k ∧ P1 a b c d e f g h i j k) (t : ∀ a b c d e f g h i j k, P0 a b c d e f g h i j k → P1 a b c d e f g h i j k → R) : R := h.elim fun a h => x101 h (t a)
theorem x121 {α β γ δ ε ζ η θ ι κ μ ν : Type} {P0 P1 : α → β → γ → δ → ε → ζ → η → θ → ι → κ → μ → ν → Prop} {R : Prop} (h : ∃ a b c d e f g h i j k l, P0 a b c d e f g h i j k l ∧ P1 a b c d e f g h i j k l) (t : ∀ a b c d e f g h i j k l, P0 a b c d e f g h i j k l → P1 a b c d e f g h i j k l → R) : R := h.elim fun a h => x111 h (t a)
theorem x131 {α β γ δ ε ζ η θ ι κ μ ν ξ : Type} {P0 P1 : α → β → γ → δ → ε → ζ → η → θ → ι → κ → μ → ν → ξ → Prop} {R : Prop} (h : ∃ a b c d e f g h i j k l m, P0 a b c d e f g h i j k l m ∧ P1 a b c d e f g h i j k l m) (t : ∀ a b c d e f g h i j k l m, P0 a b c d e f g h i j k l m → P1 a b c d e f g h i j k l m → R) : R := h.elim fun a h => x121 h (t a)
theorem x141 {α β γ δ ε ζ η θ ι κ μ ν ξ ο : Type} {P0 P1 : α → β → γ → δ → ε → ζ → η → θ → ι → κ → μ → ν → ξ → ο → Prop} {R : Prop} (h : ∃ a b c d e f g h i j k l m n, P0 a b c d e f g h i j k l m n ∧ P1 a b c d e f g h i j k l m n) (t : ∀ a b c d e f g h i j k l m n, P0 a b c d e f g h i j k l m n → P1 a b c d e f g h i j k l m n → R) : R := h.elim fun a h => x131 h (t a)
theorem i02 {P0 P1 P2 : Prop} (h0 : P0) (h1 : P1) (h2 : P2) : P0 ∧ P1 ∧ P2 := ⟨h0, h1, h2⟩
theorem i03 {P0 P1 P2 P3 : Prop} (h0 : P0) (h1 : P1) (h2 : P2) (h3 : P3) : P0 ∧ P1 ∧ P2 ∧ P3 := ⟨h0, h1, h2, h3⟩
theorem i04 {P0 P1 P2 P3 P4 : Prop} (h0 : P0) (h1 : P1) (h2 : P2) (h3 : P3) (h4 : P4) : P0 ∧ P1 ∧ P2 ∧ P3 ∧ P4 := ⟨h0, h1, h2, h3, h4⟩
theorem i05 {P0 P1 P2 P3 P4 P5 : Prop} (h0 : P0) (h1 : P1) (h2 : P2) (h3 : P3) (h4 : P4) (h5 : P5) : P0 ∧ P1 ∧ P2 ∧ P3 ∧ P4 ∧ P5 := ⟨h0, h1, h2, h3, h4, h5⟩
theorem i11 {α : Type} {P0 P1 : α → Prop} (a : α) (h0 : P0 a) (h1 : P1 a) : ∃ a, P0 a ∧ P1 a := ⟨a, h0, h1⟩
theorem i12 {α : Type} {P0 P1 P2 : α → Prop} (a : α) (h0 : P0 a) (h1 : P1 a) (h2 : P2 a) : ∃ a, P0 a ∧ P1 a ∧ P2 a := ⟨a, i02  h0 h1 h2⟩
theorem i13 {α : Type} {P0 P1 P2 P3 : α → Prop} (a : α) (h0 : P0 a) (h1 : P1 a) (h2 : P2 a) (h3 : P3 a) : ∃ a, P0 a ∧ P1 a ∧ P2 a ∧ P3 a := ⟨a, i03  h0 h1 h2 h3⟩
theorem i14 {α : Type} {P0 P1 P2 P3 P4 : α → Prop} (a : α) (h0 : P0 a) (h1 : P1 a) (h2 : P2 a) (h3 : P3 a) (h4 : P4 a) : ∃ a, P0 a ∧ P1 a ∧ P2 a ∧ P3 a ∧ P4 a := ⟨a, i04  h0 h1 h2 h3 h4⟩
theorem i15 {α : Type} {P0 P1 P2 P3 P4 P5 : α → Prop} (a : α) (h0 : P0 a) (h1 : P1 a) (h2 : P2 a) (h3 : P3 a) (h4 : P4 a) (h5 : P5 a) : ∃ a, P0 a ∧ P1 a ∧ P2 a ∧ P3 a ∧ P4 a ∧ P5 a := ⟨a, i05  h0 h1 h2 h3 h4 h5⟩
theorem i20 {α β : Type} {P0 : α → β → Prop} (a : α) (b : β) (h0 : P0 a b) : ∃ a b, P0 a b := ⟨a, b, h0⟩
theorem i21 {α β : Type} {P0 P1 : α → β → Prop} (a : α) (b : β) (h0 : P0 a b) (h1 : P1 a b) : ∃ a b, P0 a b ∧ P1 a b := ⟨a, i11 b h0 h1⟩
theorem i22 {α β : Type} {P0 P1 P2 : α → β → Prop} (a : α) (b : β) (h0 : P0 a b) (h1 : P1 a b) (h2 : P2 a b) : ∃ a b, P0 a b ∧ P1 a b ∧ P2 a b := ⟨a, i12 b h0 h1 h2⟩
theorem i23 {α β : Type} {P0 P1 P2 P3 : α → β → Prop} (a : α) (b : β) (h0 : P0 a b) (h1 : P1 a b) (h2 : P2 a b) (h3 : P3 a b) : ∃ a b, P0 a b ∧ P1 a b ∧ P2 a b ∧ P3 a b := ⟨a, i13 b h0 h1 h2 h3⟩
theorem i24 {α β : Type} {P0 P1 P2 P3 P4 : α → β → Prop} (a : α) (b : β) (h0 : P0 a b) (h1 : P1 a b) (h2 : P2 a b) (h3 : P3 a b) (h4 : P4 a b) : ∃ a b, P0 a b ∧ P1 a b ∧ P2 a b ∧ P3 a b ∧ P4 a b := ⟨a, i14 b h0 h1 h2 h3 h4⟩
theorem i25 {α β : Type} {P0 P1 P2 P3 P4 P5 : α → β → Prop} (a : α) (b : β) (h0 : P0 a b) (h1 : P1 a b) (h2 : P2 a b) (h3 : P3 a b) (h4 : P4 a b) (h5 : P5 a b) : ∃ a b, P0 a b ∧ P1 a b ∧ P2 a b ∧ P3 a b ∧ P4 a b ∧ P5 a b := ⟨a, i15 b h0 h1 h2 h3 h4 h5⟩
theorem i30 {α β γ : Type} {P0 : α → β → γ → Prop} (a : α) (b : β) (c : γ) (h0 : P0 a b c) : ∃ a b c, P0 a b c := ⟨a, i20 b c h0⟩
theorem i31 {α β γ : Type} {P0 P1 : α → β → γ → Prop} (a : α) (b : β) (c : γ) (h0 : P0 a b c) (h1 : P1 a b c) : ∃ a b c, P0 a b c ∧ P1 a b c := ⟨a, i21 b c h0 h1⟩
theorem i32 {α β γ : Type} {P0 P1 P2 : α → β → γ → Prop} (a : α) (b : β) (c : γ) (h0 : P0 a b c) (h1 : P1 a b c) (h2 : P2 a b c) : ∃ a b c, P0 a b c ∧ P1 a b c ∧ P2 a b c := ⟨a, i22 b c h0 h1 h2⟩
theorem i33 {α β γ : Type} {P0 P1 P2 P3 : α → β → γ → Prop} (a : α) (b : β) (c : γ) (h0 : P0 a b c) (h1 : P1 a b c) (h2 : P2 a b c) (h3 : P3 a b c) : ∃ a b c, P0 a b c ∧ P1 a b c ∧ P2 a b c ∧ P3 a b c := ⟨a, i23 b c h0 h1 h2 h3⟩
theorem i34 {α β γ : Type} {P0 P1 P2 P3 P4 : α → β → γ → Prop} (a : α) (b : β) (c : γ) (h0 : P0 a b c) (h1 : P1 a b c) (h2 : P2 a b c) (h3 : P3 a b c) (h4 : P4 a b c) : ∃ a b c, P0 a b c ∧ P1 a b c ∧ P2 a b c ∧ P3 a b c ∧ P4 a b c := ⟨a, i24 b c h0 h1 h2 h3 h4⟩
theorem i35 {α β γ : Type} {P0 P1 P2 P3 P4 P5 : α → β → γ → Prop} (a : α) (b : β) (c : γ) (h0 : P0 a b c) (h1 : P1 a b c) (h2 : P2 a b c) (h3 : P3 a b c) (h4 : P4 a b c) (h5 : P5 a b c) : ∃ a b c, P0 a b c ∧ P1 a b c ∧ P2 a b c ∧ P3 a b c ∧ P4 a b c ∧ P5 a b c := ⟨a, i25 b c h0 h1 h2 h3 h4 h5⟩
theorem i40 {α β γ δ : Type} {P0 : α → β → γ → δ → Prop} (a : α) (b : β) (c : γ) (d : δ) (h0 : P0 a b c d) : ∃ a b c d, P0 a b c d := ⟨a, i30 b c d h0⟩
theorem i41 {α β γ δ : Type} {P0 P1 : α → β → γ → δ → Prop} (a : α) (b : β) (c : γ) (d : δ) (h0 : P0 a b c d) (h1 : P1 a b c d) : ∃ a b c d, P0 a b c d ∧ P1 a b c d := ⟨a, i31 b c d h0 h1⟩
theorem i42 {α β γ δ : Type} {P0 P1 P2 : α → β → γ → δ → Prop} (a : α) (b : β) (c : γ) (d : δ) (h0 : P0 a b c d) (h1 : P1 a b c d) (h2 : P2 a b c d) : ∃ a b c d, P0 a b c d ∧ P1 a b c d ∧ P2 a b c d := ⟨a, i32 b c d h0 h1 h2⟩
theorem i43 {α β γ δ : Type} {P0 P1 P2 P3 : α → β → γ → δ → Prop} (a : α) (b : β) (c : γ) (d : δ) (h0 : P0 a b c d) (h1 : P1 a b c d) (h2 : P2 a b c d) (h3 : P3 a b c d) : ∃ a b c d, P0 a b c d ∧ P1 a b c d ∧ P2 a b c d ∧ P3 a b c d := ⟨a, i33 b c d h0 h1 h2 h3⟩
theorem i44 {α β γ δ : Type} {P0 P1 P2 P3 P4 : α → β → γ → δ → Prop} (a : α) (b : β) (c : γ) (d : δ) (h0 : P0 a b c d) (h1 : P1 a b c d) (h2 : P2 a b c d) (h3 : P3 a b c d) (h4 : P4 a b c d) : ∃ a b c d, P0 a b c d ∧ P1 a b c d ∧ P2 a b c d ∧ P3 a b c d ∧ P4 a b c d := ⟨a, i34 b c d h0 h1 h2 h3 h4⟩
theorem i45 {α β γ δ : Type} {P0 P1 P2 P3 P4 P5 : α → β → γ → δ → Prop} (a : α) (b : β) (c : γ) (d : δ) (h0 : P0 a b c d) (h1 : P1 a b c d) (h2 : P2 a b c d) (h3 : P3 a b c d) (h4 : P4 a b c d) (h5 : P5 a b c d) : ∃ a b c d, P0 a b c d ∧ P1 a b c d ∧ P2 a b c d ∧ P3 a b c d ∧ P4 a b c d ∧ P5 a b c d := ⟨a, i35 b c d h0 h1 h2 h3 h4 h5⟩
theorem i50 {α β γ δ ε : Type} {P0 : α → β → γ → δ → ε → Prop} (a : α) (b : β) (c : γ) (d : δ) (e : ε) (h0 : P0 a b c d e) : ∃ a b c d e, P0 a b c d e := ⟨a, i40 b c d e h0⟩
theorem i51 {α β γ δ ε : Type} {P0 P1 : α → β → γ → δ → ε → Prop} (a : α) (b : β) (c : γ) (d : δ) (e : ε) (h0 : P0 a b c d e) (h1 : P1 a b c d e) : ∃ a b c d e, P0 a b c d e ∧ P1 a b c d e := ⟨a, i41 b c d e h0 h1⟩
theorem i52 {α β γ δ ε : Type} {P0 P1 P2 : α → β → γ → δ → ε → Prop} (a : α) (b : β) (c : γ) (d : δ) (e : ε) (h0 : P0 a b c d e) (h1 : P1 a b c d e) (h2 : P2 a b c d e) : ∃ a b c d e, P0 a b c d e ∧ P1 a b c d e ∧ P2 a b c d e := ⟨a, i42 b c d e h0 h1 h2⟩
theorem i53 {α β γ δ ε : Type} {P0 P1 P2 P3 : α → β → γ → δ → ε → Prop} (a : α) (b : β) (c : γ) (d : δ) (e : ε) (h0 : P0 a b c d e) (h1 : P1 a b c d e) (h2 : P2 a b c d e) (h3 : P3 a b c d e) : ∃ a b c d e, P0 a b c d e ∧ P1 a b c d e ∧ P2 a b c d e ∧ P3 a b c d e := ⟨a, i43 b c d e h0 h1 h2 h3⟩
theorem i55 {α β γ δ ε : Type} {P0 P1 P2 P3 P4 P5 : α → β → γ → δ → ε → Prop} (a : α) (b : β) (c : γ) (d : δ) (e : ε) (h0 : P0 a b c d e) (h1 : P1 a b c d e) (h2 : P2 a b c d e) (h3 : P3 a b c d e) (h4 : P4 a b c d e) (h5 : P5 a b c d e) : ∃ a b c d e, P0 a b c d e ∧ P1 a b c d e ∧ P2 a b c d e ∧ P3 a b c d e ∧ P4 a b c d e ∧ P5 a b c d e := ⟨a, i45 b c d e h0 h1 h2 h3 h4 h5⟩
theorem i60 {α β γ δ ε ζ : Type} {P0 : α → β → γ → δ → ε → ζ → Prop} (a : α) (b : β) (c : γ) (d : δ) (e : ε) (f : ζ) (h0 : P0 a b c d e f) : ∃ a b c d e f, P0 a b c d e f := ⟨a, i50 b c d e f h0⟩
theorem i61 {α β γ δ ε ζ : Type} {P0 P1 : α → β → γ → δ → ε → ζ → Prop} (a : α) (b : β) (c : γ) (d : δ) (e : ε) (f : ζ) (h0 : P0 a b c d e f) (h1 : P1 a b c d e f) : ∃ a b c d e f, P0 a b c d e f ∧ P1 a b c d e f := ⟨a, i51 b c d e f h0 h1⟩
theorem i62 {α β γ δ ε ζ : Type} {P0 P1 P2 : α → β → γ → δ → ε → ζ → Prop} (a : α) (b : β) (c : γ) (d : δ) (e : ε) (f : ζ) (h0 : P0 a b c d e f) (h1 : P1 a b c d e f) (h2 : P2 a b c d e f) : ∃ a b c d e f, P0 a b c d e f ∧ P1 a b c d e f ∧ P2 a b c d e f := ⟨a, i52 b c d e f h0 h1 h2⟩
theorem i63 {α β γ δ ε ζ : Type} {P0 P1 P2 P3 : α → β → γ → δ → ε → ζ → Prop} (a : α) (b : β) (c : γ) (d : δ) (e : ε) (f : ζ) (h0 : P0 a b c d e f) (h1 : P1 a b c d e f) (h2 : P2 a b c d e f) (h3 : P3 a b c d e f) : ∃ a b c d e f, P0 a b c d e f ∧ P1 a b c d e f ∧ P2 a b c d e f ∧ P3 a b c d e f := ⟨a, i53 b c d e f h0 h1 h2 h3⟩
theorem i65 {α β γ δ ε ζ : Type} {P0 P1 P2 P3 P4 P5 : α → β → γ → δ → ε → ζ → Prop} (a : α) (b : β) (c : γ) (d : δ) (e : ε) (f : ζ) (h0 : P0 a b c d e f) (h1 : P1 a b c d e f) (h2 : P2 a b c d e f) (h3 : P3 a b c d e f) (h4 : P4 a b c d e f) (h5 : P5 a b c d e f) : ∃ a b c d e f, P0 a b c d e f ∧ P1 a b c d e f ∧ P2 a b c d e f ∧ P3 a b c d e f ∧ P4 a b c d e f ∧ P5 a b c d e f := ⟨a, i55 b c d e f h0 h1 h2 h3 h4 h5⟩
theorem i71 {α β γ δ ε ζ η : Type} {P0 P1 : α → β → γ → δ → ε → ζ → η → Prop} (a : α) (b : β) (c : γ) (d : δ) (e : ε) (f : ζ) (g : η) (h0 : P0 a b c d e f g) (h1 : P1 a b c d e f g) : ∃ a b c d e f g, P0 a b c d e f g ∧ P1 a b c d e f g := ⟨a, i61 b c d e f g h0 h1⟩
theorem i72 {α β γ δ ε ζ η : Type} {P0 P1 P2 : α → β → γ → δ → ε → ζ → η → Prop} (a : α) (b : β) (c : γ) (d : δ) (e : ε) (f : ζ) (g : η) (h0 : P0 a b c d e f g) (h1 : P1 a b c d e f g) (h2 : P2 a b c d e f g) : ∃ a b c d e f g, P0 a b c d e f g ∧ P1 a b c d e f g ∧ P2 a b c d e f g := ⟨a, i62 b c d e f g h0 h1 h2⟩
theorem i81 {α β γ δ ε ζ η θ : Type} {P0 P1 : α → β → γ → δ → ε → ζ → η → θ → Prop} (a : α) (b : β) (c : γ) (d : δ) (e : ε) (f : ζ) (g : η) (h : θ) (h0 : P0 a b c d e f g h) (h1 : P1 a b c d e f g h) : ∃ a b c d e f g h, P0 a b c d e f g h ∧ P1 a b c d e f g h := ⟨a, i71 b c d e f g h h0 h1⟩
theorem i82 {α β γ δ ε ζ η θ : Type} {P0 P1 P2 : α → β → γ → δ → ε → ζ → η → θ → Prop} (a : α) (b : β) (c : γ) (d : δ) (e : ε) (f : ζ) (g : η) (h : θ) (h0 : P0 a b c d e f g h) (h1 : P1 a b c d e f g h) (h2 : P2 a b c d e f g h) : ∃ a b c d e f g h, P0 a b c d e f g h ∧ P1 a b c d e f g h ∧ P2 a b c d e f g h := ⟨a, i72 b c d e f g h h0 h1 h2⟩
theorem i91 {α β γ δ ε ζ η θ ι : Type} {P0 P1 : α → β → γ → δ → ε → ζ → η → θ → ι → Prop} (a : α) (b : β) (c : γ) (d : δ) (e : ε) (f : ζ) (g : η) (h : θ) (i : ι) (h0 : P0 a b c d e f g h i) (h1 : P1 a b c d e f g h i) : ∃ a b c d e f g h i, P0 a b c d e f g h i ∧ P1 a b c d e f g h i := ⟨a, i81 b c d e f g h i h0 h1⟩
theorem i92 {α β γ δ ε ζ η θ ι : Type} {P0 P1 P2 : α → β → γ → δ → ε → ζ → η → θ → ι → Prop} (a : α) (b : β) (c : γ) (d : δ) (e : ε) (f : ζ) (g : η) (h : θ) (i : ι) (h0 : P0 a b c d e f g h i) (h1 : P1 a b c d e f g h i) (h2 : P2 a b c d e f g h i) : ∃ a b c d e f g h i, P0 a b c d e f g h i ∧ P1 a b c d e f g h i ∧ P2 a b c d e f g h i := ⟨a, i82 b c d e f g h i h0 h1 h2⟩
theorem i101 {α β γ δ ε ζ η θ ι κ : Type} {P0 P1 : α → β → γ → δ → ε → ζ → η → θ → ι → κ → Prop} (a : α) (b : β) (c : γ) (d : δ) (e : ε) (f : ζ) (g : η) (h : θ) (i : ι) (j : κ) (h0 : P0 a b c d e f g h i j) (h1 : P1 a b c d e f g h i j) : ∃ a b c d e f g h i j, P0 a b c d e f g h i j ∧ P1 a b c d e f g h i j := ⟨a, i91 b c d e f g h i j h0 h1⟩
theorem i111 {α β γ δ ε ζ η θ ι κ μ : Type} {P0 P1 : α → β → γ → δ → ε → ζ → η → θ → ι → κ → μ → Prop} (a : α) (b : β) (c : γ) (d : δ) (e : ε) (f : ζ) (g : η) (h : θ) (i : ι) (j : κ) (k : μ) (h0 : P0 a b c d e f g h i j k) (h1 : P1 a b c d e f g h i j k) : ∃ a b c d e f g h i j k, P0 a b c d e f g h i j k ∧ P1 a b c d e f g h i j k := ⟨a, i101 b c d e f g h i j k h0 h1⟩
theorem i121 {α β γ δ ε ζ η θ ι κ μ ν : Type} {P0 P1 : α → β → γ → δ → ε → ζ → η → θ → ι → κ → μ → ν → Prop} (a : α) (b : β) (c : γ) (d : δ) (e : ε) (f : ζ) (g : η) (h : θ) (i : ι) (j : κ) (k : μ) (l : ν) (h0 : P0 a b c d e f g h i j k l) (h1 : P1 a b c d e f g h i j k l) : ∃ a b c d e f g h i j k l, P0 a b c d e f g h i j k l ∧ P1 a b c d e f g h i j k l := ⟨a, i111 b c d e f g h i j k l h0 h1⟩
theorem i131 {α β γ δ ε ζ η θ ι κ μ ν ξ : Type} {P0 P1 : α → β → γ → δ → ε → ζ → η → θ → ι → κ → μ → ν → ξ → Prop} (a : α) (b : β) (c : γ) (d : δ) (e : ε) (f : ζ) (g : η) (h : θ) (i : ι) (j : κ) (k : μ) (l : ν) (m : ξ) (h0 : P0 a b c d e f g h i j k l m) (h1 : P1 a b c d e f g h i j k l m) : ∃ a b c d e f g h i j k l m, P0 a b c d e f g h i j k l m ∧ P1 a b c d e f g h i j k l m := ⟨a, i121 b c d e f g h i j k l m h0 h1⟩
theorem i141 {α β γ δ ε ζ η θ ι κ μ ν ξ ο : Type} {P0 P1 : α → β → γ → δ → ε → ζ → η → θ → ι → κ → μ → ν → ξ → ο → Prop} (a : α) (b : β) (c : γ) (d : δ) (e : ε) (f : ζ) (g : η) (h : θ) (i : ι) (j : κ) (k : μ) (l : ν) (m : ξ) (n : ο) (h0 : P0 a b c d e f g h i j k l m n) (h1 : P1 a b c d e f g h i j k l m n) : ∃ a b c d e f g h i j k l m n, P0 a b c d e f g h i j k l m n ∧ P1 a b c d e f g h i j k l m n := ⟨a, i131 b c d e f g h i j k l m n h0 h1⟩
end Mine
end
section
set_option Elab.async false
namespace Mine
/-! ### small facts of numbers -/
theorem a_dep {d n k : Nat} (h : d + (n + 1) < k) : d + 1 + n < k := by rw [Nat.add_assoc, Nat.add_comm 1 n]; exact h
theorem a_un {u n c : Nat} (hc : c ≤ 10) (h : u + 10 * (n + 1) < 9900) : u + c + 10 * n < 9900 :=
  Nat.lt_of_le_of_lt (by rw [Nat.mul_succ, Nat.add_assoc, Nat.add_comm c]; exact Nat.add_le_add_left (Nat.add_le_add_left hc _) _) h
theorem a_lt {d n k : Nat} (h : d + n < k) : d < k := Nat.lt_of_le_of_lt (Nat.le_add_right _ _) h
theorem a_pos {j k n : Nat} (e : j + k = n) (h : k < n) : 0 < j := by
  cases j with
  | zero => exact absurd h (by rw [← e, Nat.zero_add]; exact Nat.lt_irrefl _)
  | succ j => exact Nat.succ_pos j
theorem a_j1 {j k n : Nat} (e : j + k = n) (h : k < n) : j - 1 < j := Nat.sub_lt (a_pos e h) Nat.one_pos
theorem a_j2 {j k n : Nat} (e : j + k = n) (h : k < n) : j - 1 + (k + 1) = n := by rw [← Nat.add_assoc, Nat.add_right_comm, Nat.sub_add_cancel (a_pos e h)]; exact e
theorem a_hi {n : Nat} {k : Int} (hs : n ≤ 1000000) (h : k < n) : k < 2 ^ 63 := Int.lt_trans (Int.lt_of_lt_of_le h (Int.ofNat_le.mpr hs)) (by decide)
theorem a_lo {n : Nat} {k : Int} (hs : n ≤ 1000000) (h : -(n : Int) ≤ k) : -2 ^ 63 ≤ k := Int.le_trans (Int.le_trans (by decide) (Int.neg_le_neg (Int.ofNat_le.mpr hs))) h
theorem a_neg {n : Nat} {k : Int} (h : 0 ≤ k) : -(n : Int) ≤ k := Int.le_trans (Int.neg_nonpos_of_nonneg (Int.natCast_nonneg _)) h
theorem a_str {a b m : Nat} (h : a + b ≤ 1000000) (hm : 1000000 ≤ m) : a + b ≤ m := Nat.le_trans h hm
theorem a_str2 {a b x y m : Nat} (h : a + b ≤ m) (h1 : x = a) (h2 : y = b) : x + y ≤ m := by subst h1 h2; exact h
theorem a_mm (i : Int) (n : Nat) : max 0 (min i n) = ((max 0 (min i n)).toNat : Int) ∧ (max 0 (min i n)).toNat ≤ n := ⟨(Int.toNat_of_nonneg (Int.le_max_left _ _)).symm, Int.toNat_le.mpr (Int.max_le.mpr ⟨Int.natCast_nonneg n, Int.min_le_right _ _⟩)⟩
theorem a_dv (a b : Nat) : (((b : Int) - a + 1 - 1) / 1).toNat = b - a := by rw [Int.add_sub_cancel, Int.ediv_one, Int.toNat_sub]
theorem a_sub0 {a b : Nat} (h : ¬(a : Int) < b) : b - a = 0 := Nat.sub_eq_zero_of_le (Int.ofNat_le.mp (Int.not_lt.mp h))
theorem a_full {a b n : Nat} (ha : a ≤ n) (hb : b ≤ n) (h : b - a = n) : a = 0 ∧ b = n := by
  have e : b = n := Nat.le_antisymm hb (h ▸ Nat.sub_le _ _)
  subst e
  have := Nat.sub_add_cancel ha
  rw [h] at this
  exact ⟨Nat.add_eq_left.mp this, rfl⟩
theorem a_ix {n : Nat} {i : Int} (h1 : -(n : Int) ≤ i) (h2 : i < n) : 0 ≤ (if i < 0 then i + n else i) ∧ (if i < 0 then i + n else i) < n := by split <;> omega
theorem a_out {n : Nat} {i : Int} (hs : n ≤ 1000000) (h1 : -(n : Int) ≤ i) (h2 : i < n) : ¬i < -2 ^ 63 ∧ ¬i ≥ 2 ^ 63 := ⟨Int.not_lt.mpr (a_lo hs h1), Int.not_le.mpr (a_hi hs h2)⟩
theorem a_clipn (k n : Nat) : (max 0 (min (k : Int) n)).toNat = min k n := by
  rcases Nat.le_total k n with h | h
  · rw [Int.min_eq_left (Int.ofNat_le.mpr h), Nat.min_eq_left h, Int.max_eq_right (Int.natCast_nonneg k)]; rfl
  · rw [Int.min_eq_right (Int.ofNat_le.mpr h), Nat.min_eq_right h, Int.max_eq_right (Int.natCast_nonneg n)]; rfl
theorem a_clipm (n k : Nat) : (max 0 (min (-(k : Int) + n) n)).toNat = n - k := by
  have e : -(k : Int) + n = (n : Int) - k := by rw [Int.add_comm]; rfl
  rw [e, Int.min_eq_left (Int.sub_le_self _ (Int.natCast_nonneg k))]
  rcases Nat.le_total k n with h | h
  · rw [Int.max_eq_right (Int.sub_nonneg_of_le (Int.ofNat_le.mpr h)), Int.toNat_sub]
  · rw [Int.max_eq_left (Int.sub_nonpos_of_le (Int.ofNat_le.mpr h)), Nat.sub_eq_zero_of_le h]; rfl
theorem a_half (a b u : Nat) : ((u : Int) < 2 * (a : Int) ∨ (2 * (a : Int) = u ∧ (b : Int) % 2 = 1)) ↔ (2 * a > u ∨ (2 * a = u ∧ b % 2 = 1)) := or_congr (Int.ofNat_lt (n := u) (m := 2 * a)) (and_congr (Int.ofNat_inj (m := 2 * a)) (Int.ofNat_inj (m := b % 2) (n := 1)))
theorem a_ab (l : Int) : (if l < 0 then -l else l) = (l.natAbs : Int) := by
  split
  · exact (Int.ofNat_natAbs_of_nonpos (Int.le_of_lt (by assumption))).symm
  · exact (Int.natAbs_of_nonneg (Int.not_lt.mp (by assumption))).symm
theorem a_abs {l : Int} (h : -300 ≤ l ∧ l ≤ 300) : l.natAbs ≤ 300 := by
  refine Int.ofNat_le.mp ?_
  rw [← a_ab]
  split
  · exact Int.neg_le_of_neg_le h.1
  · exact h.2
theorem a_max0 (n k : Nat) : max ((n : Int) - k) 0 = ((n - k : Nat) : Int) := by
  rcases Nat.le_total k n with h | h
  · rw [Int.max_eq_left (Int.sub_nonneg_of_le (Int.ofNat_le.mpr h)), Int.ofNat_sub h]
  · rw [Int.max_eq_right (Int.sub_nonpos_of_le (Int.ofNat_le.mpr h)), Nat.sub_eq_zero_of_le h]; rfl
theorem a_sc {e : Int} {n x r : Nat} (hn : n ≤ 20) (hx : x ≤ 100) (hr : r ≤ 100) : (e - (e + n - x) + r ≤ 1000 ∧ -1000 ≤ e - (e + n - x) + r) ∧ (e - (e + n - x + 1) + r ≤ 1000 ∧ -1000 ≤ e - (e + n - x + 1) + r) := by lia
theorem a_grp {g n : Nat} (h : ¬n ≤ 3) (t : g ≤ 2 * min (n - 3) n) : g + (n - (n - 3) + 1) ≤ 2 * n := by
  have h3 : 3 ≤ n := Nat.le_of_lt (Nat.not_le.mp h)
  rw [Nat.min_eq_left (Nat.sub_le _ _), Nat.mul_sub] at t
  rw [Nat.sub_sub_self h3]
  exact Nat.le_trans (Nat.add_le_add t (by decide)) (Nat.le_of_eq (Nat.sub_add_cancel (Nat.mul_le_mul_left 2 h3)))
theorem a_room {w a b : Nat} (hw : w ≤ 101) (ha : a ≤ 2) (hb : b ≤ 2000) : -3000 ≤ (w : Int) - ((a + b : Nat) : Int) ∧ (w : Int) - ((a + b : Nat) : Int) ≤ 101 :=
  ⟨Int.le_trans (by decide) (Int.sub_le_sub (Int.natCast_nonneg w) (Int.ofNat_le.mpr (Nat.add_le_add ha hb))), Int.le_trans (Int.sub_le_self _ (Int.natCast_nonneg _)) (Int.ofNat_le.mpr hw)⟩
theorem a_er {e : Int} {r : Nat} {m : Int} (h1 : e ≤ 100) (hr : r ≤ 100) (hm : 200 ≤ m) : e + r ≤ m := Int.le_trans (Int.add_le_add h1 (Int.ofNat_le.mpr hr)) hm
theorem a_er' {e : Int} {r : Nat} (h2 : -100 ≤ e) : -1000 ≤ e + r := Int.le_trans (by decide) (Int.add_le_add h2 (Int.natCast_nonneg r))
theorem a_2k {a b m : Nat} (h1 : a ≤ 100) (h2 : b ≤ 100) (hm : 200 ≤ m) : a + b ≤ m := Nat.le_trans (Nat.add_le_add h1 h2) hm
theorem a_s1 {a b c k : Nat} (h : c + k = a + b) : (a : Int) + b - c = k := by rw [← Int.natCast_add, ← h, Int.natCast_add, Int.add_comm]; exact Int.add_sub_cancel _ _
theorem a_s2 {m j n k : Nat} (hj : 1 ≤ j) (hn : 1 ≤ n) (h : n + k = m + j) : m ≤ n - 1 + k := by rw [← Nat.sub_add_comm hn, h]; exact Nat.le_sub_of_add_le (Nat.add_le_add_left hj m)
theorem a_s3 {a b c k : Nat} (h : a + b + k = c) : (a : Int) + b - c = -(k : Int) := by lia
theorem a_s4 {m j n k : Nat} (hj : 1 ≤ j) (h : m + j + k = n) : m + k ≤ n - 1 := Nat.le_sub_of_add_le (Nat.le_trans (Nat.add_le_add_left hj (m + k)) (Nat.le_of_eq ((Nat.add_right_comm m k j).trans h)))
theorem a_s5 {n k m : Nat} (h : n + 1 + k = m) : (m : Int) - 1 - n = k := by lia
theorem a_s6 {n k m : Nat} (h : m + k = n + 1) : (m : Int) - 1 - n = -(k : Int) := by lia
theorem a_dif {m t : Nat} (hm : m ≤ 1000) (ht : t ≤ 400) : -1000000 < (m : Int) - t ∧ (m : Int) - t < 1000000 ∧ ((m : Int) - t).toNat ≤ 1000 :=
  ⟨Int.lt_of_lt_of_le (by decide) (Int.sub_le_sub (Int.natCast_nonneg m) (Int.ofNat_le.mpr ht)), Int.lt_of_le_of_lt (Int.sub_le_self _ (Int.natCast_nonneg _)) (Int.lt_of_le_of_lt (Int.ofNat_le.mpr hm) (by decide)), Nat.le_trans (Nat.le_of_eq (Int.toNat_sub _ _)) (Nat.le_trans (Nat.sub_le _ _) hm)⟩
theorem a_l1 {e l n x r j : Int} (c : l = e + n - x - j) : x + r + j - n = e - l + r := by lia
theorem a_l4 {e l n x r : Int} (c : l = e + n - x + 1) : x + r - 1 - n = e - l + r := by lia
section
variable {a l d : Int} {c : Prop} [Decidable c]
theorem a_l2 (hd : 0 < d) (h : l = a - d) : l < if c then a + 1 else a := by
  have : l < a := by rw [h]; exact Int.sub_lt_self a hd
  split
  · exact Int.lt_trans this (Int.lt_succ a)
  · exact this
theorem a_l3 (h1 : a - 2 ≤ l) (h2 : l ≤ if c then a + 1 else a) (c2 : ¬l = a - 2) (c1 : ¬l = a - 1) (c0 : ¬l = a) : l = a + 1 := by
  have : l ≤ a + 1 := Int.le_trans h2 (by split; exact Int.le_refl _; exact Int.le_of_lt (Int.lt_succ a))
  lia
theorem a_l5 (e1 : l = a + 1) (z : l < if c then a + 1 else a) : False := by
  subst e1
  split at z
  · exact Int.lt_irrefl _ z
  · exact Int.lt_irrefl _ (Int.lt_trans (Int.lt_succ a) z)
end
theorem a_p1 {e l : Int} {n x r : Nat} (hr : r ≤ 3) (hx : x ≤ 9) (g : e + n - x - 2 ≤ l) : e - l + r ≤ 300 := by lia
theorem a_p2 {e l L : Int} {n x r : Nat} (hn : n ≤ 20) (hL : L ≤ e + n - x + 1) (g : l ≤ L) : -1000 ≤ e - l + r := by lia
theorem a_p3 {l L : Int} (h : l < L) : (L - (l + 1)).toNat < (L - l).toNat := (Int.toNat_lt_toNat (Int.sub_pos_of_lt h)).mpr (Int.sub_lt_sub_left (Int.lt_succ l) L)
theorem a_p4 {e l : Int} {n x : Nat} (h1 : e ≤ 100) (h2 : -100 ≤ e) (hx : x ≤ 9) (hn : n ≤ 20) (g : e + n - x ≤ l ∧ l ≤ e + n - x + 1) : -300 ≤ l ∧ l ≤ 300 := by lia
theorem a_rp {p q x m t : Nat} (hq : q ≤ 1) (hx : x < m) (h : p + 2 * m ≤ 2 * t) : p + q + 1 + 2 * x ≤ 2 * t := by lia
theorem a_ur {f t p v k : Nat} (ht : t ≤ 10000) (hk : k < v) (h : f + p + 10000 * (v - k) ≤ 500000) : f + t + p + 10000 * (v - (k + 1)) ≤ 500000 := by
  obtain ⟨x, hx⟩ : ∃ x, v - k = x + 1 := ⟨v - k - 1, (Nat.sub_add_cancel (Nat.sub_pos_of_lt hk)).symm⟩
  rw [hx] at h
  rw [Nat.sub_add_eq, hx, Nat.add_sub_cancel]
  rw [Nat.mul_succ, ← Nat.add_assoc] at h
  refine Nat.le_trans ?_ h
  rw [Nat.add_right_comm f t p, Nat.add_right_comm (f + p) t]
  exact Nat.add_le_add_left ht _
theorem a_vk {v k j : Nat} (h1 : 1 ≤ j) (h2 : j ≤ v - k) : v - (k + j) < v - k := by rw [← Nat.sub_sub]; exact Nat.sub_lt (Nat.lt_of_lt_of_le h1 h2) h1
theorem a_c1 {c : Prop} [Decidable c] : (if c then 1 else 0) ≤ 1 := by split <;> decide
theorem lenI {c : Prop} [Decidable c] {a b : List Nat} {k : Nat} (h1 : a.length ≤ k) (h2 : b.length ≤ k) : (if c then a else b).length ≤ k := by split <;> assumption
end Mine
end
section
open PySem PySem.W PyProof.Rows
set_option Elab.async false
set_option tactic.hygienic false
set_option genSizeOf false
set_option genInjectivity false
set_option maxRecDepth 100000
set_option maxHeartbeats 1000000
set_option linter.unusedVariables false
set_option linter.unusedSimpArgs false
namespace Mine
/-! ### an exception of the text's own class on its way out of the frames -/
noncomputable abbrev flyO (cl d : Addr) (t tb : Value) : Obj := { cls := .ref cl, dict := some d, data := .fields #[t, tb, .none, .none, .bool false, .none] }
/-- what its traceback is: none yet, or an entry whose flight is fl -/
noncomputable def TbAt (base h : Heap) (x : Addr) (fl : Value) : Value → Prop
  | .ref T => T ≠ x ∧ base.get? T = none ∧ ∃ oT ts, h.get? T = some oT ∧ oT.data = .fields ts ∧ ts[3]? = some fl
  | .none => fl = .none
  | _ => False
structure Fly (base h₀ : Heap) (l : List Env) (cl : Addr) (code : List Nat) (fl : Value) (x : Addr) (h : Heap) : Prop where
  stays : base.StaysIn h
  fresh : base.get? x = none
  frames : h.FunFrames base l
  slots : h₀.UpToSlots h
  exc : ∃ t tb d m c tk, h.get? x = some (flyO cl d t tb) ∧ TbAt base h x fl tb ∧ (∀ env ∈ l, env.frame ≠ some d) ∧ h.Ns d m ∧ m "code" = some (.str c tk) ∧ c.cps.toList = code
theorem rawNe (L : Addr) : (Value.none == rawInt L) = false := by simp [rawInt]
section
variable {M : Model} {A : Around} {E : Value → Shared → Prop} {s : Shared} {base h₀ : Heap} {env : Env} {outer : List Env} {L x cl : Addr} {code : List Nat} {Q : Unit → Shared → Prop}
theorem slots_fields {h h' : Heap} {l : List Env} (fr : h.FunFrames base l) (k : ∀ b o, h.get? b = some o → (∀ vs, o.data ≠ .fields vs) → ∃ sl, h'.get? b = some { o with slots := sl }) : h'.FunFrames base l :=
  fr.of_keeps fun b o ho hd => let ⟨_, e⟩ := k b o ho hd; (i11 _ e rfl)
/-- a new entry: the frame's own -/
theorem fly_entry {head t tb : Value} {d : Addr} {m : Str → Option Value} {c : Str} {tk : Tok} {hn : Bool} (hfr : A.frames = some (env :: outer)) (hf : env.frame = some L)
    (h1 : base.StaysIn s.heap) (h2 : base.get? x = none) (h3 : s.heap.FunFrames base (env :: outer)) (h4 : h₀.UpToSlots s.heap) (h5 : s.heap.get? x = some (flyO cl d t tb)) (h6 : ∀ env' ∈ env :: outer, env'.frame ≠ some d) (h7 : s.heap.Ns d m)
    (h8 : m "code" = some (.str c tk)) (h9 : c.cps.toList = code) (hQ : ∀ h', Fly base h₀ (env :: outer) cl code (rawInt L) x h' → Q () { s with heap := h' }) :
    wpAny M A (do let a ← frameOf env; let pl ← entryPlaceOf L hn; let b ← EntryCells.newEntry head a .none (rawInt L) .none pl; setField (.ref x) 1 b) Q E s := by
  refine wpAny_bind (wpAny_frameOf_fun hfr h3 hf fun g1 k1 => ?_)
  refine wpAny_bind (wpAny_entryPlaceOf fun pl hpl => ?_)
  unfold EntryCells.newEntry newFields
  refine wpAny_bind (wpAny_newObj_type ?_ (hpl.sizeOk5 _ _ _ _ _))
  have nx : x ∉ (env :: outer).filterMap (·.frame) := fun hm => by
    obtain ⟨-, o, ho, hno⟩ := h3.mem hm
    rw [h5] at ho; cases ho; exact hno _ rfl
  have e1 : g1.get? x = some (flyO cl d t tb) := (k1.2.1 x nx).trans h5
  generalize hob : ({ cls := .type "traceback", dict := none, data := .fields ([head, .ref L, .none, rawInt L, .none] ++ (if pl.isEmpty then List.replicate 6 Value.none else pl)).toArray } : Obj) = ob
  have hfd : ob.isFreed = false := by rw [← hob]; rfl
  have e2 := Heap.get?_push_of_some ob e1
  have hT : g1.objs.size ≠ x := Nat.ne_of_gt (Heap.lt_size e1)
  refine wpAny_setField e2 rfl (show 1 < 6 by decide) (hQ _ ?_)
  have up : ∀ b o, b ≠ x → g1.get? b = some o → ((g1.push ob).update x (Obj.mapFields (·.setIfInBounds 1 (.ref g1.objs.size)))).get? b = some o := fun b o hb e => by
    rw [Heap.get?_update_other _ _ (Ne.symm hb)]; exact Heap.get?_push_of_some _ e
  have sl : ∀ b o, s.heap.get? b = some o → (∀ vs, o.data ≠ .fields vs) → ∃ sl, ((g1.push ob).update x (Obj.mapFields (·.setIfInBounds 1 (.ref g1.objs.size)))).get? b = some { o with slots := sl } := fun b o e hno => by
    obtain ⟨sl, e'⟩ := k1.2.2 b o e
    refine ⟨sl, up b _ (fun q => ?_) e'⟩
    rw [q, h5] at e; cases e; exact hno _ rfl
  have st1 : base.StaysIn g1 := fun b o e => (k1.2.1 b fun hm => by rw [(h3.mem hm).1] at e; cases e).trans (h1 b o e)
  refine ⟨fun b o e => up b o (fun q => by rw [q, h2] at e; cases e) (st1 b o e), h2, slots_fields h3 sl, h4.trans sl, t, .ref g1.objs.size, d, m, c, tk, Heap.get?_update_self _ e2 rfl, (i02 hT st1.fresh (i22 ob _ ?_ (by rw [← hob]) ?_)), h6, Heap.UpToSlots.ns sl h7, h8, h9⟩
  · rw [Heap.get?_update_other _ _ (Ne.symm hT)]
    exact Heap.get?_push_size _ hfd
  · simp
theorem fly_note {fl : Value} (hfr : A.frames = some (env :: outer)) (hf : env.frame = some L) (hfl : fl = .none ∨ fl = rawInt L) (F : Fly base h₀ (env :: outer) cl code fl x s.heap)
    (hQ : ∀ h', Fly base h₀ (env :: outer) cl code (rawInt L) x h' → Q () { s with heap := h' }) : wpAny M A (noteFrame (.ref x) env) Q E s := by
  obtain ⟨h1, h2, h3, h4, t, tb, d, m, c, tk, h5, ht, h6, h7, h8, h9⟩ := id F
  unfold noteFrame
  simp only [hf]
  refine wpAny_bind (wpAny_field h5 rfl (x := tb) rfl ?_)
  cases tb with
  | none =>
    rw [if_neg (by decide)]
    exact fly_entry hfr hf h1 h2 h3 h4 h5 h6 h7 h8 h9 hQ
  | ref T =>
    obtain ⟨hTx, hTb, oT, ts, g1, g2, g3⟩ := ht
    rw [if_pos (by simp)]
    refine wpAny_bind (wpAny_field g1 g2 g3 ?_)
    rcases hfl with rfl | rfl
    · rw [rawNe, if_neg (by decide)]
      refine wpAny_bind (wpAny_setField g1 g2 (Array.getElem?_eq_some_iff.mp g3).1 ?_)
      have oth : ∀ b, b ≠ T → (s.heap.update T (Obj.mapFields (·.setIfInBounds 3 Value.none))).get? b = s.heap.get? b := fun b hb => Heap.get?_update_other _ _ (Ne.symm hb)
      have sl : s.heap.UpToSlots (s.heap.update T (Obj.mapFields (·.setIfInBounds 3 Value.none))) := fun b o e hno => ⟨o.slots, (oth b fun q => by rw [q, g1] at e; cases e; exact hno _ g2).trans e⟩
      exact fly_entry (s := { s with heap := _ }) hfr hf (fun b o e => (oth b fun q => by rw [q, hTb] at e; cases e).trans (h1 b o e)) h2 (slots_fields h3 sl) (h4.trans sl) ((oth x (Ne.symm hTx)).trans h5) h6 (sl.ns h7) h8 h9 hQ
    · rw [if_pos (by simp)]
      exact wpAny_pure (hQ s.heap F)
  | _ => exact ht.elim
theorem fly_land {l : List Env} {fl : Value} {o : Option Addr} (F : Fly base h₀ l cl code fl x s.heap) (ho : o = none ∨ fl ≠ .none) (hQ : ∀ h', Fly base h₀ l cl code (o.elim .none fun f => rawInt f) x h' → Q () { s with heap := h' }) : wpAny M A (setFlight (.ref x) o) Q E s := by
  obtain ⟨h1, h2, h3, h4, t, tb, d, m, c, tk, h5, ht, h6, h7, h8, h9⟩ := F
  unfold setFlight
  refine wpAny_bind (wpAny_field h5 rfl (x := tb) rfl ?_)
  cases tb with
  | none =>
    rw [if_neg (by decide)]
    obtain rfl : o = none := ho.resolve_right fun q => q ht
    exact wpAny_pure (hQ s.heap ⟨h1, h2, h3, h4, t, .none, d, m, c, tk, h5, rfl, h6, h7, h8, h9⟩)
  | ref T =>
    obtain ⟨hTx, hTb, oT, ts, g1, g2, g3⟩ := ht
    rw [if_pos (by simp)]
    have hsz := (Array.getElem?_eq_some_iff.mp g3).1
    refine wpAny_setField g1 g2 hsz (hQ _ ?_)
    have oth : ∀ b, b ≠ T → (s.heap.update T (Obj.mapFields (·.setIfInBounds 3 (o.elim Value.none fun f => rawInt f)))).get? b = s.heap.get? b := fun b hb => Heap.get?_update_other _ _ (Ne.symm hb)
    have sl : s.heap.UpToSlots (s.heap.update T (Obj.mapFields (·.setIfInBounds 3 (o.elim Value.none fun f => rawInt f)))) := fun b o e hno => ⟨o.slots, (oth b fun q => by rw [q, g1] at e; cases e; exact hno _ g2).trans e⟩
    have g2' := Obj.data_mapFields g2 (·.setIfInBounds 3 (o.elim Value.none fun f => rawInt f))
    exact ⟨fun b o e => (oth b fun q => by rw [q, hTb] at e; cases e).trans (h1 b o e), h2, slots_fields h3 sl, h4.trans sl, t, .ref T, d, m, c, tk, (oth x (Ne.symm hTx)).trans h5,
      (i02 hTx hTb (i22 _ _ (Heap.get?_update_self _ g1 (Obj.isFreed_of_fields g2')) g2' (by simp [hsz]))), h6, sl.ns h7, h8, h9⟩
  | _ => exact ht.elim
theorem rawNo (L : Addr) : rawInt L ≠ Value.none := by simp [rawInt]
theorem note_same {e : Value} {env env' : Env} (h : env'.frame = env.frame) : noteFrame e env' = noteFrame e env := by
  unfold noteFrame PySem.frameOf
  rw [h]
/-- out of an activation of its own in the same frame -/
theorem fly_own {fl : Value} {env' : Env} {R : Value → Shared → Prop} (hfr : A.frames = some (env :: outer)) (hf : env.frame = some L) (he : env'.frame = env.frame) (hfl : fl = .none ∨ fl = rawInt L) (F : Fly base h₀ (env :: outer) cl code fl x s.heap)
    (hQ : ∀ h', Fly base h₀ (env :: outer) cl code (rawInt L) x h' → R (.ref x) { s with heap := h' }) : notedBy M A env' (cameBackBy M A env' R) (.ref x) s := by
  show wpAny M A (noteFrame (.ref x) env') (fun z0 s'' => cameBackBy M A env' R (.ref x) s'') _ s
  rw [note_same he]
  refine fly_note hfr hf hfl F fun h' F' => ?_
  unfold cameBackBy
  obtain ⟨h1, h2, h3, h4, t, tb, d, m, c, tk, h5, ht, h6, h7, h8, h9⟩ := id F'
  refine wpAny_bind (wpAny_field h5 rfl (x := tb) rfl ?_)
  rw [he, hf]
  cases tb with
  | none => exact absurd ht (rawNo L)
  | ref T =>
    rw [if_neg (by simp)]
    first
      | exact fly_land (s := { s with heap := h' }) F' (.inr (rawNo L)) fun h2 F2 => hQ h2 F2
      | exact wpAny_bind (wpAny_pure (fly_land (s := { s with heap := h' }) F' (.inr (rawNo L)) fun h2 F2 => hQ h2 F2))
  | _ => exact ht.elim
/-- out of one frame -/
theorem fly_leave {fl : Value} (hfr : A.frames = some (env :: outer)) (hf : env.frame = some L) (hfl : fl = .none ∨ fl = rawInt L) (F : Fly base h₀ (env :: outer) cl code fl x s.heap)
    (hQ : ∀ h', Fly base h₀ outer cl code .none x h' → Q () { s with heap := h' }) : wpAny M A (leaving env (.ref x)) Q E s := by
  unfold leaving
  refine wpAny_bind (fly_note hfr hf hfl F fun h' F' => fly_land F' (.inl rfl) fun h2 F2 => hQ h2 ?_)
  exact ⟨F2.stays, F2.fresh, F2.frames.2.2, F2.slots, let ⟨t, tb, d, m, c, tk, a, b, k, r⟩ := F2.exc; (i63 t tb d m c tk a b (fun e he => k e (.tail _ he)) r)⟩
theorem Fly.here {l : List Env} {fl : Value} {h : Heap} (F : Fly base h₀ l cl code fl x h) : Fly base h l cl code fl x h := ⟨F.stays, F.fresh, F.frames, Heap.UpToSlots.of_keeps fun z0 z0 e => e, F.exc⟩
theorem Fly.there {l l' : List Env} {fl fl' : Value} {h h' : Heap} (F : Fly base h₀ l cl code fl x h) (F' : Fly base h l' cl code fl' x h') : Fly base h₀ l' cl code fl' x h' := ⟨F'.stays, F'.fresh, F'.frames, F.slots.trans F'.slots, F'.exc⟩
theorem Fly.back {g : Heap} {l : List Env} {fl : Value} {h : Heap} (F : Fly base g l cl code fl x h) (k : h₀.StaysIn g) : Fly base h₀ l cl code fl x h :=
  ⟨F.stays, F.fresh, F.frames, (Heap.UpToSlots.of_keeps k).trans F.slots, F.exc⟩
end
end Mine
end
section
open PySem PySem.W PyProof.Rows
set_option Elab.async false
set_option tactic.hygienic false
set_option genSizeOf false
set_option genInjectivity false
set_option maxRecDepth 100000
set_option maxHeartbeats 1000000
set_option linter.unusedVariables false
set_option linter.unusedSimpArgs false
namespace Mine

/-- the fixed surroundings of one program -/
structure Cx where
  prog : Program
  w : World
  K : Frag
  p : Program
  loose : List Str
  mean : ExcName → Option Value
  mg : Str → Option Value
  mb : Str → Option Value
  gens : Array GenState
  os : OsState
  er : Option (Addr × List Nat)

/-- a plain def of the text: its frame's fixed parts, its locals and the globals that it reads -/
structure FnI where
  qual : Str
  scope : Scope
  a : Addr
  cd : Value
  locs : List Str
  gls : List Str
  hk : scope.kind = .function
  hnd : locs.Nodup
  hl : ∀ x ∈ locs, scope.names.lookup x = some .local ∧ (x == ("__debug__" : Str)) = false
  hg : ∀ x ∈ gls, scope.names.lookup x = some .globalImplicit ∧ (x == ("__debug__" : Str)) = false

/-- values told without tokens; tuples as trees -/
inductive PV where
  | none
  | bool (b : Bool)
  | int (i : Int)
  | str (l : List Nat)
  | ref (a : Addr)
  | tuple (l : List PV)

/-- objects that may change -/
inductive AObj where
  | list (l : List PV)
  | dict (l : List (Str × PV))
  | inst (C : Addr) (l : List (Str × PV))
  | raw (P : Obj → Prop)

noncomputable abbrev AH := List (Addr × AObj)
noncomputable abbrev Loc := List (Str × Option PV)
structure St where
  loc : Loc
  ah : AH

noncomputable abbrev tupObj (vs : List Value) : Obj := { cls := .type "tuple", data := .seq vs.toArray }
noncomputable abbrev Led := List (Addr × Obj)

mutual
inductive VRel (tl : Led) : PV → Value → Prop
  | none : VRel tl .none .none
  | bool (b : Bool) : VRel tl (.bool b) (.bool b)
  | int (i : Int) (t : Tok) : VRel tl (.int i) (.int i t)
  | str (s : Str) (t : Tok) : VRel tl (.str s.cps.toList) (.str s t)
  | ref (a : Addr) : VRel tl (.ref a) (.ref a)
  | tuple (a : Addr) (ps : List PV) (vs : List Value) : (a, tupObj vs) ∈ tl → VsRel tl ps vs → VRel tl (.tuple ps) (.ref a)
inductive VsRel (tl : Led) : List PV → List Value → Prop
  | nil : VsRel tl [] []
  | cons {p v ps vs} : VRel tl p v → VsRel tl ps vs → VsRel tl (p :: ps) (v :: vs)
end

mutual
theorem VRel.mono {tl tl' : Led} (h : ∀ x ∈ tl, x ∈ tl') : ∀ {p v}, VRel tl p v → VRel tl' p v
  | _, _, .none => .none
  | _, _, .bool b => .bool b
  | _, _, .int i t => .int i t
  | _, _, .str i t => .str i t
  | _, _, .ref a => .ref a
  | _, _, .tuple a ps vs m r => .tuple a ps vs (h _ m) (VsRel.mono h r)
theorem VsRel.mono {tl tl' : Led} (h : ∀ x ∈ tl, x ∈ tl') : ∀ {p v}, VsRel tl p v → VsRel tl' p v
  | _, _, .nil => .nil
  | _, _, .cons a b => .cons (VRel.mono h a) (VsRel.mono h b)
end

theorem VRel.int_inv {tl : Led} {i : Int} {v : Value} (h : VRel tl (.int i) v) : ∃ t, v = .int i t := by cases h; exact ⟨_, rfl⟩
theorem VRel.str_inv {tl : Led} {i : List Nat} {v : Value} (h : VRel tl (.str i) v) : ∃ x t, v = .str x t ∧ x.cps.toList = i := by cases h; exact (i21 _ _ rfl rfl)
theorem VRel.bool_inv {tl : Led} {i : Bool} {v : Value} (h : VRel tl (.bool i) v) : v = .bool i := by cases h; rfl
theorem VRel.none_inv {tl : Led} {v : Value} (h : VRel tl .none v) : v = .none := by cases h; rfl
theorem VRel.ref_inv {tl : Led} {a : Addr} {v : Value} (h : VRel tl (.ref a) v) : v = .ref a := by cases h; rfl
theorem VsRel.hd {tl : Led} {p : PV} {v : Value} {ps : List PV} {vs : List Value} (h : VsRel tl (p :: ps) (v :: vs)) : VRel tl p v := by cases h; assumption
theorem VsRel.tl' {tl : Led} {p : PV} {v : Value} {ps : List PV} {vs : List Value} (h : VsRel tl (p :: ps) (v :: vs)) : VsRel tl ps vs := by cases h; assumption
theorem VsRel.open {tl : Led} {p : PV} {ps : List PV} {ws : List Value} (h : VsRel tl (p :: ps) ws) : ∃ v vs, ws = v :: vs ∧ VRel tl p v ∧ VsRel tl ps vs := by
  cases h with
  | cons a b => exact (i22 _ _ rfl a b)
theorem VsRel.none {tl : Led} {ws : List Value} (h : VsRel tl [] ws) : ws = [] := by cases h; rfl
theorem VsRel.length {tl : Led} : ∀ {p v}, VsRel tl p v → v.length = p.length := by
  intro p
  induction p with
  | nil => intro v h; rw [h.none]; rfl
  | cons p ps ih => intro v h; refine x22 h.open fun v vs ez0 a b => ?_; obtain rfl := ez0; exact congrArg (· + 1) (ih b)
theorem VsRel.get {tl : Led} : ∀ {ps vs} {i : Nat} {p : PV}, VsRel tl ps vs → ps[i]? = some p → ∃ v, vs[i]? = some v ∧ VRel tl p v
  | _, _, i, _, .nil, e => by simp at e
  | _, _, 0, _, .cons a _, e => by simp at e; subst e; exact (i11 _ rfl a)
  | _, _, i+1, _, .cons _ b, e => by
    have := VsRel.get (i := i) b (by simpa using e)
    simpa using this
theorem VsRel.cut {tl : Led} : ∀ {ps qs : List PV} {vs us : List Value}, vs.length = ps.length → VsRel tl (ps ++ qs) (vs ++ us) → VsRel tl ps vs ∧ VsRel tl qs us
  | [], _, [], _, _, h => ⟨.nil, h⟩
  | p :: ps, _, v :: vs, _, e, h => by
    cases h with
    | cons a b =>
      obtain ⟨x, y⟩ := VsRel.cut (ps := ps) (vs := vs) (by simpa using e) b
      exact ⟨.cons a x, y⟩
  | [], _, _ :: _, _, e, _ => by simp at e
  | _ :: _, _, [], _, e, _ => by simp at e
theorem VsRel.append {tl : Led} : ∀ {ps vs qs us}, VsRel tl ps vs → VsRel tl qs us → VsRel tl (ps ++ qs) (vs ++ us)
  | _, _, _, _, .nil, h => h
  | _, _, _, _, .cons a b, h => .cons a (VsRel.append b h)
/-- entries of a dict with written str keys -/
inductive EsRel (C : Cx) (tl : Led) : List (Str × PV) → List DictEntry → Prop
  | nil : EsRel C tl [] []
  | cons {k : Str} {t : Tok} {p v ps es} : VRel tl p v → EsRel C tl ps es → EsRel C tl ((k, p) :: ps) (⟨PyData.keyHash C.w.params k, .str k t, v⟩ :: es)
theorem EsRel.mono {C : Cx} {tl tl' : Led} (h : ∀ x ∈ tl, x ∈ tl') : ∀ {p v}, EsRel C tl p v → EsRel C tl' p v
  | _, _, .nil => .nil
  | _, _, .cons a b => .cons (a.mono h) (b.mono h)

inductive ORel (C : Cx) (tl : Led) (a : Addr) : AObj → Led → Prop
  | list {ps : List PV} {vs : List Value} {n : Nat} : VsRel tl ps vs → ORel C tl a (.list ps) [(a, listOf vs.toArray n)]
  | dict {ps : List (Str × PV)} {es : List DictEntry} {n : Nat} : EsRel C tl ps es → (ps.map (·.1)).Nodup → ORel C tl a (.dict ps) [(a, dictOf es n)]
  | inst {K : Addr} {d : Addr} {ps : List (Str × PV)} {es : List DictEntry} {n : Nat} : EsRel C tl ps es → (ps.map (·.1)).Nodup → ORel C tl a (.inst K ps) [(a, instObj K d), (d, dictOf es n)]
  | raw {P : Obj → Prop} {o : Obj} : P o → ORel C tl a (.raw P) [(a, o)]
theorem ORel.mono {C : Cx} {tl tl' : Led} {a : Addr} (h : ∀ x ∈ tl, x ∈ tl') : ∀ {o v}, ORel C tl a o v → ORel C tl' a o v
  | _, _, .list r => .list (r.mono h)
  | _, _, .dict r n => .dict (r.mono h) n
  | _, _, .inst r n => .inst (r.mono h) n
  | _, _, .raw h => .raw h
theorem ORel.head {C : Cx} {tl : Led} {a : Addr} : ∀ {o v}, ORel C tl a o v → ∃ x r, v = (a, x) :: r
  | _, _, .list _ => (i20 _ _ rfl)
  | _, _, .dict _ _ => (i20 _ _ rfl)
  | _, _, .inst _ _ => (i20 _ _ rfl)
  | _, _, .raw _ => (i20 _ _ rfl)

inductive HRel (C : Cx) (tl : Led) : AH → Led → Prop
  | nil : HRel C tl [] []
  | cons {a o c ah mu} : ORel C tl a o c → HRel C tl ah mu → HRel C tl ((a, o) :: ah) (c ++ mu)
theorem HRel.mono {C : Cx} {tl tl' : Led} (h : ∀ x ∈ tl, x ∈ tl') : ∀ {o v}, HRel C tl o v → HRel C tl' o v
  | _, _, .nil => .nil
  | _, _, .cons r s => .cons (r.mono h) (s.mono h)

/-- what of the machine's shared state is spoken of -/
structure HS where
  heap : Heap
  gens : Array GenState
  os : OsState
noncomputable abbrev vw (s : Shared) : HS := ⟨s.heap, s.gens, s.os⟩
noncomputable abbrev HS.to (x : HS) (h : Heap) : HS := ⟨h, x.gens, x.os⟩
structure Sim0 (C : Cx) (h₀ : Heap) (L : Addr) (locs : List Str) (st : St) (hp : List PV) (hv : List Value) (h : HS) (m : Str → Option Value) (mu tl : Led) : Prop where
  F : Fr h₀ L h.heap m
  N : News h₀ L h.heap (mu ++ tl)
  nd : ((mu ++ tl).map (·.1)).Nodup
  H : HRel C tl st.ah mu
  nm : st.loc.map (·.1) = locs
  X : h.gens = C.gens ∧ h.os = C.os
  R : ∀ x pv, (x, some pv) ∈ st.loc → ∃ v, m x = some v ∧ VRel tl pv v
  O : VsRel tl hp hv
noncomputable def Sim (C : Cx) (h₀ : Heap) (L : Addr) (locs : List Str) (st : St) (hp : List PV) (hv : List Value) (h : HS) : Prop := ∃ m mu tl, Sim0 C h₀ L locs st hp hv h m mu tl

/-- one activation of a def -/
structure Act (C : Cx) (F : FnI) where
  L : Addr
  A₀ : Around
  base : Heap
  h₀ : Heap
  outer : List Env
  B : Below A₀ base outer h₀
  X : C.K.In h₀
  T : Top C.p C.loose C.mean C.mg C.mb h₀
  cl : List (Str × Addr)

variable {C : Cx} {F : FnI}
noncomputable abbrev Act.env (V : Act C F) : Env := envX F.qual F.scope V.L F.a F.cd V.cl
noncomputable abbrev Act.Sim (V : Act C F) (st : St) (hp : List PV) (hv : List Value) (h : HS) : Prop := Mine.Sim C V.h₀ V.L F.locs st hp hv h
/-- what may be raised in this activation: the one exception that C tells of -/
structure Act.Er (V : Act C F) (e : Value) (s : Shared) : Prop where
  h : ∃ cl code x fl, C.er = some (cl, code) ∧ e = .ref x ∧ (fl = .none ∨ fl = rawInt V.L) ∧ Fly V.base V.h₀ (V.env :: V.outer) cl code fl x s.heap ∧ s.gens = C.gens ∧ s.os = C.os
  ns : ∃ m, s.heap.Ns V.L m
theorem Act.Er.no {V : Act C F} {e : Value} {s : Shared} (hC : C.er = none) (h : V.Er e s) : False := by
  refine x41 h.h fun cl code x fl h1 z0 => ?_
  rw [hC] at h1
  cases h1
structure Act.Ok (V : Act C F) (A : Around) (n : Nat) (E : Value → Shared → Prop) : Prop where
  er : ∀ e s, V.Er e s → E e s
  fr : A.frames = some (V.env :: V.outer)
  hd : A.handled = none
  dp : A.depth + n < 1000
  un : A.units + 10 * n < 9900
theorem Act.Ok.le {V : Act C F} {A : Around} {n k : Nat} {E : Value → Shared → Prop} (h : V.Ok A n E) (hk : k ≤ n) : V.Ok A k E := ⟨h.er, h.fr, h.hd, by have := h.dp; omega, by have := h.un; omega⟩
theorem Act.Ok.units {V : Act C F} {A : Around} {n : Nat} {E : Value → Shared → Prop} (h : V.Ok A n E) : A.units < cLine := by have := h.un; simp only [cLine]; omega
noncomputable abbrev M (C : Cx) : Model := model C.prog C.w
theorem Act.Ok.own {V : Act C F} {A : Around} {n : Nat} {E : Value → Shared → Prop} {env : Env} (he : env.frame = V.env.frame) (h : V.Ok A n E) : V.Ok A n (notedBy (M C) A env (cameBackBy (M C) A env E)) :=
  ⟨fun e s he' => by obtain ⟨⟨cl, code, x, fl, h1, h2, h3, h4, h5⟩, m, hn⟩ := he'; subst h2; exact fly_own h.fr rfl he h3 h4.here fun h' F' => h.er _ _ ⟨(i44 cl code x _ h1 rfl (.inr rfl) (h4.there F') h5), m, F'.slots.ns hn⟩, h.fr, h.hd, h.dp, h.un⟩
noncomputable abbrev Pst (V : Act C F) (hp : List PV) (hv : List Value) (Q : PV → St → Prop) : Value → Shared → Prop := fun v s' => ∃ pv st', Q pv st' ∧ V.Sim st' (pv :: hp) (v :: hv) (vw s')
noncomputable abbrev PstB (V : Act C F) (hp : List PV) (hv : List Value) (Q : Bool → St → Prop) : Bool → Shared → Prop := fun b s' => ∃ st', Q b st' ∧ V.Sim st' hp hv (vw s')
noncomputable abbrev PstL (V : Act C F) (hp : List PV) (hv : List Value) (Q : List PV → St → Prop) : List Value → Shared → Prop := fun vs s' => ∃ ps st', Q ps st' ∧ vs.length = ps.length ∧ V.Sim st' (ps ++ hp) (vs ++ hv) (vw s')

noncomputable def Ev (V : Act C F) (n : Nat) (e : Expr) (st : St) (Q : PV → St → Prop) : Prop :=
  ∀ A s hp hv E, V.Ok A n E → V.Sim st hp hv (vw s) → wpAny (M C) A (eval e V.env) (Pst V hp hv Q) E s
noncomputable def Tt (V : Act C F) (n : Nat) (e : Expr) (st : St) (Q : Bool → St → Prop) : Prop :=
  ∀ A s hp hv E, V.Ok A n E → V.Sim st hp hv (vw s) → wpAny (M C) A (isTrue e V.env (eval e V.env)) (PstB V hp hv Q) E s
/-- a list of arguments or elements, in order -/
noncomputable def Es (V : Act C F) (n : Nat) (es : List Expr) (st : St) (Q : List PV → St → Prop) : Prop :=
  ∀ A s hp hv E pos, V.Ok A n E → V.Sim st hp hv (vw s) → wpAny (M C) A (spliced (backTo pos (starEach es V.env))) (PstL V hp hv Q) E s
noncomputable def Bo (V : Act C F) (n : Nat) (op : Operator) (x y : PV) (st : St) (Q : PV → St → Prop) : Prop :=
  ∀ A s hp hv E vx vy, V.Ok A n E → V.Sim st (y :: x :: hp) (vy :: vx :: hv) (vw s) → wpAny (M C) A (binaryOp op vx vy) (Pst V hp hv Q) E s
noncomputable def Uo (V : Act C F) (n : Nat) (op : UnaryOp) (x : PV) (st : St) (Q : PV → St → Prop) : Prop :=
  ∀ A s hp hv E vx, V.Ok A n E → V.Sim st (x :: hp) (vx :: hv) (vw s) → wpAny (M C) A (unaryOp op vx) (Pst V hp hv Q) E s
noncomputable def Co (V : Act C F) (n : Nat) (op : CmpOp) (x y : PV) (st : St) (Q : Bool → St → Prop) : Prop :=
  ∀ A s hp hv E vx vy, V.Ok A n E → V.Sim st (y :: x :: hp) (vy :: vx :: hv) (vw s) → wpAny (M C) A (compareOp op vx vy) (fun v s' => ∃ b, v = .bool b ∧ PstB V hp hv Q b s') E s
noncomputable def Ca (V : Act C F) (n : Nat) (f : Value) (args : List PV) (st : St) (Q : PV → St → Prop) : Prop :=
  ∀ A s hp hv E vs, V.Ok A n E → vs.length = args.length → V.Sim st (args ++ hp) (vs ++ hv) (vw s) → wpAny (M C) A (call f vs) (Pst V hp hv Q) E s

noncomputable abbrev PstF (V : Act C F) (hp : List PV) (hv : List Value) (Qn : St → Prop) (Qr : PV → St → Prop) (Qc : St → Prop) : Flow → Shared → Prop := fun f s' =>
  match f with
  | .next => ∃ st', Qn st' ∧ V.Sim st' hp hv (vw s')
  | .cont => ∃ st', Qc st' ∧ V.Sim st' hp hv (vw s')
  | .ret v => Pst V hp hv Qr v s'
  | .brk => False
noncomputable def Ex1 (V : Act C F) (n : Nat) (x : Stmt) (st : St) (Qn : St → Prop) (Qr : PV → St → Prop) (Qc : St → Prop) : Prop :=
  ∀ A s hp hv E, V.Ok A n E → V.Sim st hp hv (vw s) → wpAny (M C) A (exec x V.env) (PstF V hp hv Qn Qr Qc) E s
noncomputable def Ex (V : Act C F) (n : Nat) (x : List Stmt) (st : St) (Qn : St → Prop) (Qr : PV → St → Prop) (Qc : St → Prop) : Prop :=
  ∀ A s hp hv E, V.Ok A n E → V.Sim st hp hv (vw s) → wpAny (M C) A (execs x V.env) (PstF V hp hv Qn Qr Qc) E s

/-- an expression run, with what comes behind it -/
theorem Ev.run {V : Act C F} {n : Nat} {e : Expr} {st : St} {Q : PV → St → Prop} {A : Around} {s : Shared} {hp : List PV} {hv : List Value} {E : Value → Shared → Prop} {R : Value → Shared → Prop} (h : Ev V n e st Q) (ok : V.Ok A n E) (S : V.Sim st hp hv (vw s))
    (k : ∀ p st1, Q p st1 → ∀ v s1, V.Sim st1 (p :: hp) (v :: hv) (vw s1) → R v s1) : wpAny (M C) A (eval e V.env) R E s :=
  wpAny_mono (h A s hp hv E ok S) (fun v s1 hx => hx.elim fun p hx => hx.elim fun st1 hx => k p st1 hx.1 v s1 hx.2) fun z0 z0 e => e
/-! ### facts of Sim -/
section
variable {h₀ : Heap} {h : HS} {L : Addr} {locs : List Str} {st : St} {hp : List PV} {hv : List Value}
theorem Sim.head {p : PV} {v : Value} (S : Sim C h₀ L locs st (p :: hp) (v :: hv) h) : ∃ tl, VRel tl p v := S.elim fun z0 S => S.elim fun z0 S => S.elim fun tl S => ⟨tl, S.O.hd⟩
theorem Sim.drop1 {p : PV} {v : Value} (S : Sim C h₀ L locs st (p :: hp) (v :: hv) h) : Sim C h₀ L locs st hp hv h := by
  refine x30 S fun m mu tl S => ?_
  exact (i30 m mu tl ⟨S.F, S.N, S.nd, S.H, S.nm, S.X, S.R, S.O.tl'⟩)
theorem Sim.push {p : PV} {v : Value} (S : Sim C h₀ L locs st hp hv h) (r : ∀ tl, VRel tl p v) : Sim C h₀ L locs st (p :: hp) (v :: hv) h := by
  refine x30 S fun m mu tl S => ?_
  exact (i30 m mu tl ⟨S.F, S.N, S.nd, S.H, S.nm, S.X, S.R, .cons (r tl) S.O⟩)
theorem Sim.int1 {i : Int} {v : Value} (S : Sim C h₀ L locs st (.int i :: hp) (v :: hv) h) : ∃ t, v = .int i t := S.head.elim fun z0 r => r.int_inv
theorem Sim.str1 {i : List Nat} {v : Value} (S : Sim C h₀ L locs st (.str i :: hp) (v :: hv) h) : ∃ x t, v = .str x t ∧ x.cps.toList = i := S.head.elim fun z0 r => r.str_inv
theorem Sim.bool1 {i : Bool} {v : Value} (S : Sim C h₀ L locs st (.bool i :: hp) (v :: hv) h) : v = .bool i := S.head.elim fun z0 r => r.bool_inv
theorem Sim.none1 {v : Value} (S : Sim C h₀ L locs st (.none :: hp) (v :: hv) h) : v = .none := S.head.elim fun z0 r => r.none_inv
theorem Sim.ref1 {a : Addr} {v : Value} (S : Sim C h₀ L locs st (.ref a :: hp) (v :: hv) h) : v = .ref a := S.head.elim fun z0 r => r.ref_inv
theorem Sim.swap {p q : PV} {v u : Value} (S : Sim C h₀ L locs st (p :: q :: hp) (v :: u :: hv) h) : Sim C h₀ L locs st (q :: p :: hp) (u :: v :: hv) h := by
  refine x30 S fun m mu tl S => ?_
  exact (i30 m mu tl ⟨S.F, S.N, S.nd, S.H, S.nm, S.X, S.R, .cons S.O.tl'.hd (.cons S.O.hd S.O.tl'.tl')⟩)
end
end Mine
end
section
open PySem PySem.W PyProof.Rows
set_option Elab.async false
set_option tactic.hygienic false
set_option genSizeOf false
set_option genInjectivity false
set_option maxRecDepth 100000
set_option maxHeartbeats 1000000
set_option linter.unusedVariables false
set_option linter.unusedSimpArgs false
namespace Mine
variable {C : Cx} {F : FnI} {V : Act C F} {n : Nat}

/-! ### nodes -/
theorem Ev_local {x : Str} {p : PV} {pos : Pos} {st : St} {Q : PV → St → Prop} (hm : (x, some p) ∈ st.loc) (h : Q p st) : Ev V n (.Name x pos) st Q := by
  intro A s hp hv E ok S
  refine x30 S fun m mu tl S => ?_
  refine x11 (S.R x p hm) fun v hv' r => ?_
  have hx : x ∈ F.locs := S.nm ▸ List.mem_map_of_mem (f := (·.1)) hm
  exact nameX_L S.F hv' (i21 p st h (i30 m mu tl ⟨S.F, S.N, S.nd, S.H, S.nm, S.X, S.R, .cons r S.O⟩)) F.hk (F.hl x hx).1 (F.hl x hx).2
theorem Ev_int {i : Int} {k : Nat} {pos : Pos} {st : St} {Q : PV → St → Prop} (h : Q (.int i) st) : Ev V n (.Constant (.int i) k pos) st Q :=
  fun A s hp hv E ok S => wpAny_Constant_int (i21 _ st h (S.push fun z0 => .int _ _))
/-- the signs' numbers of a written text -/
noncomputable def cs (s : String) : List Nat := (Str.ofString s).cps.toList
theorem Ev_bool {b : Bool} {k : Nat} {pos : Pos} {st : St} {Q : PV → St → Prop} (h : Q (.bool b) st) : Ev V n (.Constant (.bool b) k pos) st Q :=
  fun A s hp hv E ok S => Constant_bool (i21 _ st h (S.push fun z0 => .bool _))
theorem Ev_none {k : Nat} {pos : Pos} {st : St} {Q : PV → St → Prop} (h : Q .none st) : Ev V n (.Constant .none k pos) st Q :=
  fun A s hp hv E ok S => Constant_none (i21 _ st h (S.push fun z0 => .none))
theorem Ev_bin {l r : Expr} {op : Operator} {pos : Pos} {st : St} {Q : PV → St → Prop} (h : Ev V n l st fun x st1 => Ev V n r st1 fun y st2 => Bo V n op x y st2 Q) : Ev V n (.BinOp l op r pos) st Q := by
  intro A s hp hv E ok S
  refine wpAny_BinOp (h.run ok S fun x st1 h1 v s1 S1 => ?_)
  exact h1.run ok S1 fun y st2 h2 u s2 S2 => h2 A s2 _ _ E _ _ ok S2
theorem Ev_un {x : Expr} {op : UnaryOp} {pos : Pos} {st : St} {Q : PV → St → Prop} (h : Ev V n x st fun x st1 => Uo V n op x st1 Q) : Ev V n (.UnaryOp op x pos) st Q := by
  intro A s hp hv E ok S
  exact UnaryOp_ (h.run ok S fun x st1 h1 v s1 S1 => h1 A s1 _ _ E _ ok S1)
theorem Ev_cmp {l r : Expr} {op : CmpOp} {pos : Pos} {st : St} {Q : PV → St → Prop} (h : Ev V n l st fun x st1 => Ev V n r st1 fun y st2 => Co V n op x y st2 fun b => Q (.bool b))
    (hm : behindInMarks op r = false) : Ev V n (.Compare l [op] [r] pos) st Q := by
  intro A s hp hv E ok S
  refine wpAny_Compare1 (h.run ok S fun x st1 h1 v s1 S1 => ?_) hm
  refine h1.run ok S1 fun y st2 h2 u s2 S2 => ?_
  refine wpAny_mono (h2 A s2 _ _ E _ _ ok S2) (fun u s3 hx => ?_) fun z0 z0 e => e
  obtain ⟨b, e, st3, h3, S3⟩ := hx
  exact (i21 _ st3 h3 (S3.push fun z0 => e ▸ .bool _))
theorem Tt_cmp {l r : Expr} {op : CmpOp} {pos : Pos} {st : St} {Q : Bool → St → Prop} (h : Ev V n l st fun x st1 => Ev V n r st1 fun y st2 => Co V n op x y st2 Q)
    (hm : behindInMarks op r = false) : Tt V n (.Compare l [op] [r] pos) st Q := by
  intro A s hp hv E ok S
  refine wpAny_isTrue_Compare1 (h.run ok S fun x st1 h1 v s1 S1 => ?_) hm
  refine h1.run ok S1 fun y st2 h2 u s2 S2 => ?_
  refine wpAny_mono (h2 A s2 _ _ E _ _ ok S2) (fun u s3 hx => ?_) fun z0 z0 e => e
  obtain ⟨b, e, st3, h3, S3⟩ := hx
  subst e
  exact wpAny_truthy_bool (i11 st3 h3 S3)
/-- a test that is a plain expression with a bool behind it -/
theorem Tt_plain {e : Expr} {st : St} {Q : Bool → St → Prop} (h : Ev V n e st fun v st1 => ∃ b, v = .bool b ∧ Q b st1)
    (he : ∀ whole, isTrue e V.env whole = (do let v ← whole; standAt e.pos; holding [v] (truthy v))) : Tt V n e st Q := by
  intro A s hp hv E ok S
  refine isTrue_plain (wpAny_mono (h A s hp hv E ok S) (fun v s1 zz => x21 zz fun x st1 h0 S1 => x11 h0 fun b e h1 => ?_) fun z0 z0 e => e) (he _)
  subst e
  obtain rfl := S1.bool1
  exact wpAny_truthy_bool (i11 st1 h1 S1.drop1)
theorem Tt_not {x : Expr} {pos : Pos} {st : St} {Q : Bool → St → Prop} (h : Tt V n x st fun b => Q (!b)) : Tt V n (.UnaryOp .Not x pos) st Q :=
  fun A s hp hv E ok S => isTrue_not (h A s hp hv E ok S)
theorem Tt_and0 {pos : Pos} {st : St} {Q : Bool → St → Prop} (h : Q true st) : Tt V n (.BoolOp .And [] pos) st Q := fun A s hp hv E ok S => isTrue_and_nil (i11 st h S)
theorem Tt_or0 {pos : Pos} {st : St} {Q : Bool → St → Prop} (h : Q false st) : Tt V n (.BoolOp .Or [] pos) st Q := fun A s hp hv E ok S => isTrue_or_nil (i11 st h S)
theorem Tt_and {x : Expr} {r : List Expr} {pos : Pos} {st : St} {Q : Bool → St → Prop} (h : Tt V n x st fun b st1 => (b = true → Tt V n (.BoolOp .And r pos) st1 Q) ∧ (b = false → Q false st1)) : Tt V n (.BoolOp .And (x :: r) pos) st Q := by
  intro A s hp hv E ok S
  refine isTrue_and (wpAny_mono (h A s hp hv E ok S) (fun b s1 hx => ?_) fun z0 z0 e => e)
  obtain ⟨st1, ⟨h1, h2⟩, S1⟩ := hx
  cases b with
  | true => exact h1 rfl A s1 hp hv E ok S1
  | false => exact (i11 st1 (h2 rfl) S1)
theorem Tt_or {x : Expr} {r : List Expr} {pos : Pos} {st : St} {Q : Bool → St → Prop} (h : Tt V n x st fun b st1 => (b = true → Q true st1) ∧ (b = false → Tt V n (.BoolOp .Or r pos) st1 Q)) : Tt V n (.BoolOp .Or (x :: r) pos) st Q := by
  intro A s hp hv E ok S
  refine isTrue_or (wpAny_mono (h A s hp hv E ok S) (fun b s1 hx => ?_) fun z0 z0 e => e)
  obtain ⟨st1, ⟨h1, h2⟩, S1⟩ := hx
  cases b with
  | true => exact (i11 st1 (h1 rfl) S1)
  | false => exact h2 rfl A s1 hp hv E ok S1
/-- and | or whose parts are all bools -/
theorem Ev_and1 {x : Expr} {op : BoolOp} {pos : Pos} {st : St} {Q : PV → St → Prop} (h : Ev V n x st Q) : Ev V n (.BoolOp op [x] pos) st Q := fun A s hp hv E ok S => BoolOp_one (h A s hp hv E ok S)
theorem Ev_and {x y : Expr} {r : List Expr} {pos : Pos} {st : St} {Q : PV → St → Prop}
    (h : Ev V n x st fun v st1 => ∃ b, v = .bool b ∧ (b = true → Ev V n (.BoolOp .And (y :: r) pos) st1 Q) ∧ (b = false → Q (.bool false) st1)) : Ev V n (.BoolOp .And (x :: y :: r) pos) st Q := by
  intro A s hp hv E ok S
  refine BoolOp_and (h.run ok S fun x st1 hh v s1 S1 => ?_)
  refine x12 hh fun b e h1 h2 => ?_
  subst e
  obtain rfl := S1.bool1
  refine wpAny_truthy_bool ?_
  cases b with
  | true => exact h1 rfl A s1 hp hv E ok S1.drop1
  | false => exact (i21 _ st1 (h2 rfl) S1)
theorem Ev_or {x y : Expr} {r : List Expr} {pos : Pos} {st : St} {Q : PV → St → Prop}
    (h : Ev V n x st fun v st1 => ∃ b, v = .bool b ∧ (b = true → Q (.bool true) st1) ∧ (b = false → Ev V n (.BoolOp .Or (y :: r) pos) st1 Q)) : Ev V n (.BoolOp .Or (x :: y :: r) pos) st Q := by
  intro A s hp hv E ok S
  refine BoolOp_or (h.run ok S fun x st1 hh v s1 S1 => ?_)
  refine x12 hh fun b e h1 h2 => ?_
  subst e
  obtain rfl := S1.bool1
  refine wpAny_truthy_bool ?_
  cases b with
  | true => exact (i21 _ st1 (h1 rfl) S1)
  | false => exact h2 rfl A s1 hp hv E ok S1.drop1
theorem Ev_ifexp {t a b : Expr} {pos : Pos} {st : St} {Q : PV → St → Prop} (h : Tt V n t st fun c st1 => (c = true → Ev V n a st1 Q) ∧ (c = false → Ev V n b st1 Q)) : Ev V n (.IfExp t a b pos) st Q := by
  intro A s hp hv E ok S
  refine IfExp_ (wpAny_mono (h A s hp hv E ok S) (fun c s1 hx => ?_) fun z0 z0 e => e)
  obtain ⟨st1, ⟨h1, h2⟩, S1⟩ := hx
  cases c with
  | true => exact h1 rfl A s1 hp hv E ok S1
  | false => exact h2 rfl A s1 hp hv E ok S1

theorem Tt_ifexp {t a b : Expr} {pos : Pos} {st : St} {Q : Bool → St → Prop} (h : Tt V n t st fun c st1 => (c = true → Tt V n a st1 Q) ∧ (c = false → Tt V n b st1 Q)) : Tt V n (.IfExp t a b pos) st Q := by
  intro A s hp hv E ok S
  refine isTrue_IfExp (wpAny_mono (h A s hp hv E ok S) (fun c s1 hx => ?_) fun z0 z0 e => e)
  obtain ⟨st1, ⟨h1, h2⟩, S1⟩ := hx
  cases c with
  | true => exact h1 rfl A s1 hp hv E ok S1
  | false => exact h2 rfl A s1 hp hv E ok S1

/-! ### lists of expressions -/
theorem Es_nil {st : St} {Q : List PV → St → Prop} (h : Q [] st) : Es V n [] st Q := fun A s hp hv E pos ok S => Calls.spliced_nil (i22 [] st h rfl S)
theorem Es_cons {e : Expr} {r : List Expr} {st : St} {Q : List PV → St → Prop} (h : Ev V n e st fun p st1 => Es V n r st1 fun ps st2 => Q (p :: ps) st2)
    (he : starEach (e :: r) V.env = (false, eval e V.env) :: starEach r V.env) : Es V n (e :: r) st Q := by
  intro A s hp hv E pos ok S
  refine spliced_more (h.run ok S fun x st1 h1 v s1 S1 => ?_) he
  refine wpAny_mono (h1 A s1 _ _ E pos ok S1) (fun vs s2 hx => ?_) fun z0 z0 e => e
  refine x22 hx fun ps st2 h2 hl S2 => ?_
  refine (i22 _ st2 h2 (by simp [hl]) ?_)
  refine x30 S2 fun m mu tl S2 => ?_
  obtain ⟨a, b⟩ := VsRel.cut hl S2.O
  cases b with
  | cons b c => exact (i30 m mu tl ⟨S2.F, S2.N, S2.nd, S2.H, S2.nm, S2.X, S2.R, .cons b (a.append c)⟩)

/-! ### statements -/
theorem Ex_nil {st : St} {Qn : St → Prop} {Qr : PV → St → Prop} {Qc : St → Prop} (h : Qn st) : Ex V n [] st Qn Qr Qc := fun A s hp hv E ok S => wpAny_execs_nil (i11 st h S)
theorem Ex_cons {x : Stmt} {r : List Stmt} {st : St} {Qn : St → Prop} {Qr : PV → St → Prop} {Qc : St → Prop} (h : Ex1 V n x st (fun st1 => Ex V n r st1 Qn Qr Qc) Qr Qc) : Ex V n (x :: r) st Qn Qr Qc := by
  intro A s hp hv E ok S
  refine wpAny_execs_cons (wpAny_mono (h A s hp hv E ok S) (fun f s1 h1 => ?_) fun z0 z0 e => e)
  cases f with
  | next => refine x11 h1 fun st1 h1 S1 => ?_; exact h1 A s1 hp hv E ok S1
  | cont => exact h1
  | brk => exact h1
  | ret v => exact h1
theorem Ex1_if {t : Expr} {a b : List Stmt} {pos : Pos} {st : St} {Qn : St → Prop} {Qr : PV → St → Prop} {Qc : St → Prop} (h : Tt V n t st fun c st1 => (c = true → Ex V n a st1 Qn Qr Qc) ∧ (c = false → Ex V n b st1 Qn Qr Qc)) : Ex1 V n (.If t a b pos) st Qn Qr Qc := by
  intro A s hp hv E ok S
  refine wpAny_If (wpAny_mono (h A s hp hv E ok S) (fun c s1 hx => ?_) fun z0 z0 e => e)
  obtain ⟨st1, ⟨h1, h2⟩, S1⟩ := hx
  cases c with
  | true => exact h1 rfl A s1 hp hv E ok S1
  | false => exact h2 rfl A s1 hp hv E ok S1
theorem Ex1_ret {e : Expr} {pos : Pos} {st : St} {Qn : St → Prop} {Qr : PV → St → Prop} {Qc : St → Prop} (h : Ev V n e st Qr) : Ex1 V n (.Return (some e) pos) st Qn Qr Qc := by
  intro A s hp hv E ok S
  exact wpAny_Return_some (h A s hp hv E ok S)
theorem Ex1_cont {pos : Pos} {st : St} {Qn : St → Prop} {Qr : PV → St → Prop} {Qc : St → Prop} (h : Qc st) : Ex1 V n (.Continue pos) st Qn Qr Qc := by
  intro A s hp hv E ok S
  exact wpAny_Continue (i11 st h S)

/-- the local x, at its place, gets p -/
inductive Put (x : Str) (p : PV) : Loc → Loc → Prop
  | here {o r} : Put x p ((x, o) :: r) ((x, some p) :: r)
  | next {e r r'} : Put x p r r' → Put x p (e :: r) (e :: r')
theorem Put.names {x : Str} {p : PV} : ∀ {l l'}, Put x p l l' → l'.map (·.1) = l.map (·.1)
  | _, _, .here => rfl
  | _, _, .next h => by simp [Put.names h]
theorem Put.mem {x : Str} {p : PV} : ∀ {l l'}, Put x p l l' → x ∈ l.map (·.1)
  | _, _, .here => by simp
  | _, _, .next h => by have := Put.mem h; simp at this ⊢; exact .inr this
theorem Put.cases {x : Str} {p : PV} : ∀ {l l'}, Put x p l l' → (l.map (·.1)).Nodup → ∀ y q, (y, some q) ∈ l' → (y = x ∧ q = p) ∨ (y ≠ x ∧ (y, some q) ∈ l)
  | _, _, .here (r := r), hn, y, q, hm => by
    simp only [List.map_cons, List.nodup_cons] at hn
    rcases List.mem_cons.mp hm with e | e
    · left; simpa using e
    · right; exact ⟨fun z => hn.1 (z ▸ List.mem_map_of_mem (f := (·.1)) e), .tail _ e⟩
  | _, _, .next (e := e) h, hn, y, q, hm => by
    simp only [List.map_cons, List.nodup_cons] at hn
    rcases List.mem_cons.mp hm with z | z
    · right; subst z
      exact ⟨fun z => hn.1 (by rw [z]; exact h.mem), .head _⟩
    · rcases Put.cases h hn.2 y q z with a | a
      · exact .inl a
      · exact .inr ⟨a.1, .tail _ a.2⟩
theorem store_local {x : Str} {p : PV} {v : Value} {st : St} {loc' : Loc} {Q : Unit → Shared → Prop} {A : Around} {s : Shared} {hp : List PV} {hv : List Value} {E : Value → Shared → Prop}
    (P : Put x p st.loc loc') (S : V.Sim st (p :: hp) (v :: hv) (vw s)) (h : ∀ s', V.Sim ⟨loc', st.ah⟩ hp hv (vw s') → Q () s') : wpAny (M C) A (storeName V.env x v) Q E s := by
  refine x30 S fun m mu tl S => ?_
  have hx : x ∈ F.locs := S.nm ▸ P.mem
  refine storeX_L S.F S.N (fun h' F' N' => h _ ?_) F.hk (F.hl x hx).1
  cases S.O with
  | cons r O =>
    refine (i30 _ mu tl ⟨F', N', S.nd, S.H, P.names.trans S.nm, S.X, fun y q hm => ?_, O⟩)
    rcases P.cases (S.nm ▸ F.hnd) y q hm with ⟨rfl, rfl⟩ | ⟨hne, hm'⟩
    · exact (i11 v (if_pos rfl) r)
    · refine x11 (S.R y q hm') fun u hu ru => ?_
      exact (i11 u ((if_neg hne).trans hu) ru)
theorem Ex1_while {ι : Type} (S : ι → St) (P : ι → Prop) (μ : ι → Nat) (i : ι) {t : Expr} {b : List Stmt} {pos : Pos} {st : St} {Qn : St → Prop} {Qr : PV → St → Prop} {Qc : St → Prop}
    (h0 : st = S i ∧ P i) (h : ∀ i, P i → Tt V n t (S i) fun c st1 => (c = true → Ex V n b st1 (fun st2 => ∃ j, st2 = S j ∧ P j ∧ μ j < μ i) Qr (fun st2 => ∃ j, st2 = S j ∧ P j ∧ μ j < μ i)) ∧ (c = false → Qn st1)) :
    Ex1 V n (.While t b [] pos) st Qn Qr Qc := by
  intro A s hp hv E ok SS
  refine wpAny_While (codeAny_whileLoop (I := fun k s => ∃ i, P i ∧ μ i = k ∧ V.Sim (S i) hp hv (vw s)) (fun k s zz => x12 zz fun i hP hk S1 => ?_) (μ i) (i12 i h0.2 rfl (h0.1 ▸ SS)))
  refine wpAny_mono (h i hP A s hp hv _ (ok.own rfl) S1) (fun c s1 hx => ?_) fun z0 z0 e => e
  obtain ⟨st1, ⟨h1, h2⟩, S2⟩ := hx
  cases c with
  | true =>
    refine wpAny_mono (h1 rfl A s1 hp hv _ (ok.own rfl) S2) (fun f s2 hf => ?_) fun z0 z0 e => e
    cases f with
    | next => obtain ⟨st2, ⟨j, rfl, hj, hm⟩, S3⟩ := hf; exact (i11 (μ j) (hk ▸ hm) (i12 j hj rfl S3))
    | cont => obtain ⟨st2, ⟨j, rfl, hj, hm⟩, S3⟩ := hf; exact (i11 (μ j) (hk ▸ hm) (i12 j hj rfl S3))
    | brk => exact hf.elim
    | ret v => exact hf
  | false => exact wpAny_execs_nil (i11 st1 (h2 rfl) S2)
end Mine
end
section
open PySem PySem.W PyProof.Rows
set_option Elab.async false
set_option tactic.hygienic false
set_option genSizeOf false
set_option genInjectivity false
set_option maxRecDepth 100000
set_option maxHeartbeats 1000000
set_option linter.unusedVariables false
set_option linter.unusedSimpArgs false
namespace Mine
variable {C : Cx} {F : FnI} {V : Act C F} {n : Nat}

/-! ### the same activation, with another exception told of -/
theorem EsRel.to {C C' : Cx} {tl : Led} (hw : C'.w = C.w) : ∀ {p e}, EsRel C tl p e → EsRel C' tl p e
  | _, _, .nil => .nil
  | _, _, .cons (k := k) (t := t) a b => by
    have r := EsRel.cons (C := C') (k := k) (t := t) a (EsRel.to hw b)
    rwa [hw] at r
theorem ORel.to {C C' : Cx} {tl : Led} (hw : C'.w = C.w) {a : Addr} {o : AObj} {c : Led} (h : ORel C tl a o c) : ORel C' tl a o c := by
  cases h with
  | list r => exact .list r
  | dict r n => exact .dict (r.to hw) n
  | inst r n => exact .inst (r.to hw) n
  | raw r => exact .raw r
theorem HRel.to {C C' : Cx} {tl : Led} (hw : C'.w = C.w) {ah : AH} {mu : Led} (h : HRel C tl ah mu) : HRel C' tl ah mu := by
  induction h with
  | nil => exact .nil
  | cons r s ih => exact .cons (r.to hw) ih
noncomputable abbrev Cx.on (C : Cx) (e : Option (Addr × List Nat)) : Cx := { C with er := e }
noncomputable abbrev Act.on (V : Act C F) (e : Option (Addr × List Nat)) : Act (C.on e) F := ⟨V.L, V.A₀, V.base, V.h₀, V.outer, V.B, V.X, V.T, V.cl⟩
theorem Sim.on {e : Option (Addr × List Nat)} {h₀ : Heap} {h : HS} {L : Addr} {locs : List Str} {st : St} {hp : List PV} {hv : List Value} (S : Sim C h₀ L locs st hp hv h) : Sim (C.on e) h₀ L locs st hp hv h :=
  let ⟨m, mu, tl, S⟩ := S; (i30 m mu tl ⟨S.F, S.N, S.nd, S.H.to (by rfl), S.nm, S.X, S.R, S.O⟩)
theorem Sim.off {e : Option (Addr × List Nat)} {h₀ : Heap} {h : HS} {L : Addr} {locs : List Str} {st : St} {hp : List PV} {hv : List Value} (S : Sim (C.on e) h₀ L locs st hp hv h) : Sim C h₀ L locs st hp hv h :=
  let ⟨m, mu, tl, S⟩ := S; (i30 m mu tl ⟨S.F, S.N, S.nd, S.H.to (by rfl), S.nm, S.X, S.R, S.O⟩)
theorem Act.Ok.calm {A : Around} {E : Value → Shared → Prop} (h : V.Ok A n E) (E' : Value → Shared → Prop) : (V.on none).Ok A n E' :=
  ⟨fun e s he => (he.no rfl).elim, h.fr, h.hd, h.dp, h.un⟩

/-! ### calls of the text's own defs -/
/-- it ends with a value, or raises -/
noncomputable def RetP (P E : Value → Shared → Prop) : Result → Shared → Prop := fun r s' => match r with | .ok (.ret v) => P v s' | .ok _ => False | .error e => E e s'
theorem RetP.mono {P P' E : Value → Shared → Prop} {r : Result} {s : Shared} (h : RetP P E r s) (k : ∀ v, P v s → P' v s) : RetP P' E r s := by
  cases r with
  | error e => exact h
  | ok f => cases f with
    | ret v => exact k v h
    | _ => exact h
theorem wpAny_callR {M : Model} {A : Around} {f : Value} {vs : List Value} {P Q E : Value → Shared → Prop} {s : Shared} (h : codeAny M A (.call f ⟨vs, []⟩) (RetP P E) s) (k : ∀ v s', P v s' → Q v s') : wpAny M A (call f vs) Q E s :=
  wpAny_call (codeAny_mono h fun r s' x => (x.mono fun v => k v s' : RetP Q E r s'))
theorem Sim.at_ {h₀ : Heap} {h : HS} {L : Addr} {locs : List Str} {st : St} {loc : Loc} {hp : List PV} {hv : List Value} {ah : AH} (S : Sim C h₀ L locs st hp hv h) (e : st.loc = loc) (e2 : st.ah = ah) : Sim C h₀ L locs ⟨loc, ah⟩ hp hv h := by subst e e2; exact S
/-- what a def, called on args, makes of the objects -/
noncomputable def Fn (C : Cx) (n : Nat) (f : Addr) (args : List PV) (ah : AH) (Q : PV → AH → Prop) : Prop :=
  ∀ (F : FnI) (V : Act C F) A s hp hv (E : Value → Shared → Prop) vs loc, V.Ok A n E → vs.length = args.length → V.Sim ⟨loc, ah⟩ (args ++ hp) (vs ++ hv) (vw s) →
    codeAny (M C) A (.call (.ref f) ⟨vs, []⟩) (RetP (Pst V hp hv (fun p st' => st'.loc = loc ∧ Q p st'.ah)) E) s

/-- the locals' values, as held values -/
inductive LHold (m : Str → Option Value) : Loc → List PV → List Value → Prop
  | nil : LHold m [] [] []
  | skip {x l ps vs} : LHold m l ps vs → LHold m ((x, none) :: l) ps vs
  | keep {x p v l ps vs} : m x = some v → LHold m l ps vs → LHold m ((x, some p) :: l) (p :: ps) (v :: vs)
theorem LHold.make {m : Str → Option Value} {tl : Led} : ∀ {l : Loc}, (∀ x pv, (x, some pv) ∈ l → ∃ v, m x = some v ∧ VRel tl pv v) → ∃ ps vs, LHold m l ps vs ∧ VsRel tl ps vs
  | [], _ => (i21 [] [] .nil .nil)
  | (x, none) :: l, h => by
    refine x21 (LHold.make (l := l) fun x pv hm => h x pv (.tail _ hm)) fun ps vs a b => ?_
    exact (i21 ps vs (.skip a) b)
  | (x, some p) :: l, h => by
    refine x21 (LHold.make (l := l) fun x pv hm => h x pv (.tail _ hm)) fun ps vs a b => ?_
    refine x11 (h x p (.head _)) fun v hv r => ?_
    exact (i21 (p :: ps) (v :: vs) (.keep hv a) (.cons r b))
theorem LHold.back {m : Str → Option Value} {tl : Led} {l : Loc} {ps : List PV} {vs : List Value} (h : LHold m l ps vs) (r : VsRel tl ps vs) (x : Str) (pv : PV) (hm : (x, some pv) ∈ l) : ∃ v, m x = some v ∧ VRel tl pv v := by
  induction h with
  | nil => cases hm
  | skip h ih =>
    rcases List.mem_cons.mp hm with e | e
    · cases e
    · exact ih r e
  | keep hx h ih =>
    rcases List.mem_cons.mp hm with e | e
    · cases e; exact (i11 _ hx r.hd)
    · exact ih r.tl' e

structure DefAt (C : Cx) (F : FnI) (ps : List Str) (rest : List Str) (body : List Stmt) : Prop where
  look : ∃ oc od osl name params dV kV doc pm an ct, C.K.lookup F.a = some ⟨oc, od, .func (fnOf name F.qual params body F.scope dV kV doc pm an F.cd ct), osl⟩ ∧
    ∀ vs : List Value, vs.length = ps.length → bindArgs (fnOf name F.qual params body F.scope dV kV doc pm an F.cd ct) ⟨vs, []⟩ = pure (ps.zip vs)
  code : codeIn C.K F.cd F.qual = true
  locs : F.locs = ps ++ rest
  nocell : ∀ x ∈ F.scope.names, x.2 ≠ .cell
  noco : F.scope.isCoroutine = false
  nogen : F.scope.isGenerator = false

noncomputable def loc0 (ps rest : List Str) (args : List PV) : Loc := (ps.zip (args.map some)) ++ rest.map fun x => (x, none)
theorem loc0_names {ps rest : List Str} {args : List PV} (h : args.length = ps.length) : (loc0 ps rest args).map (·.1) = ps ++ rest := by
  simp only [loc0, List.map_append, List.map_map]
  congr 1
  · rw [List.map_fst_zip]; simp [h]
  · induction rest with
    | nil => rfl
    | cons a r ih => simp [ih]
theorem lookup_of_nodup {β : Type} {k : Str} {v : β} : ∀ {l : List (Str × β)}, (l.map (·.1)).Nodup → (k, v) ∈ l → l.lookup k = some v
  | [], _, h => nomatch h
  | (a, b) :: l, hn, h => by
    simp only [List.map_cons, List.nodup_cons] at hn
    rcases List.mem_cons.mp h with e | e
    · cases e; simp [List.lookup_cons]
    · have : a ≠ k := fun z => hn.1 (z ▸ List.mem_map_of_mem (f := (·.1)) e)
      have hb : (k == a) = false := by simpa using Ne.symm this
      rw [List.lookup_cons, hb]
      exact lookup_of_nodup hn.2 e
theorem loc0_rel {tl : Led} : ∀ {ps rest : List Str} {args : List PV} {vs : List Value}, VsRel tl args vs → args.length = ps.length → ps.Nodup →
    ∀ x pv, (x, some pv) ∈ loc0 ps rest args → ∃ v, (ps.zip vs).reverse.lookup x = some v ∧ VRel tl pv v := by
  intro ps rest args vs r hl hn x pv hm
  have hvl := r.length
  rcases List.mem_append.mp hm with h | h
  · obtain ⟨i, hi⟩ := List.mem_iff_getElem?.mp h
    rw [List.getElem?_zip_eq_some] at hi
    obtain ⟨h1, h2⟩ := hi
    rw [List.getElem?_map] at h2
    cases h3 : args[i]? with
    | none => rw [h3] at h2; cases h2
    | some p =>
      rw [h3] at h2
      cases h2
      refine x11 (r.get h3) fun v hv rv => ?_
      refine (i11 v (lookup_of_nodup ?_ ?_) rv)
      · rw [List.map_reverse, List.map_fst_zip (by lia)]
        exact List.pairwise_reverse.mpr (hn.imp Ne.symm)
      · rw [List.mem_reverse, List.mem_iff_getElem?]
        exact ⟨i, List.getElem?_zip_eq_some.mpr ⟨h1, hv⟩⟩
  · refine x11 (List.mem_map.mp h) fun y z0 e => ?_
    cases e

theorem leave_er {F G : FnI} {V : Act C F} {W : Act C G} {A : Around} {E E' : Value → Shared → Prop} {e : Value} {s : Shared} (hb : W.base = V.base) (ho : W.outer = V.env :: V.outer) (hg : V.h₀.StaysIn W.h₀) {m : Str → Option Value} (hn : W.h₀.Ns V.L m) (hfr : A.frames = some (W.env :: W.outer))
    (er : ∀ e s, V.Er e s → E e s) (h : W.Er e s) : wpAny (M C) A (leaving W.env e) (fun z0 s' => E e s') E' s := by
  refine x44 h.h fun cl code x fl h1 ez0 hfl F hX => ?_
  obtain rfl := ez0
  refine fly_leave hfr rfl hfl F fun h' F' => er _ _ ⟨(i44 cl code x .none h1 rfl (.inl rfl) ?_ hX), m, F'.slots.ns hn⟩
  rw [hb, ho] at F'
  exact F'.back hg
theorem Fn_of_body {f : Addr} (hf : F.a = f) {ps rest : List Str} {body : List Stmt} (D : DefAt C F ps rest body) {args : List PV} {ah : AH} {Q : PV → AH → Prop} (hl : args.length = ps.length)
    (h : ∀ V : Act C F, Ex V n body ⟨loc0 ps rest args, ah⟩ (fun st => Q .none st.ah) (fun p st => Q p st.ah) (fun z0 => False)) : Fn C (n + 1) f args ah Q := by
  subst hf
  intro G V A s hp hv E vs loc ok hvl S
  refine x30 S fun m mu tl S => ?_
  refine x111 D.look fun oc od osl name params dV kV doc pm an ct hlook hbind => ?_
  refine x21 (LHold.make S.R) fun lp lv LH LV => ?_
  obtain ⟨ra, rh⟩ := VsRel.cut hvl S.O
  have hn : ps.Nodup := (List.nodup_append.mp (D.locs ▸ F.hnd)).1
  have hdp := ok.dp
  have hun := ok.un
  refine callX_plain (cl := []) (name := name) (params := params) V.B S.F S.N V.T.nolimit ok.fr rfl G.hk ((V.X.keeps S.F.keep) _ _ hlook) rfl (codeRec_of (V.X.keeps S.F.keep) D.code) (by simp only [recursionLimit]; exact (a_lt hdp)) (BindsTo.of_eq (hbind vs (by lia))) ?_ ?_ D.nocell D.noco D.nogen F.hk
  · intro y hy
    have : y.1 ∈ ps := List.of_mem_zip hy |>.1
    exact (F.hl y.1 (D.locs ▸ List.mem_append_left _ this)).1
  · intro g L' h₁ FG F' N' B' st₀ _
    have X' := V.X.keeps st₀
    have T' := V.T.keeps st₀
    let W : Act C F := ⟨L', A, V.base, g, V.env :: V.outer, B', X', T', []⟩
    have ok' : W.Ok (A.deeper W.env) n (fun e s' => wpAny (M C) (A.deeper W.env) (leaving W.env e) (fun z0 s'' => E e s'') (fun e' s'' => E e' s'') s') := ⟨fun e s1 h1 => leave_er (V := V) (W := W) rfl rfl st₀ FG.ns (by show A.frames.map _ = _; rw [ok.fr]; rfl) ok.er h1, by show A.frames.map _ = _; rw [ok.fr]; rfl, ok.hd, by show A.depth + 1 + n < 1000; exact (a_dep hdp), by show A.units + 3 + 10 * n < 9900; exact (a_un (by decide) hun)⟩
    have S' : W.Sim ⟨loc0 ps rest args, ah⟩ (hp ++ lp) (hv ++ lv) ((vw s).to h₁) :=
      (i30 _ mu tl ⟨F', N', S.nd, S.H, (loc0_names hl).trans D.locs.symm, S.X, loc0_rel ra hl hn, rh.append LV⟩)
    have fin : ∀ p v st' (s' : Shared), Q p st'.ah → W.Sim st' (p :: (hp ++ lp)) (v :: (hv ++ lv)) (vw s') →
        LeaveK V.h₀ V.L m g (RetP (Pst V hp hv (fun p st' => st'.loc = loc ∧ Q p st'.ah)) E) v s' := by
      intro p v st' s' hq ⟨m', mu', tl', S'⟩
      refine leaveK_ S'.F S'.N fun F₀ N₀ => (i21 p ⟨loc, st'.ah⟩ ⟨rfl, hq⟩ (i30 m mu' tl' ⟨F₀, N₀, S'.nd, S'.H, S.nm, S'.X, ?_, ?_⟩))
      · cases S'.O with
        | cons a b => exact LH.back (VsRel.cut rh.length b).2
      · cases S'.O with
        | cons a b => exact .cons a (VsRel.cut rh.length b).1
    refine wpAny_mono (h W _ _ _ _ _ ok' S') (fun f s1 hf => ?_) fun z0 z0 e => e
    cases f with
    | next => refine x11 hf fun st' hq S2 => ?_; exact fin _ _ st' s1 hq (S2.push fun z0 => .none)
    | cont => refine x11 hf fun st' hq z0 => ?_; exact hq.elim
    | brk => exact hf.elim
    | ret v => refine x21 hf fun p st' hq S2 => ?_; exact fin _ _ st' s1 hq S2

theorem Fn.mono {k : Nat} {f : Addr} {args : List PV} {ah : AH} {Q Q' : PV → AH → Prop} (h : Fn C n f args ah Q) (hk : n ≤ k) (hq : ∀ p ah', Q p ah' → Q' p ah') : Fn C k f args ah Q' := by
  intro G V A s hp hv E vs loc ok hvl S
  exact codeAny_mono (h _ V A s hp hv E vs loc (ok.le hk) hvl S) fun r s' x => x.mono fun v y => x21 y fun p st' z S' => i21 p st' ⟨z.1, hq _ _ z.2⟩ S'

/-- what the caller's text knows of a name of the top -/
structure GlobAt (C : Cx) (g : Str) (f : Addr) : Prop where
  at_ : nsIn C.K mainGlobals g = some (some (.ref f))
  keep : keepIn C.K (.ref f) = true

theorem Ev_call {g : Str} {f : Addr} {gp pos : Pos} {e : Expr} {r : List Expr} {st : St} {Q : PV → St → Prop} (G : GlobAt C g f) (hg : g ∈ F.gls)
    (h : Es V n (e :: r) st fun ps st1 => Fn C n f ps st1.ah fun p ah' => Q p ⟨st1.loc, ah'⟩)
    (he : starEach (e :: r) V.env = (false, eval e V.env) :: starEach r V.env) (hpl : ∀ pos, (backTo pos (starEach r V.env)).any (·.1) = false) :
    Ev V n (.Call (.Name g gp) (e :: r) [] pos) st Q := by
  intro A s hp hv E ok S
  refine x30 (id S) fun m mu tl S₀ => ?_
  refine Call_Name rfl (nameX_K S₀.F V.X (topRead_of V.T) G.at_ ?_ F.hk (F.hg g hg).1 (F.hg g hg).2)
  refine callWith_K (K := C.K) V.X G.keep ?_ he (hpl _)
  refine wpAny_mono (h A s hp hv E pos ok S) (fun vs s1 hx => ?_) fun z0 z0 e => e
  refine x22 hx fun ps st1 h1 hl S1 => ?_
  refine x30 (id S1) fun m1 mu1 tl1 S1' => ?_
  refine ⟨V.X.keeps S1'.F.keep, ?_⟩
  exact wpAny_callR (h1 _ V A s1 hp hv E vs st1.loc ok hl S1) fun v s' y => x21 y fun p st' z S' => i21 p ⟨_, st'.ah⟩ z.2 (Sim.at_ S' z.1 rfl)
end Mine
end
section
open PySem PySem.W PyProof.Rows
set_option Elab.async false
set_option tactic.hygienic false
set_option genSizeOf false
set_option genInjectivity false
set_option maxRecDepth 100000
set_option maxHeartbeats 1000000
set_option linter.unusedVariables false
set_option linter.unusedSimpArgs false
namespace Mine

theorem len1 {α : Type} {l : List α} (h : l.length = 1) : ∃ a, l = [a] := by
  cases l with
  | nil => simp at h
  | cons a l => cases l with
    | nil => exact ⟨a, rfl⟩
    | cons b l => simp at h
theorem len2 {α : Type} {l : List α} (h : l.length = 2) : ∃ a b, l = [a, b] := by
  cases l with
  | nil => simp at h
  | cons a l => obtain ⟨b, rfl⟩ := len1 (l := l) (by simpa using h); exact (i20 a b rfl)
theorem len3 {α : Type} {l : List α} (h : l.length = 3) : ∃ a b c, l = [a, b, c] := by
  cases l with
  | nil => simp at h
  | cons a l => refine x20 (len2 (l := l) (by simpa using h)) fun b c ez0 => ?_; obtain rfl := ez0; exact (i30 a b c rfl)

/-! ### the whole heap behind the top, as a part that is known -/
noncomputable def fragOf (h : Heap) : Frag := h.objs.toList.zipIdx.filterMap fun p => if p.1.isFreed then none else some (p.2, p.1)
theorem lookup_zip (l : List Obj) : ∀ (k a : Nat) (o : Obj), ((l.zipIdx k).filterMap fun p => if p.1.isFreed then none else some (p.2, p.1)).lookup a = some o → ∃ i, a = k + i ∧ l[i]? = some o ∧ o.isFreed = false := by
  induction l with
  | nil => intro k a o h; cases h
  | cons x l ih =>
    intro k a o h
    rw [List.zipIdx_cons, List.filterMap_cons] at h
    have step : ((l.zipIdx (k + 1)).filterMap fun p => if p.1.isFreed then none else some (p.2, p.1)).lookup a = some o → ∃ i, a = k + i ∧ (x :: l)[i]? = some o ∧ o.isFreed = false := fun h => by
      refine x12 (ih (k + 1) a o h) fun i ez0 hi ho => ?_
      obtain rfl := ez0
      exact (i12 (i + 1) (by omega) (by simpa using hi) ho)
    dsimp only at h
    cases hx : x.isFreed with
    | true => rw [hx] at h; exact step h
    | false =>
      rw [hx] at h
      simp only [Bool.false_eq_true, if_false] at h
      rw [List.lookup_cons] at h
      cases hb : (a == k) with
      | true =>
        rw [hb] at h
        cases h
        exact (i12 0 (by simpa using hb) rfl hx)
      | false => rw [hb] at h; exact step h
theorem fragOf_in (h : Heap) : (fragOf h).In h := fun a o e => by
  refine x12 (lookup_zip _ 0 a o e) fun i ez0 hi ho => ?_
  obtain rfl := ez0
  rw [Nat.zero_add]
  have : h.objs[i]? = some o := by rw [← Array.getElem?_toList]; exact hi
  unfold Heap.get?
  rw [this]
  obtain ⟨c, d, dt, sl⟩ := o
  cases dt <;> first | rfl | (cases ho)

/-- what is looked at of a def of the top -/
structure Parts where
  qual : Str
  params : Arguments
  body : List Stmt
  scope : Scope
  ok : Bool
  deriving Inhabited

noncomputable def adr (K : Frag) (g : Str) : Addr := match nsIn K mainGlobals g with
  | some (some (.ref a)) => a
  | _ => 0
noncomputable def fnData (K : Frag) (a : Addr) : Option FuncData := match K.lookup a with
  | some ⟨_, _, .func fd, _⟩ => some fd
  | _ => none
noncomputable def cdOf (K : Frag) (a : Addr) : Value := match fnData K a with
  | some fd => fd.code
  | none => .none
noncomputable def partsAt (K : Frag) (a : Addr) : Option Parts := match fnData K a with
  | some ⟨_, qual, params, .stmts body, scope, gl, cl, dV, kV, _, _, _, code, _, bu⟩ => some ⟨qual, params, body, scope, gl == mainGlobals && cl.isEmpty && bu == builtinsNs && codeIn K code qual && dV == .none && kV == .none⟩
  | _ => none
noncomputable def isGlob (K : Frag) (g : Str) : Bool := nsIn K mainGlobals g == some (some (.ref (adr K g))) && keepIn K (.ref (adr K g))

/-- the def of that name in the text -/
noncomputable def defIn (ss : List Stmt) (g : Str) : Option Parts := ss.findSome? fun st => match st with
  | .FunctionDef name params body _ _ _ scope _ _ _ => if name == g then some ⟨g, params, body, scope, true⟩ else none
  | _ => none
noncomputable def clsBody (ss : List Stmt) (g : Str) : List Stmt := (ss.findSome? fun st => match st with
  | .ClassDef name _ _ body _ _ _ _ _ _ _ => if name == g then some body else none
  | _ => none).getD []

noncomputable def initAt (K : Frag) (C : Addr) : Addr := match findIn K (.ref C) "__init__" with
  | some (some (.ref f)) => f
  | _ => 0

set_option tactic.hygienic true in
theorem look_of_parts {K : Frag} {a : Addr} {P : Parts} (h : partsAt K a = some P) (ho : P.ok = true) :
    ∃ oc od osl name params doc pm an ct, K.lookup a = some ⟨oc, od, .func (fnOf name P.qual params P.body P.scope .none .none doc pm an (cdOf K a) ct), osl⟩ ∧ params = P.params ∧ codeIn K (cdOf K a) P.qual = true := by
  unfold partsAt at h
  unfold cdOf
  cases hf : fnData K a with
  | none => rw [hf] at h; cases h
  | some fd =>
    rw [hf] at h
    obtain ⟨name, qual, params, fb, scope, gl, cl, dV, kV, doc, pm, an, code, ct, bu⟩ := fd
    cases fb with
    | expr e => cases h
    | stmts body =>
      cases h
      simp only [Bool.and_eq_true, beq_iff_eq, List.isEmpty_iff] at ho
      obtain ⟨⟨⟨⟨⟨h1, h2⟩, h3⟩, h4⟩, h5⟩, h6⟩ := ho
      subst h1 h2 h3 h5 h6
      unfold fnData at hf
      split at hf
      · rename_i oc od fd osl q
        cases hf
        exact (i92 oc od osl name params doc pm an ct q rfl h4)
      · cases hf

theorem defAt_of {C : Cx} {F : FnI} {ps rest : List Str} {P : Parts} (h : partsAt C.K F.a = some P) (ho : P.ok = true) (hc : F.cd = cdOf C.K F.a) (hq : F.qual = P.qual) (hs : F.scope = P.scope)
    (hb : ∀ name doc pm an ct code vs, vs.length = ps.length → bindArgs (fnOf name P.qual P.params P.body P.scope .none .none doc pm an code ct) ⟨vs, []⟩ = pure (ps.zip vs))
    (hl : F.locs = ps ++ rest) (hn : ∀ x ∈ P.scope.names, x.2 ≠ .cell) (h1 : P.scope.isCoroutine = false) (h2 : P.scope.isGenerator = false) : DefAt C F ps rest P.body := by
  refine x92 (look_of_parts h ho) fun oc od osl name params doc pm an ct hk hp hcode => ?_
  subst hp
  exact ⟨(i111 oc od osl name _ .none .none doc pm an ct (by rw [hc, hq, hs]; exact hk) (fun vs hvs => by rw [hc, hq, hs]; exact hb name doc pm an ct _ vs hvs)), by rw [hc, hq]; exact hcode, hl, by rw [hs]; exact hn, by rw [hs]; exact h1, by rw [hs]; exact h2⟩

theorem globAt_of {C : Cx} {g : Str} (h : isGlob C.K g = true) : GlobAt C g (adr C.K g) := by
  obtain ⟨a, b⟩ := Bool.and_eq_true_iff.mp h
  exact ⟨beq_iff_eq.mp a, b⟩

/-- what is asked of the classes and the built-ins -/
noncomputable def fieldOk (K : Frag) (C : Addr) (x : Str) : Bool := findIn K (.ref C) x == some none && takerIn K C x == some none && plainGet K C x && noGet K none
noncomputable def clsOk (K : Frag) (C : Addr) (fields : List Str) : Bool := makesIn K C && findIn K (.ref C) "__init__" == some (some (.ref (initAt K C))) && typeIn K (.ref (initAt K C)) == some (.type "function") &&
  findIn K (.ref C) "__setattr__" == some (some (.builtin "object.__setattr__")) && plainOver K C && hasDictIn K C && isIn K (.ref C) C && fields.all (fieldOk K C)
/-- what is asked so that an instance is no tuple -/
noncomputable def noTup (K : Frag) (C : Addr) : Bool := plainGet K C "__class__" && findIn K (.ref C) "__class__" == some (some (.builtin "object.__class__")) && specialIn K (.builtin "object.__class__") "__get__" == some (some (.builtin "getset_descriptor.__get__")) &&
  takesIn K (.builtin "object.__class__") == some true && mroIn K C (.type "object") == some true && subIn K (.ref C) (.type "tuple") == some false

/-! what is asked of the exception's class: its object, its namespace, its __init__ with a cell and a default -/
noncomputable def esIn (K : Frag) (a : Addr) : Array DictEntry := match K.lookup a with
  | some ⟨_, _, .dict es _, _⟩ => es
  | _ => #[]
noncomputable def cellIn (K : Frag) (a : Addr) : Option Value := match K.lookup a with
  | some ⟨_, _, .cell v, _⟩ => v
  | _ => none
noncomputable def seqIn (K : Frag) (a : Addr) : Array Value := match K.lookup a with
  | some ⟨_, _, .seq vs _, _⟩ => vs
  | _ => #[]
noncomputable def fieldsIn (K : Frag) (a : Addr) : Array Value := match K.lookup a with
  | some ⟨_, _, .fields vs, _⟩ => vs
  | _ => #[]
noncomputable def refOf (v : Value) : Addr := match v with
  | .ref a => a
  | _ => 0
noncomputable def strOf (v : Option Value) : Str := match v with
  | some (.str s _) => s
  | _ => Str.ofString ""
noncomputable def isStrV (v : Value) : Bool := match v with
  | .str _ _ => true
  | _ => false
noncomputable def bodyOf (b : FuncBody) : List Stmt := match b with
  | .stmts l => l
  | _ => []
noncomputable abbrev excBm : List Value := [.type "Exception", .type "BaseException", .type "object"]
noncomputable def exN (K : Frag) (C : Addr) : Addr := match clsIn K C with
  | some cd => cd.ns
  | none => 0
noncomputable def exI (K : Frag) (C : Addr) : Addr := refOf ((nsFind (esIn K (exN K C)) "__init__").getD .none)
noncomputable def headOk (K : Frag) (C : Addr) : Bool := match K.lookup C with
  | some ⟨tc, _, .cls cd, sl⟩ => (tc == .type "type" && cd.mro == .ref C :: excBm) && (cd.hasDict && (!cd.hasDel && ((sl.toList.length == 6) && (sl.toList[4]? == some (some (.builtin "Exception.__new__"))))))
  | _ => false
noncomputable def nsOk (K : Frag) (C : Addr) : Bool := (esIn K (exN K C)).toList.all (fun e => isStrV e.key) && (nsFind (esIn K (exN K C)) "__init__" == some (.ref (exI K C)) && typeIn K (.ref (exI K C)) == some (.type "function")) &&
  (["__setattr__", "__getattribute__", "__getattr__", "code", "told"] : List Str).all fun x => nsFind (esIn K (exN K C)) x == none
noncomputable def fnOk (K : Frag) (C : Addr) (file : Str) (fd : FuncData) : Bool := (fd.globals == mainGlobals && fd.builtins == builtinsNs) && (codeIn K fd.code fd.qualname && fd.code == .ref (refOf fd.code)) &&
  (fd.closure == [(Str.ofString "__class__", (fd.closure.headD default).2)] && cellIn K (fd.closure.headD default).2 == some (.ref C)) && (fd.defaults == .ref (refOf fd.defaults) && ((seqIn K (refOf fd.defaults)).toList.map (fun v => strOf (some v)) == [Str.ofString ""] && (seqIn K (refOf fd.defaults)).toList.all isStrV)) &&
  (fd.kwdefaults == .none && (isStrV ((fieldsIn K (refOf fd.code)).toList.getD 2 .none) && strOf ((fieldsIn K (refOf fd.code)).toList[2]?) == file)) && (bodyOf fd.body).length == 3
noncomputable def partsE (K : Frag) (C : Addr) (file : Str) : Option Parts := (fnData K (exI K C)).map fun fd => ⟨fd.qualname, fd.params, bodyOf fd.body, fd.scope, fnOk K C file fd⟩
noncomputable def obsE (file : Str) (K : Frag) : Bool × Option Parts :=
  (isGlob K "BasicError" && headOk K (adr K "BasicError") && nsOk K (adr K "BasicError") && nsIn K cStatics "thirdparty.any" == some none && typeIn K (.ref (adr K "Picture")) == some (.type "type"), partsE K (adr K "BasicError") file)
noncomputable def valE (ss : List Stmt) : Bool × Option Parts := (true, (defIn (clsBody ss "BasicError") "__init__").map fun p => { p with qual := "BasicError.__init__" })

noncomputable def obsK (fns bs fields : List Str) (K : Frag) : Bool × List (Option Parts) × Option Parts :=
  (fns.all (isGlob K) && isGlob K "Picture" && bs.all (fun b => nsIn K mainGlobals b == some none) && (clsOk K (adr K "Picture") fields && noTup K (adr K "Picture")), fns.map (fun g => partsAt K (adr K g)), partsAt K (initAt K (adr K "Picture")))
noncomputable def valOf (ss : List Stmt) (fns : List Str) : Bool × List (Option Parts) × Option Parts :=
  (true, fns.map (defIn ss), (defIn (clsBody ss "Picture") "__init__").map fun p => { p with qual := "Picture.__init__" })

noncomputable def obsOf (fns bs fields : List Str) (file : Str) (h : Heap) := (obsK fns bs fields (fragOf h), obsE file (fragOf h))
noncomputable def Says (ss : List Stmt) (fns bs fields : List Str) (file : Str) (w : World) (h : Heap) : Prop := ∃ K : Frag, K.In h ∧ (obsK fns bs fields K, obsE file K) = (valOf ss fns, valE ss)
noncomputable def hook (ss : List Stmt) (fns bs fields : List Str) (file : Str) : Hook :=
  ⟨_, fun s => obsOf fns bs fields file s.heap, fun z0 => (valOf ss fns, valE ss), Says ss fns bs fields file, fun w s e => (i11 (fragOf s.heap) (fragOf_in _) e), fun w h h' zz hk => x11 zz fun k a b => (i11 k (a.keeps hk) b)⟩


/-- what stands behind the top, as used -/
structure Good (C : Cx) (ss : List Stmt) (fns bs fields : List Str) : Prop where
  obs : obsK fns bs fields C.K = valOf ss fns
  exc : obsE C.prog.main.file C.K = valE ss
  sup : (C.prog.main.scope.names.lookup ("super" : Str)).isSome = false
section
variable {C : Cx} {ss : List Stmt} {fns bs fields : List Str}
theorem Good.checks (G : Good C ss fns bs fields) : fns.all (isGlob C.K) = true ∧ isGlob C.K "Picture" = true ∧ bs.all (fun b => nsIn C.K mainGlobals b == some none) = true ∧ clsOk C.K (adr C.K "Picture") fields = true := by
  have := congrArg Prod.fst G.obs
  simp only [obsK, valOf, Bool.and_eq_true] at this
  exact (i03 this.1.1.1 this.1.1.2 this.1.2 this.2.1)
theorem Good.noTup (G : Good C ss fns bs fields) : noTup C.K (adr C.K "Picture") = true := by
  have := congrArg Prod.fst G.obs
  simp only [obsK, valOf, Bool.and_eq_true] at this
  exact this.2.2
theorem Good.glob (G : Good C ss fns bs fields) {g : Str} (h : g ∈ fns) : GlobAt C g (adr C.K g) := globAt_of (List.all_eq_true.mp G.checks.1 g h)
theorem Good.parts (G : Good C ss fns bs fields) {g : Str} (h : g ∈ fns) : partsAt C.K (adr C.K g) = defIn ss g := by
  have := congrArg (fun x => x.2.1) G.obs
  exact List.map_inj_left.mp this g h
theorem Good.builtin (G : Good C ss fns bs fields) {b : Str} (h : b ∈ bs) : nsIn C.K mainGlobals b = some none := beq_iff_eq.mp (List.all_eq_true.mp G.checks.2.2.1 b h)
end
end Mine
end
section
open PySem PySem.W PyProof.Rows
set_option Elab.async false
set_option tactic.hygienic false
set_option genSizeOf false
set_option genInjectivity false
set_option maxRecDepth 100000
set_option maxHeartbeats 1000000
set_option linter.unusedVariables false
set_option linter.unusedSimpArgs false
namespace Mine
variable {C : Cx} {F : FnI} {V : Act C F} {n : Nat}

theorem Sim.str_push {h₀ : Heap} {h : HS} {L : Addr} {locs : List Str} {st : St} {hp : List PV} {hv : List Value} {l : List Nat} {x : Str} {t : Tok} (S : Sim C h₀ L locs st hp hv h) (e : x.cps.toList = l) : Sim C h₀ L locs st (.str l :: hp) (.str x t :: hv) h :=
  S.push fun tl => e ▸ .str x t
/-- another heap with the same frame and ledger -/
theorem Sim0.heap {h₀ h' : Heap} {h : HS} {L : Addr} {locs : List Str} {st : St} {hp : List PV} {hv : List Value} {m : Str → Option Value} {mu tl : Led} (S : Sim0 C h₀ L locs st hp hv h m mu tl) (F' : Fr h₀ L h' m) (N' : News h₀ L h' (mu ++ tl)) :
    Sim C h₀ L locs st hp hv (h.to h') := (i30 m mu tl ⟨F', N', S.nd, S.H, S.nm, S.X, S.R, S.O⟩)

/-! ### ints -/
section
variable {a b : Int} {st : St} {Q : PV → St → Prop} {QB : Bool → St → Prop}
theorem intOp {A : Around} {s s' : Shared} {hp : List PV} {hv : List Value} {x y : PV} {vx vy : Value} {i : Int} {t : Tok} (S : V.Sim st (y :: x :: hp) (vy :: vx :: hv) (vw s)) (h : Q (.int i) st) (he : vw s' = vw s) : Pst V hp hv Q (.int i t) s' :=
  (i21 _ st h (by rw [he]; exact (Sim.drop1 (Sim.drop1 S)).push fun z0 => .int _ _))
theorem Bo_add_int (h : Q (.int (a + b)) st) : Bo V n .Add (.int a) (.int b) st Q := by
  intro A s hp hv E vx vy ok S
  obtain ⟨t, rfl⟩ := S.int1; obtain ⟨u, rfl⟩ := S.drop1.int1
  exact PyProof.Rows.add_int (intOp (A := A) S h rfl)
theorem Bo_sub_int (h : Q (.int (a - b)) st) : Bo V n .Sub (.int a) (.int b) st Q := by
  intro A s hp hv E vx vy ok S
  obtain ⟨t, rfl⟩ := S.int1; obtain ⟨u, rfl⟩ := S.drop1.int1
  exact PyProof.Rows.sub_int (intOp (A := A) S h rfl)
theorem Bo_mul_int (hm : IntMulOk a b) (h : Q (.int (a * b)) st) : Bo V n .Mult (.int a) (.int b) st Q := by
  intro A s hp hv E vx vy ok S
  obtain ⟨t, rfl⟩ := S.int1; obtain ⟨u, rfl⟩ := S.drop1.int1
  exact PyProof.Rows.mul_int (intOp (A := A) S h rfl) hm
theorem Bo_div_int (hb : 0 < b) (hs : b.natAbs.log2 < 9000) (h : Q (.int (a / b)) st) : Bo V n .FloorDiv (.int a) (.int b) st Q := by
  intro A s hp hv E vx vy ok S
  obtain ⟨t, rfl⟩ := S.int1; obtain ⟨u, rfl⟩ := S.drop1.int1
  refine PyProof.Rows.floordiv_int (Int.ne_of_gt hb) ?_ (.inl (PyProof.noPylong_of_log2 hs))
  rw [Int.fdiv_eq_ediv_of_nonneg _ (Int.le_of_lt hb)]
  exact intOp (A := A) S h rfl
theorem Bo_mod_int (hb : 0 < b) (h : Q (.int (a % b)) st) : Bo V n .Mod (.int a) (.int b) st Q := by
  intro A s hp hv E vx vy ok S
  obtain ⟨t, rfl⟩ := S.int1; obtain ⟨u, rfl⟩ := S.drop1.int1
  refine PyProof.Rows.mod_int (Int.ne_of_gt hb) ?_
  rw [Int.fmod_eq_emod_of_nonneg _ (Int.le_of_lt hb)]
  exact intOp (A := A) S h rfl
theorem Bo_pow_int (hb : 0 ≤ b) (hs : (Builtin.Int.intBits a : Int) * b ≤ 2 ^ 27) (h : Q (.int (a ^ b.toNat)) st) : Bo V n .Pow (.int a) (.int b) st Q := by
  intro A s hp hv E vx vy ok S
  obtain ⟨t, rfl⟩ := S.int1; obtain ⟨u, rfl⟩ := S.drop1.int1
  exact PyProof.Rows.pow_int hb hs (intOp (A := A) S h rfl)
theorem Uo_neg (h : Q (.int (-a)) st) : Uo V n .USub (.int a) st Q := by
  intro A s hp hv E vx ok S
  obtain ⟨t, rfl⟩ := S.int1
  exact PyProof.Rows.neg_int (i21 _ st h ((Sim.drop1 S).push fun z0 => .int _ _))
theorem Uo_not {b : Bool} (h : Q (.bool (!b)) st) : Uo V n .Not (.bool b) st Q := by
  intro A s hp hv E vx ok S
  obtain rfl := S.bool1
  exact not_of (wpAny_truthy_bool (i21 _ st h ((Sim.drop1 S).push fun z0 => .bool _)))
theorem cmpOp {s : Shared} {hp : List PV} {hv : List Value} {x y : PV} {vx vy : Value} {b : Bool} (S : V.Sim st (y :: x :: hp) (vy :: vx :: hv) (vw s)) (h : QB b st) : ∃ c, Value.bool b = .bool c ∧ PstB V hp hv QB c s :=
  (i11 b rfl (i11 st h (Sim.drop1 (Sim.drop1 S))))
theorem Co_eq_int (h : QB (decide (a = b)) st) : Co V n .Eq (.int a) (.int b) st QB := by
  intro A s hp hv E vx vy ok S
  obtain ⟨t, rfl⟩ := S.int1; obtain ⟨u, rfl⟩ := S.drop1.int1
  exact PyProof.Rows.eq_int (cmpOp S h)
theorem Co_ne_int (h : QB (!decide (a = b)) st) : Co V n .NotEq (.int a) (.int b) st QB := by
  intro A s hp hv E vx vy ok S
  obtain ⟨t, rfl⟩ := S.int1; obtain ⟨u, rfl⟩ := S.drop1.int1
  exact PyProof.Rows.ne_int (cmpOp S h)
theorem Co_lt_int (h : QB (decide (a < b)) st) : Co V n .Lt (.int a) (.int b) st QB := by
  intro A s hp hv E vx vy ok S
  obtain ⟨t, rfl⟩ := S.int1; obtain ⟨u, rfl⟩ := S.drop1.int1
  exact PyProof.Rows.lt_int (cmpOp S h)
theorem Co_le_int (h : QB (decide (a ≤ b)) st) : Co V n .LtE (.int a) (.int b) st QB := by
  intro A s hp hv E vx vy ok S
  obtain ⟨t, rfl⟩ := S.int1; obtain ⟨u, rfl⟩ := S.drop1.int1
  exact PyProof.Rows.le_int (cmpOp S h)
theorem Co_gt_int (h : QB (decide (b < a)) st) : Co V n .Gt (.int a) (.int b) st QB := by
  intro A s hp hv E vx vy ok S
  obtain ⟨t, rfl⟩ := S.int1; obtain ⟨u, rfl⟩ := S.drop1.int1
  exact PyProof.Rows.gt_int (cmpOp S h)
theorem Co_ge_int (h : QB (decide (b ≤ a)) st) : Co V n .GtE (.int a) (.int b) st QB := by
  intro A s hp hv E vx vy ok S
  obtain ⟨t, rfl⟩ := S.int1; obtain ⟨u, rfl⟩ := S.drop1.int1
  exact PyProof.Rows.ge_int (cmpOp S h)
end

/-! ### texts -/
noncomputable def clip (n : Nat) (v : Option Int) (d : Nat) : Nat := match v with
  | none => d
  | some i => (max 0 (min (if i < 0 then i + n else i) n)).toNat
noncomputable def pySlice {α : Type} (lo hi : Option Int) (l : List α) : List α := (l.take (clip l.length hi l.length)).drop (clip l.length lo 0)
noncomputable def pyMul (l : List Nat) (n : Int) : List Nat := (List.replicate n.toNat l).flatten

theorem filterMap_same {α β : Type} {f g : α → Option β} : ∀ {l : List α}, (∀ x ∈ l, f x = g x) → l.filterMap f = l.filterMap g
  | [], _ => rfl
  | a :: l, h => by
    rw [List.filterMap_cons, List.filterMap_cons, h a (.head _), filterMap_same fun x hx => h x (.tail _ hx)]
theorem range_pick (l : List Nat) (a b : Nat) (hb : b ≤ l.length) : ((List.range (b - a)).map fun k => a + k).filterMap (fun i => l[i]?) = (l.take b).drop a := by
  have key : ∀ (k : Nat), (∀ j, j < k → a + j < l.length) → ((List.range k).map fun k => a + k).filterMap (fun i => l[i]?) = (List.range k).map (fun j => l.getD (a + j) 0) := by
    intro k hk
    rw [List.filterMap_map, ← List.filterMap_eq_map]
    apply filterMap_same
    intro j hj
    have := hk j (List.mem_range.mp hj)
    simp [List.getD, this]
  rw [key _ fun j hj => Nat.lt_of_lt_of_le (Nat.add_lt_of_lt_sub' hj) hb]
  apply List.ext_getElem?
  intro i
  by_cases hi : i < b - a
  · rw [List.getElem?_map, List.getElem?_range hi, List.getElem?_drop, List.getElem?_take]
    have h' := Nat.add_lt_of_lt_sub' hi
    rw [if_pos h']
    have : a + i < l.length := Nat.lt_of_lt_of_le h' hb
    simp [List.getD, this]
  · rw [List.getElem?_map, List.getElem?_drop, List.getElem?_take, if_neg fun z => hi (Nat.lt_sub_of_add_lt (Nat.add_comm a i ▸ z))]
    simp; exact Nat.sub_le_iff_le_add.mp (Nat.not_lt.mp hi)
noncomputable def clipI (n : Int) (v : Option Int) (d : Int) : Int := match v with
  | none => d
  | some i => max 0 (min (if i < 0 then i + n else i) n)
theorem clip_eq (n : Nat) (v : Option Int) (d : Nat) (hd : d ≤ n) : clipI n v d = (clip n v d : Int) ∧ clip n v d ≤ n := by
  cases v with
  | none => exact ⟨rfl, hd⟩
  | some i => exact a_mm (if i < 0 then i + n else i) n
theorem slice_idx (lo hi : Option Int) (n : Nat) : Builtin.Str.strSliceIndices lo hi 1 n = sliceRange (clipI n lo 0) (clipI n hi n) 1 := by
  cases lo <;> cases hi <;> rfl
theorem slice_list (x : Str) (lo hi : Option Int) : (Txt.slice x lo hi).cps.toList = pySlice lo hi x.cps.toList := by
  have hlen : x.length = x.cps.toList.length := by simp [Str.length]
  obtain ⟨ha, ha'⟩ := clip_eq x.length lo 0 (Nat.zero_le _)
  obtain ⟨hb, hb'⟩ := clip_eq x.length hi x.length (Nat.le_refl _)
  have idx : Builtin.Str.strSliceIndices lo hi 1 x.length = (List.range (clip x.length hi x.length - clip x.length lo 0)).map fun k => clip x.length lo 0 + k := by
    rw [slice_idx, show ((0 : Int)) = ((0 : Nat) : Int) from rfl, ha, hb]
    unfold sliceRange
    simp only [show (1 : Int) > 0 by decide, if_true, Int.one_mul]
    have hc : (if (clip x.length lo 0 : Int) < clip x.length hi x.length then ((clip x.length hi x.length : Int) - clip x.length lo 0 + 1 - 1) / 1 else 0).toNat = clip x.length hi x.length - clip x.length lo 0 := by
      split
      · exact a_dv _ _
      · exact (a_sub0 (by assumption)).symm
    rw [hc]
    apply List.map_congr_left
    intro k _
    exact Int.toNat_natCast (clip x.length lo 0 + k)
  unfold Txt.slice
  rw [idx]
  have hp : pySlice lo hi x.cps.toList = (x.cps.toList.take (clip x.length hi x.length)).drop (clip x.length lo 0) := by unfold pySlice; rw [← hlen]
  rw [hp, ← range_pick _ _ _ (by rw [← hlen]; exact hb')]
  split
  · rename_i hc
    simp only [List.length_map, List.length_range, Bool.and_eq_true, beq_iff_eq] at hc
    obtain ⟨h1, h2⟩ := a_full ha' hb' hc.2
    rw [range_pick _ _ _ (by rw [← hlen]; exact hb'), h1, h2, hlen]
    simp only [List.drop_zero]
    exact (List.take_of_length_le (by simp)).symm
  · show (List.filterMap _ _).toArray.toList = _
    rw [List.toList_toArray]
    apply filterMap_same
    intro i _
    rw [Array.getElem?_toList]
theorem foldl_app (l : List Nat) : ∀ (k : Nat) (a : Array Nat), ((List.replicate k l.toArray).foldl (· ++ ·) a).toList = a.toList ++ (List.replicate k l).flatten
  | 0, a => by simp
  | k + 1, a => by
    rw [List.replicate_succ, List.foldl_cons, foldl_app l k, List.replicate_succ, List.flatten_cons]
    simp
theorem mul_list (x : Str) (k : Int) : (Txt.mul x k).cps.toList = pyMul x.cps.toList k := by
  unfold Txt.mul pyMul
  split
  · have : k.toNat = 0 := Int.toNat_eq_zero.mpr (Int.lt_add_one_iff.mp (by assumption))
    rw [this]; rfl
  · split
    · rename_i h1 h2
      simp only [Bool.or_eq_true, beq_iff_eq] at h2
      rcases h2 with rfl | h2
      · simp
      · have : x.cps.toList = [] := by
          have : x.cps.size = 0 := h2
          simpa using this
        rw [this]
        simp
    · show ((List.replicate k.toNat x.cps).foldl (· ++ ·) #[]).toList = _
      have := foldl_app x.cps.toList k.toNat #[]
      simpa using this

theorem cps_append (x y : Str) : (x ++ y).cps.toList = x.cps.toList ++ y.cps.toList := by
  show (x.cps ++ y.cps).toList = _
  simp
theorem len_eq (x : Str) : x.length = x.cps.toList.length := by simp [Str.length]
theorem str_ext {x y : Str} (h : x.cps.toList = y.cps.toList) : x = y := by
  cases x; cases y; simp only [Str.mk.injEq]; exact Array.toList_inj.mp h
theorem str_beq (x y : Str) : (x == y) = decide (x.cps.toList = y.cps.toList) := by
  by_cases h : x = y
  · subst h; simp
  · have : x.cps.toList ≠ y.cps.toList := fun e => h (str_ext e)
    simp [h, this]
section
variable {x y : List Nat} {k : Int} {st : St} {Q : PV → St → Prop} {QB : Bool → St → Prop}
noncomputable abbrev Small (x : List Nat) : Prop := x.length ≤ 1000000
theorem Bo_add_str (h1 : x.length + y.length ≤ 1000000) (h : Q (.str (x ++ y)) st) : Bo V n .Add (.str x) (.str y) st Q := by
  intro A s hp hv E vx vy ok S
  refine x21 S.str1 fun b t ez0 ez1 => ?_
  obtain rfl := ez0
  obtain rfl := ez1; refine x21 S.drop1.str1 fun a u ez0 ez1 => ?_; obtain rfl := ez0; obtain rfl := ez1
  refine PyProof.Rows.add_str (fun t' tk => (i21 _ st h (S.drop1.drop1.str_push (cps_append _ _)))) ?_
  rw [sizeLine_eq, len_eq, len_eq]; exact a_str h1 (by decide)
theorem Bo_mul_str (h1 : k < 1000000) (h2 : x.length * k.toNat ≤ 1000000) (h : Q (.str (pyMul x k)) st) (h3 : -1000000 < k) : Bo V n .Mult (.str x) (.int k) st Q := by
  intro A s hp hv E vx vy ok S
  obtain ⟨t, rfl⟩ := S.int1; refine x21 S.drop1.str1 fun a u ez0 ez1 => ?_; obtain rfl := ez0; obtain rfl := ez1
  refine SB.mul (i02 ?_ (fun hk hc => ?_) (fun hk hc => ?_)) fun t' k' => (i21 _ st h (S.drop1.drop1.str_push (mul_list _ _)))
  · simp only [Bool.or_eq_false_iff, decide_eq_false_iff_not]; lia
  · rw [len_eq]
    have h0 : (0 : Int) < k := Int.lt_of_lt_of_le Int.zero_lt_one (Int.not_lt.mp hk)
    have e1 : (a.cps.toList.length : Int) * k ≤ 1000000 := by
      have := h2
      have e : ((a.cps.toList.length * k.toNat : Nat) : Int) ≤ 1000000 := Int.ofNat_le.mpr h2
      rwa [Int.natCast_mul, Int.toNat_of_nonneg (Int.le_of_lt h0)] at e
    have e2 : (a.cps.toList.length : Int) ≤ 1000000 := by
      have : (a.cps.toList.length : Int) * 1 ≤ a.cps.toList.length * k := Int.mul_le_mul_of_nonneg_left h0 (Int.natCast_nonneg _)
      exact Int.le_trans (Int.le_of_eq (Int.mul_one _).symm) (Int.le_trans this e1)
    have e3 : (1000001 : Int) ≤ (2 ^ 63 - 1) / k := by
      rw [Int.le_ediv_iff_mul_le h0]
      have : 1000001 * k ≤ 1000001 * 1000000 := Int.mul_le_mul_of_nonneg_left (Int.le_of_lt h1) (by decide)
      exact Int.le_trans this (by decide)
    exact Int.not_lt.mpr (Int.le_trans e2 (Int.le_trans (by decide) e3))
  · have : a.length * k.toNat ≤ 1000000 := by rw [len_eq]; exact h2
    exact decide_eq_false (Nat.not_lt.mpr (Nat.le_trans this (by rw [sizeLine_eq]; decide)))
theorem Co_eq_str (h : QB (decide (x = y)) st) : Co V n .Eq (.str x) (.str y) st QB := by
  intro A s hp hv E vx vy ok S
  refine x21 S.str1 fun b t ez0 ez1 => ?_
  obtain rfl := ez0
  obtain rfl := ez1; refine x21 S.drop1.str1 fun a u ez0 ez1 => ?_; obtain rfl := ez0; obtain rfl := ez1
  exact PyProof.Rows.eq_str (by rw [str_beq]; exact cmpOp S h)
theorem Co_ne_str (h : QB (!decide (x = y)) st) : Co V n .NotEq (.str x) (.str y) st QB := by
  intro A s hp hv E vx vy ok S
  refine x21 S.str1 fun b t ez0 ez1 => ?_
  obtain rfl := ez0
  obtain rfl := ez1; refine x21 S.drop1.str1 fun a u ez0 ez1 => ?_; obtain rfl := ez0; obtain rfl := ez1
  refine PyProof.Rows.ne_str ?_
  have : (a != b) = !decide (a.cps.toList = b.cps.toList) := by rw [← str_beq]; rfl
  rw [this]; exact cmpOp S h
end

/-! ### places and parts of a text -/
noncomputable def oi : PV → Option (Option Int)
  | .none => some none
  | .int i => some (some i)
  | _ => none
/-- an end of a slice -/
noncomputable def Eo (V : Act C F) (n : Nat) : Option Expr → St → (PV → St → Prop) → Prop
  | none, st, Q => Q .none st
  | some e, st, Q => Ev V n e st Q
theorem Eo_run {o : Option Expr} {st : St} {Q : PV → St → Prop} (h : Eo V n o st Q) (A : Around) (s : Shared) (hp : List PV) (hv : List Value) (E : Value → Shared → Prop) (ok : V.Ok A n E) (S : V.Sim st hp hv (vw s)) :
    wpAny (M C) A (evalPart o V.env) (Pst V hp hv Q) E s := by
  cases o with
  | none => exact evalPart_none_step (i21 _ st h (S.push fun z0 => .none))
  | some e => exact evalPart_some_step (h A s hp hv E ok S)
theorem Sim.frN {h₀ : Heap} {h : HS} {L : Addr} {locs : List Str} {st : St} {hp : List PV} {hv : List Value} (S : Sim C h₀ L locs st hp hv h) :
    ∃ m N, Fr h₀ L h.heap m ∧ News h₀ L h.heap N ∧ ∀ h', Fr h₀ L h' m → News h₀ L h' N → Sim C h₀ L locs st hp hv (h.to h') := by
  refine x30 S fun m mu tl S => ?_
  exact (i22 m _ S.F S.N (fun h' F' N' => S.heap F' N'))
theorem tempGo_str (value : Expr) (x : Str) (t : Tok) (r : Value) : letTemporaryGo value (.str x t) r = pure () := by cases value <;> rfl
theorem Ev_slice {value : Expr} {lo hi : Option Expr} {p pos : Pos} {st : St} {Q : PV → St → Prop}
    (h : Ev V n value st fun x st1 => Eo V n lo st1 fun l st2 => Eo V n hi st2 fun u st3 => ∃ t a b, x = .str t ∧ oi l = some a ∧ oi u = some b ∧ Small t ∧ Q (.str (pySlice a b t)) st3) :
    Ev V n (.Subscript value (.Slice lo hi none p) pos) st Q := by
  intro A s hp hv E ok S
  refine Subscript_ (h.run ok S fun x st1 h1 vx s1 S1 => ?_)
  refine wpAny_Slice (wpAny_mono (Eo_run h1 A s1 _ _ E ok S1) (fun vl s2 hx => ?_) fun z0 z0 e => e)
  refine x21 hx fun l st2 h2 S2 => ?_
  refine wpAny_mono (Eo_run h2 A s2 _ _ E ok S2) (fun vu s3 hx => ?_) fun z0 z0 e => e
  obtain ⟨u, st3, ⟨t, a, b, ex, el, eu, hs, h3⟩, S3⟩ := hx
  refine evalPart_none_step ?_
  subst ex
  have S4 := S3.drop1.drop1.drop1
  refine x22 S4.frN fun m N F3 N3 back => ?_
  refine x21 S3.drop1.drop1.str1 fun y ty ez0 ez1 => ?_
  obtain rfl := ez0
  obtain rfl := ez1
  have sz : y.length ≤ sizeLine := by rw [sizeLine_eq, len_eq]; simp only [Small] at hs; lia
  have fin : ∀ h' t' k, Fr V.h₀ V.L h' m → News V.h₀ V.L h' N → Pst V hp hv Q (.str (Txt.slice y a b) t') { s3 with heap := h', toks := k } :=
    fun h' t' k F' N' => (i21 _ st3 h3 ((back h' F' N').str_push (slice_list _ _ _)))
  cases l <;> simp only [oi, Option.some.injEq, reduceCtorEq] at el <;> cases u <;> simp only [oi, Option.some.injEq, reduceCtorEq] at eu <;> subst el <;> subst eu
  · obtain rfl := S3.none1; obtain rfl := S3.drop1.none1
    exact slice_strN_nn F3 N3 fin rfl (fun r => tempGo_str _ _ _ _) sz
  · obtain ⟨_, rfl⟩ := S3.int1; obtain rfl := S3.drop1.none1
    exact slice_strN_ns F3 N3 fin rfl (fun r => tempGo_str _ _ _ _) sz
  · obtain rfl := S3.none1; obtain ⟨_, rfl⟩ := S3.drop1.int1
    exact slice_strN_sn F3 N3 fin rfl (fun r => tempGo_str _ _ _ _) sz
  · obtain ⟨_, rfl⟩ := S3.int1; obtain ⟨_, rfl⟩ := S3.drop1.int1
    exact slice_strN_ss F3 N3 fin rfl (fun r => tempGo_str _ _ _ _) sz

/-- x[i] for whatever x is -/
noncomputable def Gi (V : Act C F) (n : Nat) (x i : PV) (st : St) (Q : PV → St → Prop) : Prop :=
  ∀ A s hp hv E vx vi value slice, V.Ok A n E → V.Sim st (i :: x :: hp) (vi :: vx :: hv) (vw s) → (∀ o i, subscripted slice false o i = operate [o, i] (getItem o i)) →
    wpAny (M C) A (subscriptTail value slice vx vi) (Pst V hp hv Q) E s
theorem Ev_item {value i : Expr} {pos : Pos} {st : St} {Q : PV → St → Prop} (h : Ev V n value st fun x st1 => Ev V n i st1 fun j st2 => Gi V n x j st2 Q)
    (hs : ∀ o v, subscripted i false o v = operate [o, v] (getItem o v)) : Ev V n (.Subscript value i pos) st Q := by
  intro A s hp hv E ok S
  refine Subscript_ (h.run ok S fun x st1 h1 vx s1 S1 => ?_)
  refine h1.run ok S1 fun j st2 h2 vi s2 S2 => ?_
  exact h2 A s2 hp hv E vx vi value i ok S2 hs
/-- the place that an index means -/
noncomputable def pyIdx (n : Nat) (i : Int) : Nat := (if i < 0 then i + n else i).toNat
theorem seqIdx {n : Nat} {i : Int} (h1 : -(n : Int) ≤ i) (h2 : i < n) : seqIndex? i n = some (pyIdx n i) ∧ pyIdx n i < n := by
  unfold pyIdx
  constructor
  · unfold seqIndex?
    dsimp only
    rw [if_pos]
    simp only [Bool.and_eq_true, decide_eq_true_eq]
    exact a_ix h1 h2
  · exact (Int.toNat_lt (a_ix h1 h2).1).mpr (a_ix h1 h2).2
theorem Gi_str {t : List Nat} {i : Int} {st : St} {Q : PV → St → Prop} (hs : Small t) (h1 : -(t.length : Int) ≤ i) (h2 : i < t.length) (h : Q (.str [t.getD (pyIdx t.length i) 0]) st) : Gi V n (.str t) (.int i) st Q := by
  intro A s hp hv E vx vi value slice ok S hsub
  obtain ⟨u, rfl⟩ := S.int1; refine x21 S.drop1.str1 fun x t' ez0 ez1 => ?_; obtain rfl := ez0; obtain rfl := ez1
  simp only [Small] at hs
  obtain ⟨a, b⟩ := seqIdx h1 h2
  refine tail_any (typeIs_str _ _ _) PySem.F.slot_str_getitem.lookup (PyProof.Rows.getItem_str (c := x.cps.toList.getD (pyIdx x.cps.toList.length i) 0) ?_ ?_ (i21 _ st h (S.drop1.drop1.str_push rfl))) (hsub _ _)
  · simp only [Bool.or_eq_false_iff, decide_eq_false_iff_not]; exact a_out hs h1 h2
  · rw [len_eq, a]
    simp only [Option.bind_some, ← Array.getElem?_toList]
    rw [List.getD_eq_getElem?_getD, List.getElem?_eq_getElem b]; rfl
end Mine
end
section
open PySem PySem.W PyProof.Rows
set_option Elab.async false
set_option tactic.hygienic false
set_option genSizeOf false
set_option genInjectivity false
set_option maxRecDepth 100000
set_option maxHeartbeats 1000000
set_option linter.unusedVariables false
set_option linter.unusedSimpArgs false
namespace Mine
variable {C : Cx} {F : FnI} {V : Act C F} {n : Nat}

/-! ### tuples made -/
theorem lt_of_news {h₀ h : Heap} {L : Addr} {N : Led} (h' : News h₀ L h N) : ∀ p ∈ N, p.1 < h.objs.size := fun p hp => Heap.lt_size (h' p hp).1
theorem Sim0.tup0 {h₀ h' : Heap} {h : HS} {L : Addr} {locs : List Str} {st : St} {hp : List PV} {hv : List Value} {m : Str → Option Value} {mu tl : Led} {ps : List PV} {vs : List Value} {a : Addr} (S : Sim0 C h₀ L locs st (ps ++ hp) (vs ++ hv) h m mu tl)
    (hl : vs.length = ps.length) (ha : ∀ p ∈ mu ++ tl, p.1 ≠ a) (F' : Fr h₀ L h' m) (N' : News h₀ L h' ((a, tupObj vs) :: (mu ++ tl))) : Sim0 C h₀ L locs st (.tuple ps :: hp) (.ref a :: hv) (h.to h') m mu ((a, tupObj vs) :: tl) := by
  obtain ⟨x, y⟩ := VsRel.cut hl S.O
  have up : ∀ z ∈ tl, z ∈ (a, tupObj vs) :: tl := fun z hz => .tail _ hz
  refine ⟨F', fun p hp => N' p ?_, ?_, S.H.mono up, S.nm, S.X, fun z pv hz => ?_, .cons (.tuple a ps vs (.head _) (x.mono up)) (y.mono up)⟩
  · simp only [List.mem_append, List.mem_cons] at hp ⊢; rcases hp with h | h | h
    · exact .inr (.inl h)
    · exact .inl h
    · exact .inr (.inr h)
  · have hd := S.nd
    simp only [List.map_append, List.map_cons] at hd ⊢
    rw [List.nodup_append] at hd ⊢
    refine x02 hd fun h1 h2 h3 => ?_
    refine (i02 h1 (List.nodup_cons.mpr ⟨fun hm => ?_, h2⟩) (fun b hb c hc => ?_))
    · refine x11 (List.mem_map.mp hm) fun p hp e => ?_
      exact ha p (List.mem_append_right _ hp) e
    · rcases List.mem_cons.mp hc with rfl | hc
      · refine x11 (List.mem_map.mp hb) fun p hp e => ?_
        exact fun q => ha p (List.mem_append_left _ hp) (e.trans q)
      · exact h3 b hb c hc
  · refine x11 (S.R z pv hz) fun v hv r => ?_
    exact (i11 v hv (r.mono up))
theorem Sim0.tup {h₀ h' : Heap} {h : HS} {L : Addr} {locs : List Str} {st : St} {hp : List PV} {hv : List Value} {m : Str → Option Value} {mu tl : Led} {ps : List PV} {vs : List Value} {a : Addr} (S : Sim0 C h₀ L locs st (ps ++ hp) (vs ++ hv) h m mu tl)
    (hl : vs.length = ps.length) (ha : ∀ p ∈ mu ++ tl, p.1 ≠ a) (F' : Fr h₀ L h' m) (N' : News h₀ L h' ((a, tupObj vs) :: (mu ++ tl))) : Sim C h₀ L locs st (.tuple ps :: hp) (.ref a :: hv) (h.to h') := (i30 _ _ _ (S.tup0 hl ha F' N'))
theorem Ev_tuple {elts : List Expr} {k : Nat} {pos : Pos} {st : St} {Q : PV → St → Prop} (h : Es V n elts st fun ps st1 => ps.length ≤ 1000 ∧ Q (.tuple ps) st1) : Ev V n (.Tuple elts k pos) st Q := by
  intro A s hp hv E ok S
  refine Tuple_ (wpAny_mono (h A s hp hv E pos ok S) (fun vs s1 hx => ?_) fun z0 z0 e => e)
  obtain ⟨ps, st1, ⟨h0, h1⟩, hl, S1⟩ := hx
  refine x30 S1 fun m mu tl S1 => ?_
  refine newTuple_N S1.F S1.N (fun h' F' N' => (i21 _ st1 h1 (S1.tup hl (fun p hp => Nat.ne_of_lt (lt_of_news S1.N p hp)) F' N'))) ?_
  rw [sizeLine_eq]; lia

/-! ### targets -/
noncomputable def As (V : Act C F) (n : Nat) (t : Expr) (p : PV) (st : St) (Q : St → Prop) : Prop :=
  ∀ A s hp hv E v, V.Ok A n E → V.Sim st (p :: hp) (v :: hv) (vw s) → wpAny (M C) A (assign t V.env v) (fun z0 s' => ∃ st', Q st' ∧ V.Sim st' hp hv (vw s')) E s
/-- the targets of a tuple, one after the other -/
noncomputable def AsL (V : Act C F) (n : Nat) (ts : List Expr) (ps : List PV) (st : St) (Q : St → Prop) : Prop :=
  ∀ A s hp hv E vs, V.Ok A n E → vs.length = ps.length → V.Sim st (ps ++ hp) (vs ++ hv) (vw s) → wpAny (M C) A (assignInOrder ((assignEach ts V.env).map (·.2)) vs) (fun z0 s' => ∃ st', Q st' ∧ V.Sim st' hp hv (vw s')) E s
theorem AsL_nil {st : St} {Q : St → Prop} (h : Q st) : AsL V n [] [] st Q := by
  intro A s hp hv E vs ok hl S
  cases vs with
  | nil => exact wpAny_pure (i11 st h S)
  | cons _ _ => simp at hl
theorem AsL_cons {t : Expr} {r : List Expr} {p : PV} {ps : List PV} {st : St} {Q : St → Prop} (h : As V n t p st fun st1 => AsL V n r ps st1 Q)
    (he : assignEach (t :: r) V.env = (false, assign t V.env) :: assignEach r V.env) : AsL V n (t :: r) (p :: ps) st Q := by
  intro A s hp hv E vs ok hl S
  cases vs with
  | nil => simp at hl
  | cons v vs =>
    rw [he]
    show wpAny (M C) A (do holding vs (assign t V.env v); assignInOrder ((assignEach r V.env).map (·.2)) vs) _ E s
    refine wpAny_bind (wpAny_holding (wpAny_mono (h A s _ _ E v ok S) (fun z0 s1 hx => ?_) fun z0 z0 e => e))
    refine x11 hx fun st1 h1 S1 => ?_
    exact h1 A s1 hp hv E vs ok (by simpa using hl) S1
theorem Sim.untup {h₀ : Heap} {h : HS} {L : Addr} {locs : List Str} {st : St} {hp : List PV} {hv : List Value} {ps : List PV} {v : Value} (S : Sim C h₀ L locs st (.tuple ps :: hp) (v :: hv) h) :
    ∃ a vs m N, v = .ref a ∧ vs.length = ps.length ∧ Fr h₀ L h.heap m ∧ News h₀ L h.heap N ∧ (a, tupObj vs) ∈ N ∧ ∀ h', Fr h₀ L h' m → News h₀ L h' N → Sim C h₀ L locs st (ps ++ hp) (vs ++ hv) (h.to h') := by
  refine x30 S fun m mu tl S => ?_
  cases hO : S.O with
  | cons a b =>
    cases a with
    | tuple a ps vs hm r =>
      exact (i45 a vs m (mu ++ tl) rfl r.length S.F S.N (List.mem_append_right _ hm) (fun h' F' N' => (i30 m mu tl ⟨F', N', S.nd, S.H, S.nm, S.X, S.R, r.append b⟩)))
theorem As_tuple {ts : List Expr} {k : Nat} {tp : Pos} {ps : List PV} {st : St} {Q : St → Prop} (hn : (assignEach ts V.env).length = ps.length) (hstar : (assignEach ts V.env).findIdx? (·.1) = none)
    (h : AsL V n ts ps st Q) : As V n (.Tuple ts k tp) (.tuple ps) st Q := by
  intro A s hp hv E v ok S
  refine x45 S.untup fun a vs m N ez0 hl F' N' hm back => ?_
  obtain rfl := ez0
  refine unpackN_ F' N' (N'.isTup hm) ok.hd (by rw [hn]; simp [hl]) hstar fun h' F2 N2 => ?_
  have e : vs.toArray.toList = vs := by simp
  rw [e]
  exact h A _ hp hv E vs ok hl (back h' F2 N2)
theorem Ex1_tup {ts : List Expr} {k : Nat} {tp : Pos} {e : Expr} {pos : Pos} {st : St} {Qn : St → Prop} {Qr : PV → St → Prop} {Qc : St → Prop}
    (hs : swapsWithSole [.Tuple ts k tp] e pos.line V.env = pure false) (hw : swappedStores [.Tuple ts k tp] e V.env = pure none)
    (h : Ev V n e st fun p st1 => As V n (.Tuple ts k tp) p st1 Qn) : Ex1 V n (.Assign [.Tuple ts k tp] e pos) st Qn Qr Qc := by
  intro A s hp hv E ok S
  refine Assign_Tuple (h.run ok S fun p st1 h1 v s1 S1 => ?_) hs hw
  exact wpAny_mono (h1 A s1 hp hv E v ok S1) (fun z0 s2 zz => x11 zz fun st2 h2 S2 => (i11 st2 h2 S2)) fun z0 z0 e => e
/-! ### x += e on a local -/
noncomputable def Io (V : Act C F) (n : Nat) (op : Operator) (x y : PV) (st : St) (Q : PV → St → Prop) : Prop :=
  ∀ A s hp hv E vx vy, V.Ok A n E → V.Sim st (y :: x :: hp) (vy :: vx :: hv) (vw s) → wpAny (M C) A (inplaceOp op vx vy) (Pst V hp hv Q) E s
theorem Io_add_int {a b : Int} {st : St} {Q : PV → St → Prop} (h : Q (.int (a + b)) st) : Io V n .Add (.int a) (.int b) st Q := by
  intro A s hp hv E vx vy ok S
  obtain ⟨t, rfl⟩ := S.int1; obtain ⟨u, rfl⟩ := S.drop1.int1
  exact PyProof.Rows.iadd_int (intOp (A := A) S h rfl)
theorem Io_mul_int {a b : Int} {st : St} {Q : PV → St → Prop} (hm : IntMulOk a b) (h : Q (.int (a * b)) st) : Io V n .Mult (.int a) (.int b) st Q := by
  intro A s hp hv E vx vy ok S
  obtain ⟨t, rfl⟩ := S.int1; obtain ⟨u, rfl⟩ := S.drop1.int1
  exact PyProof.Rows.imul_int (intOp (A := A) S h rfl) hm
end Mine
end
section
open PySem PySem.W PyProof.Rows
set_option Elab.async false
set_option tactic.hygienic false
set_option genSizeOf false
set_option genInjectivity false
set_option maxRecDepth 100000
set_option maxHeartbeats 1000000
set_option linter.unusedVariables false
set_option linter.unusedSimpArgs false
namespace Mine
variable {C : Cx} {F : FnI} {V : Act C F} {n : Nat}

/-! ### the objects' part of the ledger -/
theorem HRel.find {tl : Led} {a : Addr} {o : AObj} {ah : AH} {mu : Led} (H : HRel C tl ah mu) (h : (a, o) ∈ ah) : ∃ c, ORel C tl a o c ∧ ∀ x ∈ c, x ∈ mu := by
  induction H with
  | nil => cases h
  | cons r s ih =>
    rcases List.mem_cons.mp h with e | e
    · cases e; exact (i11 _ r (fun x hx => List.mem_append_left _ hx))
    · refine x11 (ih e) fun c' r' hs => ?_
      exact (i11 c' r' (fun x hx => List.mem_append_right _ (hs x hx)))
inductive UpdH (a : Addr) (o o' : AObj) : AH → AH → Prop
  | here {r} : UpdH a o o' ((a, o) :: r) ((a, o') :: r)
  | next {e r r'} : UpdH a o o' r r' → UpdH a o o' (e :: r) (e :: r')
theorem HRel.upd {tl : Led} {a : Addr} {o o' : AObj} {ah ah' : AH} {mu : Led} (H : HRel C tl ah mu) (U : UpdH a o o' ah ah') : ∃ pre c post, mu = pre ++ (c ++ post) ∧ ORel C tl a o c ∧ ∀ c', ORel C tl a o' c' → HRel C tl ah' (pre ++ (c' ++ post)) := by
  induction U generalizing mu with
  | here => cases H with
    | @cons _ _ c _ mu r s => exact (i32 [] c mu rfl r (fun c' r' => show HRel C tl _ (c' ++ mu) from HRel.cons r' s))
  | next u ih => cases H with
    | @cons _ _ d _ _ r s =>
      refine x32 (ih s) fun pre c post e r' k => ?_
      refine (i32 (d ++ pre) c post (by rw [e, List.append_assoc]) r' (fun c' hc => ?_))
      rw [List.append_assoc]
      exact .cons r (k c' hc)
theorem upd_of_nodup {d : Addr} {o o' : Obj} : ∀ {pre post : Led}, ((pre ++ (d, o) :: post).map (·.1)).Nodup → Upd d o o' (pre ++ (d, o) :: post) (pre ++ (d, o') :: post)
  | [], post, h => by
    simp only [List.nil_append, List.map_cons, List.nodup_cons] at h ⊢
    exact .head fun p hp e => h.1 (e ▸ List.mem_map_of_mem (f := (·.1)) hp)
  | p :: pre, post, h => by
    simp only [List.cons_append, List.map_cons, List.nodup_cons] at h ⊢
    refine .tail (fun e => h.1 ?_) (upd_of_nodup h.2)
    rw [e]; simp

/-! ### written keys -/
theorem EsRel.keys {tl : Led} : ∀ {kvs es}, EsRel C tl kvs es → ∀ e ∈ es, ∃ k t, e.key = .str k t
  | _, _, .nil, _, h => nomatch h
  | _, _, .cons _ r, e, h => by
    rcases List.mem_cons.mp h with rfl | h
    · exact (i20 _ _ rfl)
    · exact r.keys e h
theorem EsRel.get {tl : Led} {k : Str} {p : PV} : ∀ {kvs es}, EsRel C tl kvs es → (kvs.map (·.1)).Nodup → (k, p) ∈ kvs → ∃ v, getL k es = some (some v) ∧ VRel tl p v
  | _, _, .cons (k := k') (t := t) (p := q) (v := v) (ps := ps) (es := es) a r, hn, hm => by
    simp only [List.map_cons, List.nodup_cons] at hn
    rcases List.mem_cons.mp hm with e | e
    · cases e
      refine (i11 v ?_ a)
      unfold getL
      rw [List.find?_cons]
      simp [Value.isStr]
    · refine x11 (r.get hn.2 e) fun u h1 h2 => ?_
      refine (i11 u ?_ h2)
      have hne : (k' == k) = false := by
        simp only [beq_eq_false_iff_ne, ne_eq]
        intro z
        exact hn.1 (z ▸ List.mem_map_of_mem (f := (·.1)) e)
      unfold getL at h1 ⊢
      rw [List.find?_cons]
      have e0 : (Value.str k' t).isStr k = false := hne
      simp only [e0]
      cases hf : es.find? (·.key.isStr k) with
      | some e' => rw [hf] at h1; exact h1
      | none =>
        rw [hf] at h1
        dsimp only at h1
        split at h1 <;> cases h1
theorem EsRel.isSome {tl : Led} {k : Str} {kvs es} (r : EsRel C tl kvs es) : (getL k es).isSome = true := by
  unfold getL
  cases hf : es.find? (·.key.isStr k) with
  | some e => rfl
  | none =>
    dsimp only
    rw [if_neg]
    · rfl
    · intro h
      refine x11 (List.any_eq_true.mp h) fun e he hr => ?_
      refine x20 (r.keys e he) fun x t hk => ?_
      obtain ⟨_, ek, _⟩ := e
      dsimp only at hk
      subst hk
      cases hr
inductive PutK (k : Str) (p : PV) : List (Str × PV) → List (Str × PV) → Prop
  | here {q r} : PutK k p ((k, q) :: r) ((k, p) :: r)
  | next {e r r'} : PutK k p r r' → PutK k p (e :: r) (e :: r')
theorem PutK.keys {k : Str} {p : PV} : ∀ {l l'}, PutK k p l l' → l'.map (·.1) = l.map (·.1) ∧ k ∈ l.map (·.1)
  | _, _, .here => ⟨rfl, by simp⟩
  | _, _, .next h => by obtain ⟨a, b⟩ := h.keys; exact ⟨by simp [a], by simp only [List.map_cons]; exact .tail _ b⟩
theorem EsRel.put {tl : Led} {k : Str} {p : PV} {v : Value} {t : Tok} {hs : Int} {kvs kvs' : List (Str × PV)} {es : List DictEntry} (rv : VRel tl p v) (R : EsRel C tl kvs es) (hn : (kvs.map (·.1)).Nodup) (U : PutK k p kvs kvs') :
    EsRel C tl kvs' (putL k hs (.str k t) v es) ∧ es.any (·.key.isStr k) = true := by
  induction U generalizing es with
  | here => cases R with
    | cons a r =>
      refine ⟨?_, by simp [Value.isStr]⟩
      unfold putL
      rw [if_pos (by simp [Value.isStr])]
      exact .cons rv r
  | next u ih => cases R with
    | @cons k' _ _ _ _ _ a r =>
      simp only [List.map_cons, List.nodup_cons] at hn
      have hne : (k' == k) = false := by
        simp only [beq_eq_false_iff_ne, ne_eq]
        intro z
        exact hn.1 (z ▸ u.keys.2)
      obtain ⟨h1, h2⟩ := ih r hn.2
      refine ⟨?_, ?_⟩
      · unfold putL
        rw [if_neg (by simp [Value.isStr, hne])]
        exact .cons a h1
      · rw [List.any_cons, h2]; simp
theorem EsRel.new {tl : Led} {k : Str} {p : PV} {v : Value} {t : Tok} {kvs : List (Str × PV)} {es : List DictEntry} (rv : VRel tl p v) (R : EsRel C tl kvs es) (hn : k ∉ kvs.map (·.1)) :
    EsRel C tl (kvs ++ [(k, p)]) (putL k (PyData.keyHash C.w.params k) (.str k t) v es) ∧ es.any (·.key.isStr k) = false := by
  induction R with
  | nil => exact ⟨.cons rv .nil, rfl⟩
  | @cons k' _ _ _ _ _ a r ih =>
    simp only [List.map_cons, List.mem_cons, not_or] at hn
    have hne : (k' == k) = false := by
      simp only [beq_eq_false_iff_ne, ne_eq]
      exact fun z => hn.1 z.symm
    obtain ⟨h1, h2⟩ := ih hn.2
    refine ⟨?_, ?_⟩
    · unfold putL
      rw [if_neg (by simp [Value.isStr, hne])]
      exact .cons a h1
    · rw [List.any_cons, h2]; simp [Value.isStr, hne]
theorem EsRel.len {tl : Led} : ∀ {kvs es}, EsRel C tl kvs es → es.length = kvs.length
  | _, _, .nil => rfl
  | _, _, .cons _ r => by simp [r.len]

/-! ### fields -/
structure FieldAt (C : Cx) (K : Addr) (x : Str) : Prop where
  ok : fieldOk C.K K x = true
  dict : hasDictIn C.K K = true
  plain : plainOver C.K K = true
  set : findIn C.K (.ref K) "__setattr__" = some (some (.builtin "object.__setattr__"))
theorem FieldAt.parts {K : Addr} {x : Str} (h : FieldAt C K x) : findIn C.K (.ref K) x = some none ∧ takerIn C.K K x = some none ∧ plainGet C.K K x = true ∧ noGet C.K none = true := by
  have := h.ok
  simp only [fieldOk, Bool.and_eq_true, beq_iff_eq] at this
  exact (i03 this.1.1.1 this.1.1.2 this.1.2 this.2)
theorem Good.field {ss : List Stmt} {fns bs fields : List Str} (G : Good C ss fns bs fields) {x : Str} (h : x ∈ fields) : FieldAt C (adr C.K "Picture") x := by
  have := G.checks.2.2.2
  simp only [clsOk, Bool.and_eq_true, beq_iff_eq] at this
  obtain ⟨⟨⟨⟨⟨⟨⟨a, b⟩, c⟩, d⟩, e⟩, f⟩, g⟩, i⟩ := this
  exact ⟨List.all_eq_true.mp i x h, f, e, d⟩
theorem Ev_attr {value : Expr} {x : Str} {pos : Pos} {st : St} {Q : PV → St → Prop}
    (h : Ev V n value st fun o st1 => ∃ a K kvs p, o = .ref a ∧ (a, .inst K kvs) ∈ st1.ah ∧ (x, p) ∈ kvs ∧ FieldAt C K x ∧ Q p st1)
    (he : eval (.Attribute value x pos) V.env = (do
      let o ← eval value V.env
      standAt pos.atName
      let r ← holding [o] (getAttr o x true)
      letTemporaryGo value o r
      pure r)) : Ev V n (.Attribute value x pos) st Q := by
  intro A s hp hv E ok S
  refine Attribute_any_ (wpAny_mono (h A s hp hv E ok S) (fun vo s1 zz => x21 zz fun o st1 h0 S1 => x44 h0 fun a K kvs p eo hm hk hF h1 => ?_) fun z0 z0 e => e) he
  subst eo
  obtain rfl := S1.ref1
  refine x30 S1.drop1 fun m mu tl S1 => ?_
  refine x11 (S1.H.find hm) fun c r hc => ?_
  cases r with
  | inst r hn =>
    refine x11 (r.get hn hk) fun v hg rv => ?_
    refine x03 hF.parts fun f1 f2 f3 f4 => ?_
    refine get_own (K := C.K) S1.F V.X (InstAt.of_news S1.N (List.mem_append_left _ (hc _ (.head _))) (List.mem_append_left _ (hc _ (.tail _ (.head _))))) f3 hF.dict f1 f4 hg ?_ (i21 p st1 h1 (i30 m mu tl ⟨S1.F, S1.N, S1.nd, S1.H, S1.nm, S1.X, S1.R, .cons rv S1.O⟩))
    cases rv <;> rfl
theorem As_attr_run {a K : Addr} {x : Str} {kvs kvs' : List (Str × PV)} {p : PV} {st : St} {ah' : AH} {A : Around} {s : Shared} {hp : List PV} {hv : List Value} {v : Value} {Q : Unit → Shared → Prop} {E : Value → Shared → Prop} (hF : FieldAt C K x)
    (hk : PutK x p kvs kvs' ∨ (x ∉ kvs.map (·.1) ∧ kvs' = kvs ++ [(x, p)])) (hl : kvs'.length ≤ 100) (U : UpdH a (.inst K kvs) (.inst K kvs') st.ah ah') (S : V.Sim st (p :: hp) (v :: hv) (vw s)) (h : ∀ s', V.Sim ⟨st.loc, ah'⟩ hp hv (vw s') → Q () s') :
    wpAny (M C) A (setAttr (.ref a) x v) Q E s := by
  refine x30 S fun m mu tl S => ?_
  refine x32 (S.H.upd U) fun pre c post ez0 r back => ?_
  obtain rfl := ez0
  cases hO : S.O with
  | cons rv O =>
  cases r with
  | @inst _ d _ es nn r hn =>
    refine x03 hF.parts fun f1 f2 f3 f4 => ?_
    obtain ⟨hasP, hn', hput⟩ : ∃ nn', (kvs'.map (·.1)).Nodup ∧ EsRel C tl kvs' (putL x (PyData.keyHash C.w.params x) (.str x (s.toks + 1)) v es) ∧ putN x es nn = nn' := by
      rcases hk with hk | ⟨hk, rfl⟩
      · exact (i12 _ (hk.keys.1 ▸ hn) ((r.put rv hn hk).1) rfl)
      · refine (i12 _ ?_ ((r.new rv hk).1) rfl)
        rw [List.map_append, List.nodup_append]
        refine (i02 hn (by simp) (fun b hb c hc => ?_))
        simp only [List.map_cons, List.map_nil, List.mem_singleton] at hc
        subst hc
        exact fun e => hk (e ▸ hb)
    have hnd : ((pre ++ [(a, instObj K d)] ++ (d, dictOf es nn) :: (post ++ tl)).map (·.1)).Nodup := by
      have := S.nd
      simpa [List.append_assoc] using this
    have U' := upd_of_nodup (o' := dictOf (putL x (PyData.keyHash C.w.params x) (.str x (s.toks + 1)) v es) (putN x es nn)) hnd
    have N' : News V.h₀ V.L s.heap (pre ++ [(a, instObj K d)] ++ (d, dictOf es nn) :: (post ++ tl)) := by
      have := S.N
      simpa [List.append_assoc] using this
    refine set_dict (K := C.K) S.F V.X N' (InstAt.of_news (x := a) (dx := d) (C := K) (sl := #[]) N' (by simp) (by simp)) rfl hF.set hF.plain f2 hF.dict r.isSome rfl U' ?_ fun h' F2 N2 => ?_
    · rw [hput.1.len]; lia
    · have hmu := back [(a, instObj K d), (d, dictOf (putL x (PyData.keyHash C.w.params x) (.str x (s.toks + 1)) v es) (putN x es nn))] (.inst hput.1 hn')
      refine h _ (i30 m _ tl ⟨F2, ?_, ?_, hmu, S.nm, S.X, S.R, O⟩)
      · simpa [List.append_assoc] using N2
      · simpa [List.append_assoc] using hnd

/-- o.x = p, o an instance -/
theorem As_attr {o : Expr} {x : Str} {pos : Pos} {p : PV} {st : St} {Q : St → Prop}
    (h : Ev V n o st fun r st1 => ∃ a K kvs kvs' ah', r = .ref a ∧ FieldAt C K x ∧ (PutK x p kvs kvs' ∨ (x ∉ kvs.map (·.1) ∧ kvs' = kvs ++ [(x, p)])) ∧ kvs'.length ≤ 100 ∧ UpdH a (.inst K kvs) (.inst K kvs') st1.ah ah' ∧ Q ⟨st1.loc, ah'⟩) : As V n (.Attribute o x pos) p st Q := by
  intro A s hp hv E v ok S
  rw [arm_assign_Attribute]
  refine wpAny_bind (wpAny_holding (h.run ok S fun r st1 hh vo s1 S1 => ?_))
  refine x55 hh fun a K kvs kvs' ah' er hF hk hl U h1 => ?_
  subst er
  obtain rfl := S1.ref1
  refine wpAny_bind (wpAny_standAt (wpAny_bind (wpAny_holding (As_attr_run hF hk hl U S1.drop1 fun s2 S2 => ?_))))
  exact fun Γ p hΓ => by
    rw [Sem.wp_release]
    exact (i11 _ h1 S2)
theorem Ex1_attr_run {o : Expr} {x : Str} {ap pos : Pos} {e : Expr} {st : St} {Qn : St → Prop} {Qr : PV → St → Prop} {Qc : St → Prop}
    (h : Ev V n e st fun p st1 => Ev V n o st1 fun r st2 => ∃ a K kvs kvs' ah', r = .ref a ∧ FieldAt C K x ∧ (PutK x p kvs kvs' ∨ (x ∉ kvs.map (·.1) ∧ kvs' = kvs ++ [(x, p)])) ∧ kvs'.length ≤ 100 ∧ UpdH a (.inst K kvs) (.inst K kvs') st2.ah ah' ∧ Qn ⟨st2.loc, ah'⟩)
    (hs : swapsWith e (some (.Attribute o x ap)) pos.line V.env = pure false) : Ex1 V n (.Assign [.Attribute o x ap] e pos) st Qn Qr Qc := by
  intro A s hp hv E ok S
  refine plainObj_wpAny_Assign_Attribute (h.run ok S fun p st1 h1 v s1 S1 => ?_) hs
  refine h1.run ok S1 fun r st2 hh vo s2 S2 => ?_
  refine x55 hh fun a K kvs kvs' ah' er hF hk hl U h2 => ?_
  subst er
  obtain rfl := S2.ref1
  exact As_attr_run hF hk hl U S2.drop1 fun s' S' => (i11 _ h2 S')
end Mine
end
section
open PySem PySem.W PyProof.Rows
set_option Elab.async false
set_option tactic.hygienic false
set_option genSizeOf false
set_option genInjectivity false
set_option maxRecDepth 100000
set_option maxHeartbeats 1000000
set_option linter.unusedVariables false
set_option linter.unusedSimpArgs false
namespace Mine
variable {C : Cx} {F : FnI} {V : Act C F} {n : Nat}

/-! ### built-ins by name -/
structure BiAt (C : Cx) (x : Str) (v : Value) : Prop where
  miss : nsIn C.K mainGlobals x = some none
  boot : bootBuiltins x = some v
  ne : x ≠ "__name__"
theorem Ev_bcall {g : Str} {bid : String} {gp pos : Pos} {e : Expr} {r : List Expr} {st : St} {Q : PV → St → Prop} (G : BiAt C g (.builtin bid)) (hg : g ∈ F.gls)
    (h : Es V n (e :: r) st fun ps st1 => Ca V n (.builtin bid) ps st1 Q)
    (he : starEach (e :: r) V.env = (false, eval e V.env) :: starEach r V.env) (hpl : ∀ pos, (backTo pos (starEach r V.env)).any (·.1) = false) :
    Ev V n (.Call (.Name g gp) (e :: r) [] pos) st Q := by
  intro A s hp hv E ok S
  refine x30 (id S) fun m mu tl S₀ => ?_
  refine Call_Name rfl (nameX_B S₀.F V.X (topRead_of V.T) G.miss G.boot G.ne ?_ F.hk (F.hg g hg).1 (F.hg g hg).2)
  have hx := h A s hp hv E pos ok S
  rw [he] at hx ⊢
  refine Calls.callWith_builtin (by show (false || (backTo pos (starEach r V.env)).any (·.1)) = false; rw [hpl]; rfl) (Calls.evalArgs_plain (wpAny_mono hx (fun vs s1 hx => ?_) fun z0 z0 e => e))
  refine x22 hx fun ps st1 h1 hl S1 => ?_
  exact h1 A s1 hp hv E vs ok hl S1
theorem Ca_one {f : Value} {p : PV} {st : St} {Q : PV → St → Prop} (h : ∀ A s hp hv E v, V.Ok A n E → V.Sim st (p :: hp) (v :: hv) (vw s) → wpAny (M C) A (call f [v]) (Pst V hp hv Q) E s) : Ca V n f [p] st Q := by
  intro A s hp hv E vs ok hl S
  obtain ⟨v, rfl⟩ := len1 hl
  exact h A s hp hv E v ok S
theorem Ca_two {f : Value} {p q : PV} {st : St} {Q : PV → St → Prop} (h : ∀ A s hp hv E v u, V.Ok A n E → V.Sim st (p :: q :: hp) (v :: u :: hv) (vw s) → wpAny (M C) A (call f [v, u]) (Pst V hp hv Q) E s) : Ca V n f [p, q] st Q := by
  intro A s hp hv E vs ok hl S
  refine x20 (len2 hl) fun v u ez0 => ?_
  obtain rfl := ez0
  exact h A s hp hv E v u ok S
theorem Ca_abs {i : Int} {st : St} {Q : PV → St → Prop} (h : Q (.int (if i < 0 then -i else i)) st) : Ca V n (.builtin "abs") [.int i] st Q := Ca_one fun A s hp hv E v ok S => by
  obtain ⟨t, rfl⟩ := S.int1
  exact call_abs_int fun u tk => (i21 _ st h (S.drop1.push fun z0 => .int _ _))
theorem Ca_len_str {t : List Nat} {st : St} {Q : PV → St → Prop} (hs : Small t) (h : Q (.int t.length) st) : Ca V n (.builtin "len") [.str t] st Q := Ca_one fun A s hp hv E v ok S => by
  refine x21 S.str1 fun x u ez0 ez1 => ?_
  obtain rfl := ez0
  obtain rfl := ez1
  simp only [Small] at hs
  refine PyProof.Rows.len_str (by rw [len_eq]; lia) (i21 _ st h (S.drop1.push fun z0 => ?_))
  rw [len_eq]; exact .int _ _
theorem Ca_max {i j : Int} {st : St} {Q : PV → St → Prop} (h : Q (.int (max i j)) st) : Ca V n (.builtin "max") [.int i, .int j] st Q := Ca_two fun A s hp hv E v u ok S => by
  obtain ⟨t, rfl⟩ := S.int1; obtain ⟨t', rfl⟩ := S.drop1.int1
  refine x22 S.drop1.drop1.frN fun m N F' N' back => ?_
  refine max_two_N ok.hd F' N' fun h' tk F2 N2 => (i21 _ st h ((back h' F2 N2).push fun z0 => ?_))
  have : max i j = if j > i then j else i := by
    split
    · exact Int.max_eq_right (Int.le_of_lt (by assumption))
    · exact Int.max_eq_left (Int.not_lt.mp (by assumption))
  rw [this]; exact .int _ _
/-- a list, as the heap has it -/
theorem Sim.list {h₀ : Heap} {h : HS} {L a : Addr} {locs : List Str} {st : St} {hp : List PV} {hv : List Value} {ps : List PV} (S : Sim C h₀ L locs st hp hv h) (hm : (a, AObj.list ps) ∈ st.ah) :
    ∃ vs n m mu tl, Sim0 C h₀ L locs st hp hv h m mu tl ∧ (a, listOf vs.toArray n) ∈ mu ∧ VsRel tl ps vs := by
  refine x30 S fun m mu tl S => ?_
  refine x11 (S.H.find hm) fun c r hc => ?_
  cases r with
  | list r => exact (i52 _ _ m mu tl S (hc _ (.head _)) r)
theorem Ca_len_list {a : Addr} {ps : List PV} {st : St} {Q : PV → St → Prop} (hm : (a, AObj.list ps) ∈ st.ah) (hs : ps.length ≤ 1000000) (h : Q (.int ps.length) st) : Ca V n (.builtin "len") [.ref a] st Q := Ca_one fun A s hp hv E v ok S => by
  obtain rfl := S.ref1
  refine x52 (Sim.list S.drop1 hm) fun vs k m mu tl S1 hmu r => ?_
  refine PyProof.Rows.len_list (S1.N.isList (List.mem_append_left _ hmu)) (by simp [r.length]; lia) (i21 _ st h (S.drop1.push fun z0 => ?_))
  have : (vs.toArray.size : Int) = ps.length := by simp [r.length]
  rw [this]; exact .int _ _
theorem Ca_len_tuple {ps : List PV} {st : St} {Q : PV → St → Prop} (hs : ps.length ≤ 1000000) (h : Q (.int ps.length) st) : Ca V n (.builtin "len") [.tuple ps] st Q := Ca_one fun A s hp hv E v ok S => by
  refine x45 S.untup fun a vs m N ez0 hl F' N' hm back => ?_
  obtain rfl := ez0
  refine PyProof.Rows.len_tuple (N'.isTup hm) (by simp [hl]; lia) (i21 _ st h (S.drop1.push fun z0 => ?_))
  have : (vs.toArray.size : Int) = ps.length := by simp [hl]
  rw [this]; exact .int _ _

/-! ### isinstance -/
noncomputable def isStrPV : PV → Option Bool
  | .str _ => some true
  | .int _ => some false
  | .tuple _ => some false
  | _ => none
theorem Ev_isi {g : Str} {T : String} {gp tp pos pos' : Pos} {e : Expr} {st : St} {Q : PV → St → Prop} (G : BiAt C "isinstance" (.builtin "isinstance")) (hg : Str.ofString "isinstance" ∈ F.gls) (GT : BiAt C g (.type T)) (hT : g ∈ F.gls)
    (h : Ev V n e st fun p st1 => ∀ A s hp hv E v, V.Ok A n E → V.Sim st1 (p :: hp) (v :: hv) (vw s) → wpAny (M C) A (call (.builtin "isinstance") [v, .type T]) (Pst V hp hv Q) E s)
    (he : starEach [e, .Name g tp] V.env = [(false, eval e V.env), (false, eval (.Name g tp) V.env)]) :
    Ev V n (.Call (.Name (Str.ofString "isinstance") gp) [e, .Name g tp] [] pos) st Q := by
  intro A s hp hv E ok S
  refine x30 (id S) fun m mu tl S₀ => ?_
  refine Call_Name rfl (nameX_B S₀.F V.X (topRead_of V.T) G.miss G.boot G.ne ?_ F.hk (F.hg _ hg).1 (F.hg _ hg).2)
  rw [he]
  refine Calls.callWith_builtin rfl (Calls.evalArgs_plain (Calls.spliced_cons (h.run ok S fun p st1 h1 v s1 S1 => ?_)))
  refine x30 (id S1) fun m1 mu1 tl1 S1' => ?_
  refine Calls.spliced_cons (nameX_B S1'.F V.X (topRead_of V.T) GT.miss GT.boot GT.ne ?_ F.hk (F.hg _ hT).1 (F.hg _ hT).2)
  exact Calls.spliced_nil (h1 A s1 hp hv E v ok S1)
theorem isi_str {p : PV} {b : Bool} {st : St} {Q : PV → St → Prop} (hp : isStrPV p = some b) (h : Q (.bool b) st) : ∀ A s hp hv E v, V.Ok A n E → V.Sim st (p :: hp) (v :: hv) (vw s) → wpAny (M C) A (call (.builtin "isinstance") [v, .type "str"]) (Pst V hp hv Q) E s := by
  intro A s hp' hv E v ok S
  have fin : ∀ (s' : Shared), vw s' = vw s → Pst V hp' hv Q (.bool b) s' := fun s' e => (i21 _ st h (by rw [e]; exact S.drop1.push fun z0 => .bool _))
  cases p with
  | str l => refine x21 S.str1 fun x u ez0 ez1 => ?_; obtain rfl := ez0; obtain rfl := ez1; cases hp; exact IsiPair.str_str (fin _ rfl)
  | int i => obtain ⟨u, rfl⟩ := S.int1; cases hp; exact IsiPair.int_str (fin _ rfl)
  | tuple l =>
    refine x45 S.untup fun a vs m N ez0 hl F' N' hm back => ?_
    obtain rfl := ez0
    cases hp; exact IsiPair.tuple_str (N' _ hm).1 rfl (fin _ rfl)
  | _ => cases hp
noncomputable def isTupPV : PV → Option Bool
  | .str _ => some false
  | .int _ => some false
  | .tuple _ => some true
  | _ => none
theorem isi_tup {p : PV} {b : Bool} {st : St} {Q : PV → St → Prop} (hp : isTupPV p = some b) (h : Q (.bool b) st) : ∀ A s hp hv E v, V.Ok A n E → V.Sim st (p :: hp) (v :: hv) (vw s) → wpAny (M C) A (call (.builtin "isinstance") [v, .type "tuple"]) (Pst V hp hv Q) E s := by
  intro A s hp' hv E v ok S
  have fin : ∀ (s' : Shared), vw s' = vw s → Pst V hp' hv Q (.bool b) s' := fun s' e => (i21 _ st h (by rw [e]; exact S.drop1.push fun z0 => .bool _))
  cases p with
  | str l => refine x21 S.str1 fun x u ez0 ez1 => ?_; obtain rfl := ez0; obtain rfl := ez1; cases hp; exact IsiPair.str_tuple (fin _ rfl)
  | int i => obtain ⟨u, rfl⟩ := S.int1; cases hp; exact IsiPair.int_tuple (fin _ rfl)
  | tuple l =>
    refine x45 S.untup fun a vs m N ez0 hl F' N' hm back => ?_
    obtain rfl := ez0
    cases hp; exact IsiPair.tuple_tuple (N' _ hm).1 rfl (fin _ rfl)
  | _ => cases hp

/-! ### is None; in -/
theorem Co_is_none {p : PV} {st : St} {Q : Bool → St → Prop} (b : Bool) (hb : b = match p with | .none => true | _ => false) (h : Q b st) : Co V n .Is p .none st Q := by
  intro A s hp hv E vx vy ok S
  obtain rfl := S.none1
  refine PySem.is_none ?_
  have e : (vx == Value.none) = b := by
    refine x30 S.drop1 fun m mu tl S0 => ?_
    cases S0.O with
    | cons r _ => subst hb; cases r <;> rfl
  rw [e]; exact cmpOp S h
/-- a text among written texts -/
noncomputable def allStr : List PV → Option (List (List Nat))
  | [] => some []
  | .str l :: r => (allStr r).map (l :: ·)
  | _ => none
noncomputable def isX (x : Str) (v : Value) : Bool := match v with
  | .str z _ => z == x
  | _ => false
theorem allStr_any {tl : Led} {x : Str} : ∀ {ps : List PV} {ls : List (List Nat)} {vs : List Value}, VsRel tl ps vs → allStr ps = some ls →
    (∀ y ∈ vs, ∃ z u, y = .str z u) ∧ vs.any (isX x) = ls.contains x.cps.toList
  | _, ls, _, .nil, e => by cases e; exact ⟨(fun z0 h => nomatch h), rfl⟩
  | _, ls, _, .cons (p := p) a b, e => by
    cases a with
    | str z u =>
      simp only [allStr, Option.map_eq_some_iff] at e
      refine x11 e fun ls' e1 ez0 => ?_
      obtain rfl := ez0
      obtain ⟨h1, h2⟩ := allStr_any (x := x) b e1
      refine ⟨fun y hy => ?_, ?_⟩
      · rcases List.mem_cons.mp hy with rfl | hy
        · exact (i20 _ _ rfl)
        · exact h1 y hy
      · rw [List.any_cons, h2, List.contains_cons]
        congr 1
        show (z == x) = _
        rw [str_beq]
        by_cases q : z.cps.toList = x.cps.toList
        · simp [q]
        · have h1 : ¬ x.cps = z.cps := fun e => q (by rw [e])
          have h2 : ¬ z.cps = x.cps := fun e => q (by rw [e])
          simp [h1, h2]
    | _ => cases e
theorem Co_in_tuple {x : List Nat} {ps : List PV} {ls : List (List Nat)} {st : St} {Q : Bool → St → Prop} (hs : allStr ps = some ls) (h : Q (ls.contains x) st) : Co V n .In (.str x) (.tuple ps) st Q := by
  intro A s hp hv E vx vy ok S
  refine x21 S.drop1.str1 fun y t ez0 ez1 => ?_
  obtain rfl := ez0
  obtain rfl := ez1
  refine x30 (id S) fun m mu tl S0 => ?_
  cases S0.O with
  | cons r _ =>
    cases r with
    | tuple a ps vs hm r =>
      obtain ⟨h1, h2⟩ := allStr_any (x := y) r hs
      have hg := (S0.N _ (List.mem_append_right _ hm)).1
      refine PySem.SeqRoads2.in_tuple (isX y) (fun v hv' => ?_) hg ?_
      · refine x20 (h1 v (by simpa using hv')) fun z u ez0 => ?_
        obtain rfl := ez0
        exact PyProof.Rows.eqGives_str _ _ _ _
      · have : vs.toArray.any (isX y) = ls.contains y.cps.toList := by rw [← h2]; simp
        rw [this]; exact cmpOp S h

/-! ### ready for the step line -/
theorem bo_abs : bootBuiltins "abs" = some (.builtin "abs") := by kernel_rfl
theorem bo_len : bootBuiltins "len" = some (.builtin "len") := by kernel_rfl
theorem bo_max : bootBuiltins "max" = some (.builtin "max") := by kernel_rfl
theorem bo_isinstance : bootBuiltins "isinstance" = some (.builtin "isinstance") := by kernel_rfl
theorem bo_str : bootBuiltins "str" = some (.type "str") := by kernel_rfl
theorem bo_tuple : bootBuiltins "tuple" = some (.type "tuple") := by kernel_rfl
section
variable {ss : List Stmt} {fns bs fields : List Str}
theorem mem_of {α : Type} [BEq α] [LawfulBEq α] {l : List α} {a : α} (h : l.contains a = true) : a ∈ l := by simpa using h
theorem Good.bi (G : Good C ss fns bs fields) {g : Str} {v : Value} (h1 : bs.contains g = true) (h2 : bootBuiltins g = some v) (h3 : g ≠ "__name__") : BiAt C g v := ⟨G.builtin (mem_of h1), h2, h3⟩
theorem Ev_fcall (G : Good C ss fns bs fields) {g : Str} {gp pos : Pos} {e : Expr} {r : List Expr} {st : St} {Q : PV → St → Prop} (h1 : fns.contains g = true) (h2 : F.gls.contains g = true)
    (he : starEach (e :: r) V.env = (false, eval e V.env) :: starEach r V.env) (hpl : ∀ pos, (backTo pos (starEach r V.env)).any (·.1) = false)
    (h : Es V n (e :: r) st fun ps st1 => Fn C n (adr C.K g) ps st1.ah fun p ah' => Q p ⟨st1.loc, ah'⟩) : Ev V n (.Call (.Name g gp) (e :: r) [] pos) st Q := Ev_call (G.glob (mem_of h1)) (mem_of h2) h he hpl
theorem Ev_abs (G : Good C ss fns bs fields) {gp pos : Pos} {e : Expr} {st : St} {Q : PV → St → Prop} (h1 : bs.contains (Str.ofString "abs") = true) (h2 : F.gls.contains (Str.ofString "abs") = true)
    (he : starEach [e] V.env = (false, eval e V.env) :: starEach [] V.env) (h : Ev V n e st fun p st1 => Ca V n (.builtin "abs") [p] st1 Q) : Ev V n (.Call (.Name (Str.ofString "abs") gp) [e] [] pos) st Q :=
  Ev_bcall (G.bi h1 bo_abs (by decide +kernel)) (mem_of h2) (Es_cons (fun A s hp hv E ok S => h.run ok S fun p st1 h1 v s1 S1 => (i21 p st1 (Es_nil h1) S1)) he) he fun z0 => rfl
theorem Ev_len (G : Good C ss fns bs fields) {gp pos : Pos} {e : Expr} {st : St} {Q : PV → St → Prop} (h1 : bs.contains (Str.ofString "len") = true) (h2 : F.gls.contains (Str.ofString "len") = true)
    (he : starEach [e] V.env = (false, eval e V.env) :: starEach [] V.env) (h : Ev V n e st fun p st1 => Ca V n (.builtin "len") [p] st1 Q) : Ev V n (.Call (.Name (Str.ofString "len") gp) [e] [] pos) st Q :=
  Ev_bcall (G.bi h1 bo_len (by decide +kernel)) (mem_of h2) (Es_cons (fun A s hp hv E ok S => h.run ok S fun p st1 h1 v s1 S1 => (i21 p st1 (Es_nil h1) S1)) he) he fun z0 => rfl
theorem Ev_max (G : Good C ss fns bs fields) {gp pos : Pos} {e e' : Expr} {st : St} {Q : PV → St → Prop} (h1 : bs.contains (Str.ofString "max") = true) (h2 : F.gls.contains (Str.ofString "max") = true)
    (he : starEach [e, e'] V.env = (false, eval e V.env) :: starEach [e'] V.env) (hpl : ∀ pos, (backTo pos (starEach [e'] V.env)).any (·.1) = false) (h : Es V n [e, e'] st fun ps st1 => Ca V n (.builtin "max") ps st1 Q) : Ev V n (.Call (.Name (Str.ofString "max") gp) [e, e'] [] pos) st Q :=
  Ev_bcall (G.bi h1 bo_max (by decide +kernel)) (mem_of h2) h he hpl
theorem Ev_isi_str (G : Good C ss fns bs fields) {gp tp pos : Pos} {e : Expr} {st : St} {Q : PV → St → Prop} (h1 : bs.contains (Str.ofString "isinstance") = true) (h2 : F.gls.contains (Str.ofString "isinstance") = true) (h3 : bs.contains (Str.ofString "str") = true) (h4 : F.gls.contains (Str.ofString "str") = true)
    (he : starEach [e, .Name (Str.ofString "str") tp] V.env = [(false, eval e V.env), (false, eval (.Name (Str.ofString "str") tp) V.env)]) (h : Ev V n e st fun p st1 => ∃ b, isStrPV p = some b ∧ Q (.bool b) st1) :
    Ev V n (.Call (.Name (Str.ofString "isinstance") gp) [e, .Name (Str.ofString "str") tp] [] pos) st Q :=
  Ev_isi (pos' := pos) (G.bi h1 bo_isinstance (by decide +kernel)) (mem_of h2) (G.bi h3 bo_str (by decide +kernel)) (mem_of h4) (fun A s hp hv E ok S => wpAny_mono (h A s hp hv E ok S) (fun v s1 zz => x21 zz fun p st1 h0 S1 => x11 h0 fun b hb h1 => (i21 p st1 (isi_str hb h1) S1)) fun z0 z0 e => e) he
end
/-! tests without a change, their parts joined into one bool -/
/-! heads, for the step line -/
/-! monotony, for the tail of a step -/
theorem Ev.mono {e : Expr} {st : St} {Q Q' : PV → St → Prop} (h : Ev V n e st Q) (hq : ∀ p st', Q p st' → Q' p st') : Ev V n e st Q' := fun A s hp hv E ok S => h.run ok S fun p st1 h1 v s1 S1 => (i21 p st1 (hq _ _ h1) S1)
theorem Tt.mono {e : Expr} {st : St} {Q Q' : Bool → St → Prop} (h : Tt V n e st Q) (hq : ∀ p st', Q p st' → Q' p st') : Tt V n e st Q' := fun A s hp hv E ok S => wpAny_mono (h A s hp hv E ok S) (fun v s1 zz => x11 zz fun st1 h1 S1 => (i11 st1 (hq _ _ h1) S1)) fun z0 z0 e => e
theorem Ex1.mono {x : Stmt} {st : St} {Qn Qn' : St → Prop} {Qr Qr' : PV → St → Prop} {Qc Qc' : St → Prop} (h : Ex1 V n x st Qn Qr Qc) (h1 : ∀ st, Qn st → Qn' st) (h2 : ∀ p st, Qr p st → Qr' p st) (h3 : ∀ st, Qc st → Qc' st) : Ex1 V n x st Qn' Qr' Qc' :=
  fun A s hp hv E ok S => wpAny_mono (h A s hp hv E ok S) (fun f s1 hf => by
    cases f with
    | next => refine x11 hf fun st' q S' => ?_; exact (i11 st' (h1 _ q) S')
    | cont => refine x11 hf fun st' q S' => ?_; exact (i11 st' (h3 _ q) S')
    | brk => exact hf
    | ret v => refine x21 hf fun p st' q S' => ?_; exact (i21 p st' (h2 _ _ q) S')) fun z0 z0 e => e
theorem len_small {l : List Nat} (h : l.length ≤ 1000000) : Small l := h
end Mine
end
section
open PySem PySem.W PyProof.Rows
set_option Elab.async false
set_option tactic.hygienic false
set_option genSizeOf false
set_option genInjectivity false
set_option maxRecDepth 100000
set_option maxHeartbeats 1000000
set_option linter.unusedVariables false
set_option linter.unusedSimpArgs false
namespace Mine
variable {C : Cx} {F : FnI} {V : Act C F} {n : Nat}

/-! ### lists: made, read, changed -/
theorem HRel.key {tl : Led} {a : Addr} {o : AObj} : ∀ {ah : AH} {mu : Led}, HRel C tl ah mu → (a, o) ∈ ah → ∃ x, (a, x) ∈ mu
  | _, _, h, hm => by
    refine x11 (h.find hm) fun c r hc => ?_
    refine x20 r.head fun x r' e => ?_
    exact ⟨x, hc _ (e ▸ .head _)⟩
theorem Sim0.fresh {h₀ : Heap} {h : HS} {L : Addr} {locs : List Str} {st : St} {hp : List PV} {hv : List Value} {m : Str → Option Value} {mu tl : Led} (S : Sim0 C h₀ L locs st hp hv h m mu tl) : h.heap.objs.size ∉ st.ah.map (·.1) := by
  intro hm
  obtain ⟨⟨a, o⟩, hp', e⟩ := List.mem_map.mp hm
  obtain ⟨x, hx⟩ := S.H.key hp'
  have := lt_of_news S.N _ (List.mem_append_left _ hx)
  dsimp only at e this
  rw [e] at this
  exact Nat.lt_irrefl _ this
theorem Sim0.newList {h₀ h' : Heap} {h : HS} {L a : Addr} {locs : List Str} {st : St} {hp : List PV} {hv : List Value} {m : Str → Option Value} {mu tl : Led} {ps : List PV} {vs : List Value} {k : Nat} (S : Sim0 C h₀ L locs st (ps ++ hp) (vs ++ hv) h m mu tl)
    (hl : vs.length = ps.length) (ha : ∀ p ∈ mu ++ tl, p.1 ≠ a) (F' : Fr h₀ L h' m) (N' : News h₀ L h' ((a, listOf vs.toArray k) :: (mu ++ tl))) : Sim C h₀ L locs ⟨st.loc, (a, .list ps) :: st.ah⟩ (.ref a :: hp) (.ref a :: hv) (h.to h') := by
  obtain ⟨x, y⟩ := VsRel.cut hl S.O
  refine (i30 m ((a, listOf vs.toArray k) :: mu) tl ⟨F', N', ?_, ?_, S.nm, S.X, S.R, .cons (.ref a) y⟩)
  · have hd := S.nd
    simp only [List.cons_append, List.map_cons]
    refine List.nodup_cons.mpr ⟨fun hm => ?_, hd⟩
    refine x11 (List.mem_map.mp hm) fun p hp e => ?_
    exact ha p hp e
  · exact (HRel.cons (.list x) S.H : HRel C tl ((a, .list ps) :: st.ah) ([(a, listOf vs.toArray k)] ++ mu))
theorem newList_at {ps : List PV} {vs : List Value} {st : St} {hp : List PV} {hv : List Value} {A : Around} {s : Shared} {E : Value → Shared → Prop} {Q : PV → St → Prop} (hl : vs.length = ps.length) (hn : ps.length ≤ 1000000) (S : V.Sim st (ps ++ hp) (vs ++ hv) (vw s))
    (h : ∀ a, a ∉ st.ah.map (·.1) → Q (.ref a) ⟨st.loc, (a, .list ps) :: st.ah⟩) : wpAny (M C) A (newList vs) (Pst V hp hv Q) E s := by
  refine x30 S fun m mu tl S => ?_
  refine wpAny_newList (i21 _ _ (h s.heap.objs.size S.fresh) (S.newList (k := 0) hl (fun p hp => Nat.ne_of_lt (lt_of_news S.N p hp)) (S.F.push _) (News.push S.F S.N _))) ?_
  rw [sizeLine_eq]; lia
theorem Ev_list {elts : List Expr} {pos : Pos} {st : St} {Q : PV → St → Prop} (h : Es V n elts st fun ps st1 => ps.length ≤ 1000000 ∧ ∀ a, a ∉ st1.ah.map (·.1) → Q (.ref a) ⟨st1.loc, (a, .list ps) :: st1.ah⟩) : Ev V n (.List elts pos) st Q := by
  intro A s hp hv E ok S
  rw [arm_eval_List]
  refine wpAny_bind (wpAny_standAt (wpAny_bind (wpAny_mono (h A s hp hv E pos ok S) (fun vs s1 hx => ?_) fun z0 z0 e => e)))
  obtain ⟨ps, st1, ⟨h0, h1⟩, hl, S1⟩ := hx
  exact newList_at hl h0 S1 h1
/-- the item that an index means -/
noncomputable def pIx (ps : List PV) (k : Int) : Option PV := if 0 ≤ k then ps[k.toNat]? else if -(ps.length : Int) ≤ k then ps[(k + ps.length).toNat]? else none
theorem pIx_len {ps : List PV} {k : Int} {p : PV} (h : pIx ps k = some p) : -(ps.length : Int) ≤ k ∧ k < ps.length := by
  unfold pIx at h
  split at h
  · exact ⟨a_neg (by assumption), (Int.toNat_lt (by assumption)).mp (List.getElem?_eq_some_iff.mp h).1⟩
  · split at h
    · exact ⟨by assumption, Int.lt_of_lt_of_le (Int.not_le.mp (by assumption)) (Int.natCast_nonneg _)⟩
    · cases h
theorem Gi_list {a : Addr} {ps : List PV} {k : Int} {p : PV} {st : St} {Q : PV → St → Prop} (hm : (a, AObj.list ps) ∈ st.ah) (hs : ps.length ≤ 1000000) (hk : pIx ps k = some p) (h : Q p st) : Gi V n (.ref a) (.int k) st Q := by
  intro A s hp hv E vx vi value slice ok S hsub
  obtain ⟨u, rfl⟩ := S.int1
  obtain rfl := S.drop1.ref1
  refine x52 (Sim.list S.drop1.drop1 hm) fun vs kk m mu tl S1 hmu r => ?_
  have hL := S1.N.isList (List.mem_append_left _ hmu)
  have hlen := r.length
  have hb := pIx_len hk
  unfold pIx at hk
  split at hk
  · refine x11 (r.get hk) fun v hv' rv => ?_
    exact tail_any hL.typeIs slot_list_getitem.lookup (wpAny_getItem_list (x := v) hL (by lia) (by exact (a_hi hs hb.2)) (by simpa using hv') (i21 p st h (i30 m mu tl ⟨S1.F, S1.N, S1.nd, S1.H, S1.nm, S1.X, S1.R, .cons rv S1.O⟩))) (hsub _ _)
  · rw [if_pos hb.1] at hk
    refine x11 (r.get hk) fun v hv' rv => ?_
    refine tail_any hL.typeIs slot_list_getitem.lookup (wpAny_getItem_list_neg (x := v) hL (by lia) (by simp; exact (hlen.symm ▸ hb.1)) (by exact (a_lo hs hb.1)) ?_ (i21 p st h (i30 m mu tl ⟨S1.F, S1.N, S1.nd, S1.H, S1.nm, S1.X, S1.R, .cons rv S1.O⟩))) (hsub _ _)
    simpa [hlen] using hv'
theorem pIx_seq {ps : List PV} {k : Int} {p : PV} (hk : pIx ps k = some p) : ∃ j, seqIndex? k ps.length = some j ∧ ps[j]? = some p := by
  have hb := pIx_len hk
  obtain ⟨a, b⟩ := seqIdx hb.1 hb.2
  refine (i11 _ a ?_)
  unfold pIx at hk
  unfold pyIdx
  split at hk
  · rw [if_neg (by lia)]; exact hk
  · rw [if_pos hb.1] at hk
    rw [if_pos (by lia)]; exact hk
theorem Gi_tuple {ps : List PV} {k : Int} {p : PV} {st : St} {Q : PV → St → Prop} (hs : ps.length ≤ 1000000) (hk : pIx ps k = some p) (h : Q p st) : Gi V n (.tuple ps) (.int k) st Q := by
  intro A s hp hv E vx vi value slice ok S hsub
  obtain ⟨u, rfl⟩ := S.int1
  refine x30 S.drop1 fun m mu tl S0 => ?_
  cases hO : S0.O with
  | cons rt O =>
    cases rt with
    | tuple a ps vs hmem r =>
      refine x11 (pIx_seq hk) fun j h1 h2 => ?_
      refine x11 (r.get h2) fun v hv' rv => ?_
      have hb := pIx_len hk
      have hlen := r.length
      refine item_tupleT (S0.N.isTup (List.mem_append_right _ hmem)) (by exact (a_lo hs hb.1)) (by exact (a_hi hs hb.2)) (by rw [hlen]; exact h1) hv' (i21 p st h (i30 m mu tl ⟨S0.F, S0.N, S0.nd, S0.H, S0.nm, S0.X, S0.R, .cons rv O⟩)) (hsub _ _)
/-- a list changed in its place -/
theorem Sim.setList {h₀ : Heap} {h : HS} {L a : Addr} {locs : List Str} {st : St} {hp : List PV} {hv : List Value} {ps ps' : List PV} {ah' : AH} (S : Sim C h₀ L locs st hp hv h) (U : UpdH a (.list ps) (.list ps') st.ah ah') :
    ∃ vs k tl, h.heap.get? a = some (listOf vs.toArray k) ∧ VsRel tl ps vs ∧ VsRel tl hp hv ∧ (∀ b qs, (b, AObj.list qs) ∈ st.ah → ∃ us j, h.heap.get? b = some (listOf us.toArray j) ∧ VsRel tl qs us) ∧ ∀ vs' k' h', VsRel tl ps' vs' → Heap.SameBut a h.heap h' → h'.get? a = some (listOf vs'.toArray k') → ∀ hp' hv', VsRel tl hp' hv' → Sim C h₀ L locs ⟨st.loc, ah'⟩ hp' hv' (h.to h') := by
  refine x30 S fun m mu tl S => ?_
  refine x32 (S.H.upd U) fun pre c post ez0 r back => ?_
  obtain rfl := ez0
  cases r with
  | @list _ vs k r =>
    have hin : (a, listOf vs.toArray k) ∈ (pre ++ ([(a, listOf vs.toArray k)] ++ post)) ++ tl := by simp
    refine (i34 vs k tl (S.N.get hin) r S.O (fun b qs hb => ?_) (fun vs' k' h' r' hs ho hp' hv' O' => ?_))
    · refine x11 (S.H.find hb) fun c2 r2 hc2 => ?_
      cases r2 with
      | list r2 => exact (i21 _ _ (S.N.get (List.mem_append_left _ (hc2 _ (.head _)))) r2)
    have hnd : ((pre ++ (a, listOf vs.toArray k) :: (post ++ tl)).map (·.1)).Nodup := by
      have := S.nd
      simpa [List.append_assoc] using this
    have N' : News h₀ L h.heap (pre ++ (a, listOf vs.toArray k) :: (post ++ tl)) := by
      have := S.N
      simpa [List.append_assoc] using this
    have U' := upd_of_nodup (o' := listOf vs'.toArray k') hnd
    rw [List.map_append, List.nodup_append] at hnd
    refine x02 hnd fun n1 n2 n3 => ?_
    simp only [List.map_cons, List.nodup_cons] at n2
    have N2 := news_set N' (fun p hp e => n3 p.1 (List.mem_map_of_mem (f := (·.1)) hp) a (by simp) e) (fun p hp e => n2.1 (e ▸ List.mem_map_of_mem (f := (·.1)) hp)) hs ho
    have z := S.N _ hin
    refine (i30 m (pre ++ ([(a, listOf vs'.toArray k')] ++ post)) tl ⟨S.F.change hs z.2.1 z.2.2, by simpa [List.append_assoc] using N2, ?_, back _ (.list r'), S.nm, S.X, S.R, O'⟩)
    have := S.nd
    simpa [List.append_assoc] using this
theorem Ca_append {a : Addr} {ps : List PV} {p : PV} {st : St} {ah' : AH} {Q : PV → St → Prop} (U : UpdH a (.list ps) (.list (ps ++ [p])) st.ah ah') (hs : ps.length ≤ 1000000) (h : Q .none ⟨st.loc, ah'⟩) : Ca V n (.builtin "list.append") [.ref a, p] st Q := Ca_two fun A s hp hv E v u ok S => by
  obtain rfl := S.ref1
  refine x34 (Sim.setList S U) fun vs k tl ho r O z0 back => ?_
  have hlen := r.length
  refine append_at ho (fun h' hsb ho' => ?_) (by rw [sizeLine_eq]; simp; lia)
  cases O with
  | cons _ O => cases O with
    | cons rp O =>
      refine (i21 .none _ h (back (vs ++ [u]) (k + 1) h' (r.append (.cons rp .nil)) hsb ?_ _ _ (.cons .none O)))
      rw [ho']; simp
theorem Ca_extend {a b : Addr} {ps qs : List PV} {st : St} {ah' : AH} {Q : PV → St → Prop} (hb : (b, AObj.list qs) ∈ st.ah) (U : UpdH a (.list ps) (.list (ps ++ qs)) st.ah ah') (hs : ps.length + qs.length ≤ 1000000) (h : Q .none ⟨st.loc, ah'⟩) : Ca V n (.builtin "list.extend") [.ref a, .ref b] st Q := Ca_two fun A s hp hv E v u ok S => by
  obtain rfl := S.ref1
  obtain rfl := S.drop1.ref1
  refine x34 (Sim.setList S U) fun vs k tl ho r O hx back => ?_
  refine x21 (hx b qs hb) fun us j ho2 r2 => ?_
  have l1 := r.length
  have l2 := r2.length
  have hz : vs.toArray.size ≤ sizeLine := by rw [sizeLine_eq]; simp only [List.size_toArray]; exact (Nat.le_trans (Nat.le_trans (Nat.le_of_eq l1) (Nat.le_add_right _ _)) (Nat.le_trans hs (by decide)))
  have hz2 : vs.toArray.size + us.toArray.size ≤ sizeLine + 1 := by rw [sizeLine_eq]; simp only [List.size_toArray]; exact (a_str2 (a_str hs (by decide)) l1 l2)
  have hd : ¬(!vs.toArray.isEmpty && Builtin.List.listTooLong (vs.toArray.size + us.toArray.size)) = true := by
    have : Builtin.List.listTooLong (vs.toArray.size + us.toArray.size) = false := by
      simp only [Builtin.List.listTooLong, decide_eq_false_iff_not, List.size_toArray, sizeLine_eq]
      exact (Nat.not_lt.mpr (a_str2 (a_str hs (by decide)) l1 l2))
    rw [this]; simp
  refine call_meets PySem.F.slot_list_extend (i11 _ ho rfl) PySem.F.entry_list_extend (PySem.F.args_list_extend_2 _ _) (PySem.AutoSeq1.list_extend_list_list_0 a vs.toArray k b us.toArray j hd hz hz2) (i02 ho ho2 ?_)
  cases O with
  | cons _ O => cases O with
    | cons _ O =>
      refine (i21 .none _ h (back (vs ++ us) (if (vs.toArray ++ us.toArray).size == vs.toArray.size then k else k + 1) _ (r.append r2) (Heap.SameBut.update ..) ?_ _ _ (.cons .none O)))
      have q := PySem.IsL.update ho (fun x => x ++ us.toArray)
      have e2 : (vs ++ us).toArray = vs.toArray ++ us.toArray := by simp
      rw [e2]
      exact q
theorem setList_at {a : Addr} {items : Array Value} {kk : Nat} {k : Int} {t : Tok} {v : Value} {A : Around} {s : Shared} {E : Value → Shared → Prop} {Q : Unit → Shared → Prop} (ho : s.heap.get? a = some (listOf items kk)) (h0 : 0 ≤ k) (hfit : k < 2 ^ 63) (hn : k < items.size)
    (hQ : ∀ h', h'.get? a = some (listOf (items.setIfInBounds k.toNat v) kk) → Heap.SameBut a s.heap h' → Q () { s with heap := h' }) : wpAny (M C) A (setItem (.ref a) (.int k t) v) Q E s := by
  have hl : s.heap.IsList a items := (i12 _ ho rfl ⟨_, rfl⟩)
  unfold setItem
  try with_reducible refine wpAny_holding ?_
  first | refine wpAny_bind (wpAny_pure ?_) | skip
  refine wpAny_bind (wpAny_sequenceKey hl.typeIs (by decide) ?_)
  refine wpAny_bind (wpAny_callSpecial?_slot (name := Str.ofString "__setitem__") hl.typeIs slot_list_setitem
    (wpAny_call_entry slot_list_setitem hl.typeIs entry_list_setitem ?_ (args_list_setitem _ _ _)))
  show wpAny _ _ (Builtin.List.listSubscript? (.int k t) >>= _) _ _ s
  refine wpAny_bind (wpAny_listSubscript_int (fitsIndex_of h0 hfit) ?_)
  clear hfit
  obtain ⟨j, rfl⟩ := Int.eq_ofNat_of_zero_le h0
  have hj : j < items.size := by exact (Int.ofNat_lt.mp hn)
  have hx' : items[j]? = some items[j] := Array.getElem?_eq_getElem hj
  show wpAny _ _ ((seqItemAt a j >>= fun r => pure (r.map (j, ·))) >>= _) _ _ s
  refine wpAny_bind (wpAny_bind (wpAny_seqItemAt ho rfl (wpAny_pure ?_)))
  rw [hx']
  show wpAny _ _ (setSeqItemAt a j v >>= _) _ _ s
  have q := PySem.IsL.update ho (fun x => x.setIfInBounds j v)
  rw [if_pos (by simp)] at q
  refine wpAny_bind (wpAny_setSeqItemAt ho rfl ?_)
  first
    | exact wpAny_bind (wpAny_pure (wpAny_pure (i11 .none rfl (wpAny_pure (hQ _ q (Heap.SameBut.update ..))))))
    | exact wpAny_pure ⟨.none, rfl, wpAny_pure (hQ _ q (Heap.SameBut.update ..))⟩
theorem VsRel.set {tl : Led} {p : PV} {v : Value} (rv : VRel tl p v) : ∀ {ps vs} (i : Nat), VsRel tl ps vs → VsRel tl (ps.set i p) (vs.set i v)
  | _, _, _, .nil => .nil
  | _, _, 0, .cons a b => .cons rv b
  | _, _, i + 1, .cons a b => .cons a (VsRel.set rv i b)
/-- l[k] = p -/
theorem setItem_at {a : Addr} {ps : List PV} {k : Int} {u : Tok} {p : PV} {v : Value} {st : St} {ah' : AH} {A : Around} {s : Shared} {hp : List PV} {hv : List Value} {E : Value → Shared → Prop} {Q : Unit → Shared → Prop}
    (h0 : 0 ≤ k) (h1 : k < ps.length) (h2 : ps.length ≤ 1000000) (U : UpdH a (.list ps) (.list (ps.set k.toNat p)) st.ah ah') (S : V.Sim st (p :: hp) (v :: hv) (vw s)) (h : ∀ s', V.Sim ⟨st.loc, ah'⟩ hp hv (vw s') → Q () s') :
    wpAny (M C) A (setItem (.ref a) (.int k u) v) Q E s := by
  refine x34 (Sim.setList S U) fun vs kk tl ho r O z0 back => ?_
  have l1 := r.length
  refine setList_at ho h0 (by exact (a_hi h2 h1)) (by simp only [List.size_toArray]; exact (l1 ▸ h1)) fun h' ho' hs => ?_
  cases O with
  | cons rv O =>
    refine h _ (back (vs.set k.toNat v) kk h' (r.set rv _) hs ?_ _ _ O)
    rw [ho']; simp
/-- l + m -/
theorem Bo_add_list {a b : Addr} {ps qs : List PV} {st : St} {Q : PV → St → Prop} (ha : (a, AObj.list ps) ∈ st.ah) (hb : (b, AObj.list qs) ∈ st.ah) (hs : ps.length + qs.length ≤ 1000000) (h : ∀ c, c ∉ st.ah.map (·.1) → Q (.ref c) ⟨st.loc, (c, .list (ps ++ qs)) :: st.ah⟩) : Bo V n .Add (.ref a) (.ref b) st Q := by
  intro A s hp hv E vx vy ok S
  obtain rfl := S.ref1
  obtain rfl := S.drop1.ref1
  refine x30 S fun m mu tl S0 => ?_
  refine x11 (S0.H.find ha) fun c1 r1 hc1 => ?_
  refine x11 (S0.H.find hb) fun c2 r2 hc2 => ?_
  cases r1 with
  | @list _ vs k r1 =>
    cases r2 with
    | @list _ us k2 r2 =>
      have l1 := r1.length
      have l2 := r2.length
      refine add_lists S0.F S0.N (S0.N.isList (List.mem_append_left _ (hc1 _ (.head _)))) (S0.N.isList (List.mem_append_left _ (hc2 _ (.head _)))) (fun h' F' N' => ?_) (by rw [sizeLine_eq]; exact (a_str2 (a_str hs (by decide)) l1 l2))
      have O : VsRel tl ((ps ++ qs) ++ hp) ((vs ++ us) ++ hv) := by
        cases S0.O with
        | cons _ O => cases O with
          | cons _ O => exact (r1.append r2).append O
      have S1 : Sim0 C V.h₀ V.L F.locs st ((ps ++ qs) ++ hp) ((vs ++ us) ++ hv) (vw s) m mu tl := ⟨S0.F, S0.N, S0.nd, S0.H, S0.nm, S0.X, S0.R, O⟩
      exact (i21 _ _ (h _ S0.fresh) (S1.newList (k := 0) (by simp [l1, l2]) (fun p hp => Nat.ne_of_lt (lt_of_news S0.N p hp)) F' N'))
end Mine
end
section
open PySem PySem.W PyProof.Rows
set_option Elab.async false
set_option tactic.hygienic false
set_option genSizeOf false
set_option genInjectivity false
set_option maxRecDepth 100000
set_option maxHeartbeats 1000000
set_option linter.unusedVariables false
set_option linter.unusedSimpArgs false
namespace Mine
variable {C : Cx} {F : FnI} {V : Act C F} {n : Nat}

/-! ### methods of lists and texts -/
inductive HasT (ah : AH) : PV → String → Prop
  | str {l} : HasT ah (.str l) "str"
  | list {a ps} : (a, AObj.list ps) ∈ ah → HasT ah (.ref a) "list"
structure MethAt (name : Str) (T id : String) : Prop where
  pa : PlainAttrs T
  slot : Slot T name id
  ty : typeOf (.builtin id) = pure (.type "method_descriptor")
theorem Sim.rot {h₀ : Heap} {h : HS} {L : Addr} {locs : List Str} {st : St} {x : PV} {vx : Value} {ps hp : List PV} {vs hv : List Value} (hl : vs.length = ps.length) (S : Sim C h₀ L locs st (ps ++ x :: hp) (vs ++ vx :: hv) h) : Sim C h₀ L locs st (x :: ps ++ hp) (vx :: vs ++ hv) h := by
  refine x30 S fun m mu tl S => ?_
  obtain ⟨a, b⟩ := VsRel.cut hl S.O
  cases b with
  | cons b c => exact (i30 m mu tl ⟨S.F, S.N, S.nd, S.H, S.nm, S.X, S.R, .cons b (a.append c)⟩)
theorem Ev_meth {o e : Expr} {r : List Expr} {name : Str} {apos pos : Pos} {T id : String} {st : St} {Q : PV → St → Prop} (M0 : MethAt name T id)
    (h : Ev V n o st fun x st1 => HasT st1.ah x T ∧ Es V n (e :: r) st1 fun ps st2 => Ca V n (.builtin id) (x :: ps) st2 Q)
    (hbase : attributeBase o name V.env (eval o V.env) = eval o V.env) (hline : (apos.endLine == pos.line) = true) (he : starEach (e :: r) V.env = (false, eval e V.env) :: starEach r V.env) (hpl : ∀ pos, (backTo pos (starEach r V.env)).any (·.1) = false)
    (hfew : ((backTo pos (starEach (e :: r) V.env)).all (fun x => !x.1) && (backToKw pos (keywordEach [] V.env)).all (fun x => x.1.isSome)
      && decide ((e :: r).length + ([] : List Keyword).length + (if ([] : List Keyword).isEmpty then 0 else 1) < 30)) = true) : Ev V n (.Call (.Attribute o name apos) (e :: r) [] pos) st Q := by
  intro A s hp hv E ok S
  refine wpAny_Call_method_lateS hbase hfew hline (h.run ok S fun x st1 hh vx s1 S1 => ?_)
  obtain ⟨hT, h1⟩ := hh
  have hty : s1.TypeIs vx T ∧ ∀ a, vx = .ref a → ∃ ob, s1.heap.get? a = some ob ∧ ob.dict = none := by
    cases hT with
    | str =>
      refine x21 S1.str1 fun y t ez0 ez1 => ?_
      obtain rfl := ez0
      obtain rfl := ez1
      exact ⟨typeIs_str _ _ _, fun a e => nomatch e⟩
    | list hm =>
      obtain rfl := S1.ref1
      refine x52 (Sim.list S1 hm) fun vs k m mu tl S2 hmu rr => ?_
      have ho := S2.N.get (List.mem_append_left _ hmu)
      exact ⟨(i11 _ ho rfl), fun a e => by cases e; exact (i11 _ ho rfl)⟩
  refine (i25 T id M0.pa M0.slot M0.ty hty.1 hty.2 ?_)
  have hx := h1 A s1 _ _ E pos ok S1
  rw [he] at hx ⊢
  refine Calls.callWith_builtin (by show (false || (backTo pos (starEach r V.env)).any (·.1)) = false; rw [hpl]; rfl) (Calls.evalArgs_plain (wpAny_mono hx (fun vs s2 hx => ?_) fun z0 z0 e => e))
  refine x22 hx fun ps st2 h2 hl S2 => ?_
  exact h2 A s2 hp hv E (vx :: vs) ok (by simp [hl]) (S2.rot hl)
theorem Ex1_expr {e : Expr} {pos : Pos} {st : St} {Qn : St → Prop} {Qr : PV → St → Prop} {Qc : St → Prop} (h : Ev V n e st fun z0 st1 => Qn st1) (hi : interactive V.env = false) (hs : swapsWith e none pos.line V.env = pure false) : Ex1 V n (.Expr e pos) st Qn Qr Qc := by
  intro A s hp hv E ok S
  exact wpAny_Expr_any (h.run ok S fun p st1 h1 v s1 S1 => (i11 st1 h1 S1.drop1)) hi hs
theorem meth_append : MethAt "append" "list" "list.append" := ⟨PySem.F.plainAttrs_list, PySem.F.slot_list_append, PySem.F.type_list_append⟩
theorem meth_extend : MethAt "extend" "list" "list.extend" := ⟨PySem.F.plainAttrs_list, PySem.F.slot_list_extend, PySem.F.type_list_extend⟩
theorem meth_replace : MethAt "replace" "str" "str.replace" := ⟨PySem.F.plainAttrs_str, PySem.F.slot_str_replace, PySem.F.type_str_replace⟩
/-! ### objects that the text does not name -/
theorem Sim0.pushRaw {h₀ h' : Heap} {h : HS} {L a : Addr} {locs : List Str} {st : St} {hp : List PV} {hv : List Value} {m : Str → Option Value} {mu tl : Led} {P : Obj → Prop} {o : Obj} (hP : P o) (S : Sim0 C h₀ L locs st hp hv h m mu tl)
    (ha : ∀ p ∈ mu ++ tl, p.1 ≠ a) (F' : Fr h₀ L h' m) (N' : News h₀ L h' ((a, o) :: (mu ++ tl))) : Sim C h₀ L locs ⟨st.loc, (a, .raw P) :: st.ah⟩ hp hv (h.to h') := by
  refine (i30 m ((a, o) :: mu) tl ⟨F', N', ?_, (HRel.cons (.raw hP) S.H : HRel C tl ((a, .raw P) :: st.ah) ([(a, o)] ++ mu)), S.nm, S.X, S.R, S.O⟩)
  simp only [List.cons_append, List.map_cons]
  refine List.nodup_cons.mpr ⟨fun hm => ?_, S.nd⟩
  refine x11 (List.mem_map.mp hm) fun p hp e => ?_
  exact ha p hp e
theorem HRel.pick {tl : Led} {a : Addr} {o : AObj} : ∀ {pre post : AH} {mu : Led}, HRel C tl (pre ++ (a, o) :: post) mu → ∃ m1 c m2, mu = m1 ++ (c ++ m2) ∧ HRel C tl (pre ++ post) (m1 ++ m2) ∧ ORel C tl a o c
  | [], post, _, .cons (c := c) (mu := mu) r s => (i32 [] c mu rfl s r)
  | p :: pre, post, _, .cons (c := c) (mu := mu) r s => by
    refine x32 s.pick fun m1 d m2 ez0 b rd => ?_
    obtain rfl := ez0
    refine (i32 (c ++ m1) d m2 (by simp [List.append_assoc]) ?_ rd)
    rw [List.append_assoc]
    exact .cons r b
theorem Sim.pickRaw {h₀ : Heap} {h : HS} {L a : Addr} {locs : List Str} {loc : Loc} {pre post : AH} {hp : List PV} {hv : List Value} {P : Obj → Prop} (S : Sim C h₀ L locs ⟨loc, pre ++ (a, .raw P) :: post⟩ hp hv h) :
    ∃ o m mu tl, P o ∧ Sim0 C h₀ L locs ⟨loc, pre ++ post⟩ hp hv h m mu tl ∧ h.heap.get? a = some o ∧ a ≠ L ∧ h₀.get? a = none ∧ ∀ p ∈ mu ++ tl, p.1 ≠ a := by
  refine x30 S fun m mu tl S => ?_
  refine x32 S.H.pick fun m1 c m2 ez0 H r => ?_
  obtain rfl := ez0
  cases r with
  | @raw _ o hP =>
    have nd := S.nd
    have z := S.N (a, o) (by simp)
    have nd2 : (((a, o) :: (m1 ++ m2 ++ tl)).map (·.1)).Nodup := by
      have pm : List.Perm (m1 ++ ([(a, o)] ++ m2) ++ tl) ((a, o) :: (m1 ++ m2 ++ tl)) := by
        simp only [List.append_assoc, List.cons_append, List.nil_append]
        exact List.perm_middle
      exact (pm.map (fun x => x.1)).nodup_iff.mp nd
    simp only [List.map_cons, List.nodup_cons] at nd2
    refine (i45 o m (m1 ++ m2) tl hP ⟨S.F, fun p hp' => S.N p ?_, nd2.2, H, S.nm, S.X, S.R, S.O⟩ z.1 z.2.1 z.2.2 (fun p hp' e => nd2.1 (e ▸ List.mem_map_of_mem (f := (·.1)) hp')))
    simp only [List.mem_append, List.mem_cons, List.nil_append, List.cons_append] at hp' ⊢
    rcases hp' with (h | h) | h
    · exact .inl (.inl h)
    · exact .inl (.inr (.inr h))
    · exact .inr h
theorem Sim0.but {h₀ h' : Heap} {h : HS} {L a : Addr} {locs : List Str} {st : St} {hp : List PV} {hv : List Value} {m : Str → Option Value} {mu tl : Led} (S : Sim0 C h₀ L locs st hp hv h m mu tl) (hL : a ≠ L) (hn : h₀.get? a = none)
    (ha : ∀ p ∈ mu ++ tl, p.1 ≠ a) (hs : Heap.ExtBut a h.heap h') : Sim0 C h₀ L locs st hp hv (h.to h') m mu tl :=
  ⟨⟨S.F.ns.extBut hs hL.symm, fun c x e => hs c x (fun q => by rw [q, hn] at e; cases e) (S.F.keep c x e), S.F.above⟩, fun p hp => ⟨hs _ _ (ha p hp) (S.N p hp).1, (S.N p hp).2⟩, S.nd, S.H, S.nm, S.X, S.R, S.O⟩

/-! ### for loops over a list or a tuple -/
noncomputable def ItIs (T : String) (a : Addr) (k : Nat) (o : Obj) : Prop := o.cls = .type T ∧ o.data = .fields #[.ref a, .int k 0]
theorem Sim.raws {h₀ : Heap} {h : HS} {L : Addr} {locs : List Str} {st : St} {hp : List PV} {hv : List Value} (S : Sim C h₀ L locs st hp hv h) {P : Obj → Prop} (o : Obj) (hP : P o) (hfree : o.isFreed = false) : Sim C h₀ L locs ⟨st.loc, (h.heap.objs.size, .raw P) :: st.ah⟩ hp hv (h.to (h.heap.push o)) ∧ h.heap.objs.size ∉ st.ah.map (·.1) := by
  refine x30 S fun m mu tl S => ?_
  exact ⟨S.pushRaw hP (fun p hp => Nat.ne_of_lt (lt_of_news S.N p hp)) (S.F.push _) (News.push S.F S.N _ hfree), S.fresh⟩
theorem Sim0.sim {h₀ : Heap} {h : HS} {L : Addr} {locs : List Str} {st : St} {hp : List PV} {hv : List Value} {m : Str → Option Value} {mu tl : Led} (S : Sim0 C h₀ L locs st hp hv h m mu tl) : Sim C h₀ L locs st hp hv h := (i30 m mu tl S)
/-- what the next item of an iterator is: px is what it runs over -/
structure NextOk (V : Act C F) (n : Nat) (px : PV) (vx : Value) (it : Addr) (P : Nat → Obj → Prop) (all : List PV) (keep : AH → Prop) : Prop where
  h : ∀ k A s hp hv E loc ah (Q : Option Value → Shared → Prop), V.Ok A n E → keep ah → V.Sim ⟨loc, (it, .raw (P k)) :: ah⟩ (px :: hp) (vx :: hv) (vw s) →
    (all[k]? = none → ∀ s', V.Sim ⟨loc, ah⟩ (px :: hp) (vx :: hv) (vw s') → Q none s') → (∀ p, all[k]? = some p → ∀ v s', V.Sim ⟨loc, (it, .raw (P (k + 1))) :: ah⟩ (p :: px :: hp) (v :: vx :: hv) (vw s') → Q (some v) s') →
    wpAny (M C) A (pyNext (.ref it)) Q E s
  mono : ∀ ah x, keep ah → keep (x :: ah)
  self : ∀ k A s hp hv (E : Value → Shared → Prop) (Q : Value → Shared → Prop) loc ah, V.Sim ⟨loc, (it, .raw (P k)) :: ah⟩ hp hv (vw s) → Q (.ref it) s → wpAny (M C) A (pyIter (.ref it)) Q E s
theorem Sim.reraw {h₀ h' : Heap} {h : HS} {L a : Addr} {locs : List Str} {loc : Loc} {ah : AH} {hp : List PV} {hv : List Value} {m : Str → Option Value} {mu tl : Led} {P : Obj → Prop} {o : Obj} (S : Sim0 C h₀ L locs ⟨loc, ah⟩ hp hv h m mu tl) (hL : a ≠ L) (hn : h₀.get? a = none) (ha : ∀ p ∈ mu ++ tl, p.1 ≠ a)
    (hs : Heap.ExtBut a h.heap h') (ho : h'.get? a = some o) (hP : P o) : Sim C h₀ L locs ⟨loc, (a, .raw P) :: ah⟩ hp hv (h.to h') := by
  have S3 := S.but hL hn ha hs
  refine S3.pushRaw (h := h.to h') hP ha S3.F fun q hq => ?_
  rcases List.mem_cons.mp hq with e | e
  · rw [e]; exact (i02 ho hL hn)
  · exact S3.N q e
theorem NextOk_list {a it : Addr} {all : List PV} (hsz : all.length ≤ 1000000) : NextOk V n (.ref a) (.ref a) it (ItIs "list_iterator" a) all (fun ah => (a, AObj.list all) ∈ ah) := by
  refine ⟨fun k A s hp hv E loc ah Q ok hkeep S h0 h1 => ?_, fun ah x h => .tail _ h, fun k A s hp hv E Q loc ah S h => ?_⟩
  · refine x45 (Sim.pickRaw (pre := []) S) fun o m mu tl hP S2 hget hL hn hap => ?_
    have hit : s.heap.IsListIter it a k := (i12 o hget hP.1 hP.2)
    refine x11 (S2.H.find hkeep) fun c rr hc => ?_
    cases rr with
    | @list _ vs kk rr =>
      have hl := S2.N.isList (List.mem_append_left _ (hc _ (.head _)))
      have hlen := rr.length
      cases ha : all[k]? with
      | none => exact wpAny_pyNext_list_end ok.hd hit hl (by simp at ha ⊢; lia) fun h' hs => h0 ha _ (S2.but hL hn hap hs).sim
      | some p =>
        refine x11 (rr.get (i := k) (p := p) ha) fun v hv' rv => ?_
        refine wpAny_pyNext_list_item (x := v) hit hl (by simpa using hv') fun h' hit' hs => ?_
        refine x12 hit' fun o' g1 g2 g3 => ?_
        exact h1 p ha v { s with heap := h' } (Sim.reraw (P := ItIs "list_iterator" a (k + 1)) (⟨S2.F, S2.N, S2.nd, S2.H, S2.nm, S2.X, S2.R, .cons rv S2.O⟩ : Sim0 C V.h₀ V.L F.locs ⟨loc, ah⟩ (p :: .ref a :: hp) (v :: .ref a :: hv) (vw s) m mu tl) hL hn hap hs.extBut g1 ⟨g2, g3⟩)
  · refine x45 (Sim.pickRaw (pre := []) S) fun o m mu tl hP S2 hget hL hn hap => ?_
    exact wpAny_pyIter_listiter (l := a) (i := k) (i12 o hget hP.1 hP.2) h
/-- iter(p), and what it gives -/
noncomputable def ItOf (V : Act C F) (n : Nat) (p : PV) (st : St) (all : List PV) (keep : AH → Prop) : Prop :=
  ∀ A s hp hv E v (Q : Value → Shared → Prop), V.Ok A n E → V.Sim st (p :: hp) (v :: hv) (vw s) → (∀ it P s', it ∉ st.ah.map (·.1) → NextOk V n p v it P all keep → V.Sim ⟨st.loc, (it, .raw (P 0)) :: st.ah⟩ (p :: hp) (v :: hv) (vw s') → Q (.ref it) s') → wpAny (M C) A (pyIter v) Q E s
theorem ItOf_list {a : Addr} {all : List PV} {st : St} (hm : (a, AObj.list all) ∈ st.ah) (hsz : all.length ≤ 1000000) : ItOf V n (.ref a) st all (fun ah => (a, AObj.list all) ∈ ah) := by
  intro A s hp hv E v Q ok S1 h
  obtain rfl := S1.ref1
  refine x52 (Sim.list S1 hm) fun vs k m mu tl S2 hmu rr => ?_
  refine wpAny_pyIter_list (S2.N.isList (List.mem_append_left _ hmu)) ?_
  obtain ⟨S3, hfr⟩ := Sim.raws S1 (P := ItIs "list_iterator" a 0) { cls := .type "list_iterator", data := .fields #[.ref a, .int 0 0] } ⟨rfl, rfl⟩ rfl
  exact h _ _ _ hfr (NextOk_list hsz) S3
/-- the turns of a loop: what is still to come, at place k -/
noncomputable def Turns (V : Act C F) (n : Nat) (x : Expr) (body : List Stmt) (keep : AH → Prop) (P : Nat → Obj → Prop) (it : Addr) (Qn : St → Prop) (Qr : PV → St → Prop) : List PV → Nat → St → Prop
  | [], _, st => keep st.ah ∧ Qn st
  | p :: rest, k, st => keep st.ah ∧ As V n x p ⟨st.loc, (it, .raw (P (k + 1))) :: st.ah⟩ fun st1 => Ex V n body st1
        (fun st2 => ∃ pre post, st2.ah = pre ++ (it, .raw (P (k + 1))) :: post ∧ Turns V n x body keep P it Qn Qr rest (k + 1) ⟨st2.loc, pre ++ post⟩) Qr
        (fun st2 => ∃ pre post, st2.ah = pre ++ (it, .raw (P (k + 1))) :: post ∧ Turns V n x body keep P it Qn Qr rest (k + 1) ⟨st2.loc, pre ++ post⟩)
theorem Sim.drop2 {h₀ : Heap} {h : HS} {L : Addr} {locs : List Str} {st : St} {hp : List PV} {hv : List Value} {p q : PV} {v u : Value} (S : Sim C h₀ L locs st (p :: q :: hp) (v :: u :: hv) h) : Sim C h₀ L locs st (p :: hp) (v :: hv) h := by
  refine x30 S fun m mu tl S => ?_
  cases S.O with | cons a b => cases b with | cons b c => exact (i30 m mu tl ⟨S.F, S.N, S.nd, S.H, S.nm, S.X, S.R, .cons a c⟩)
theorem Sim.rawFront {h₀ : Heap} {h : HS} {L a : Addr} {locs : List Str} {loc : Loc} {pre post : AH} {hp : List PV} {hv : List Value} {P : Obj → Prop} (S : Sim C h₀ L locs ⟨loc, pre ++ (a, .raw P) :: post⟩ hp hv h) : Sim C h₀ L locs ⟨loc, (a, .raw P) :: (pre ++ post)⟩ hp hv h := by
  refine x45 (Sim.pickRaw S) fun o m mu tl hP S2 hget hL hn hap => ?_
  exact Sim.reraw S2 hL hn hap (fun z0 z0 z0 e => e) hget hP
/-- how a loop stands when j items are still to come -/
structure ForI (V : Act C F) (n : Nat) (x : Expr) (body : List Stmt) (keep : AH → Prop) (P : Nat → Obj → Prop) (it : Addr) (Qn : St → Prop) (Qr : PV → St → Prop) (all hp : List PV) (hv : List Value) (j : Nat) (s : Shared) : Prop where
  h : ∃ done rest st, all = done ++ rest ∧ j = rest.length ∧ Turns V n x body keep P it Qn Qr rest done.length st ∧ V.Sim ⟨st.loc, (it, .raw (P done.length)) :: st.ah⟩ hp hv (vw s)
theorem for_any {x : Expr} {body : List Stmt} {it : Addr} {P : Nat → Obj → Prop} {keep : AH → Prop} {all : List PV} {Qn : St → Prop} {Qr : PV → St → Prop} {Qc : St → Prop} {A : Around} {s : Shared} {px : PV} {vx : Value} {hp : List PV} {hv : List Value} {R : Result → Shared → Prop} {st : St} (ok : V.Ok A n (notedBy (M C) A V.env fun e s' => R (.error e) s'))
    (N : NextOk V n px vx it P all keep) (ht : ∀ v, letOwnedTupleGo x (.ref it) v = pure ()) (h : Turns V n x body keep P it Qn Qr all 0 st) (S : V.Sim ⟨st.loc, (it, .raw (P 0)) :: st.ah⟩ (px :: hp) (vx :: hv) (vw s))
    (hR : ∀ f s', PstF V hp hv Qn Qr Qc f s' → R (.ok f) s') : codeAny (M C) A (.forLoop x (.ref it) body [] V.env) R s := by
  refine codeAny_forLoop (ForI V n x body keep P it Qn Qr all (px :: hp) (vx :: hv)) ?_ all.length ⟨[], all, st, rfl, rfl, h, S⟩ ht
  intro j s1 hI
  refine x33 hI.h fun done rest st1 e1 e2 h1 S1 => ?_
  have hkeep : keep st1.ah := by
    cases rest with
    | nil => exact h1.1
    | cons _ _ => exact h1.1
  refine N.h done.length A s1 hp hv _ st1.loc st1.ah _ ok hkeep S1 (fun ha s2 S2 => ?_) (fun p ha v s2 S2 => ?_)
  · cases rest with
    | nil => exact wpAny_pure (hR _ _ (i11 st1 h1.2 S2.drop1))
    | cons p rest => rw [e1] at ha; simp at ha
  · cases rest with
    | nil => rw [e1] at ha; simp at ha
    | cons p' rest =>
      have ep : p = p' := by rw [e1] at ha; simpa using ha.symm
      subst ep
      refine wpAny_mono (h1.2 A s2 (px :: hp) (vx :: hv) _ v ok S2) (fun z0 s3 h3 => ?_) fun z0 z0 e => e
      refine x11 h3 fun st2 h2 S5 => ?_
      refine wpAny_mono (h2 A s3 (px :: hp) (vx :: hv) _ ok S5) (fun f s4 hf => ?_) fun z0 z0 e => e
      have step : (∃ st', (∃ pre post, st'.ah = pre ++ (it, .raw (P (done.length + 1))) :: post ∧ Turns V n x body keep P it Qn Qr rest (done.length + 1) ⟨st'.loc, pre ++ post⟩) ∧ V.Sim st' (px :: hp) (vx :: hv) (vw s4)) →
          ∃ m, m < j ∧ ForI V n x body keep P it Qn Qr all (px :: hp) (vx :: hv) m s4 := fun hx => by
        obtain ⟨⟨l', a'⟩, ⟨pre, post, ea, h3⟩, S6⟩ := hx
        rw [show a' = pre ++ (it, .raw (P (done.length + 1))) :: post from ea] at S6
        exact (i11 rest.length (by rw [e2]; simp) ⟨done ++ [p], rest, ⟨l', pre ++ post⟩, by rw [e1]; simp, rfl, by simpa using h3, by simpa using Sim.rawFront S6⟩)
      cases f with
      | next => exact step hf
      | cont => exact step hf
      | brk => exact hf.elim
      | ret v =>
        refine x21 hf fun pv st' hq S9 => ?_
        exact hR _ _ (i21 pv st' hq S9.drop2)
theorem Ex1_for {x iter : Expr} {body : List Stmt} {pos : Pos} {st : St} {Qn : St → Prop} {Qr : PV → St → Prop} {Qc : St → Prop} (ht : ∀ it v, letOwnedTupleGo x it v = pure ()) (hs : ∀ v, foldedSetIterable iter V.env v = pure v)
    (h : Ev V n iter st fun p st1 => ∃ all keep, ItOf V n p st1 all keep ∧ ∀ P it, it ∉ st1.ah.map (·.1) → Turns V n x body keep P it Qn Qr all 0 st1) : Ex1 V n (.For x iter body [] pos) st Qn Qr Qc := by
  intro A s hp hv E ok S
  refine wpAny_For (h.run ok S fun p st1 hh v s1 S1 => ?_) hs
  refine x21 hh fun all keep hI hT => ?_
  exact hI A s1 hp hv E v _ ok S1 fun it P s2 hit N S2 => for_any (Qc := Qc) (ok.own rfl) N (ht _) (hT P it hit) S2 fun f s' hf => hf
end Mine
end
section
open PySem PySem.W PyProof.Rows PySem.SeqAt
set_option Elab.async false
set_option tactic.hygienic false
set_option genSizeOf false
set_option genInjectivity false
set_option maxRecDepth 100000
set_option maxHeartbeats 1000000
set_option linter.unusedVariables false
set_option linter.unusedSimpArgs false
namespace Mine
variable {C : Cx} {F : FnI} {V : Act C F} {n : Nat}

/-! ### lists and tuples compared -/
theorem Co_ne_bool {a c : Bool} {st : St} {Q : Bool → St → Prop} (h : Q (a != c) st) : Co V n .NotEq (.bool a) (.bool c) st Q := by
  intro A s hp hv E vx vy ok S
  obtain rfl := S.bool1
  obtain rfl := S.drop1.bool1
  exact PyProof.Rows.ne_bool (cmpOp S h)
/-- one sign in a text -/
theorem Co_in_one {c : Nat} {t : List Nat} {st : St} {Q : Bool → St → Prop} (h : Q (decide (c ∈ t)) st) : Co V n .In (.str [c]) (.str t) st Q := by
  intro A s hp hv E vx vy ok S
  refine x21 S.str1 fun x t1 ez0 ez1 => ?_
  obtain rfl := ez0
  obtain rfl := ez1
  refine x21 S.drop1.str1 fun y t2 ez0 hy => ?_
  obtain rfl := ez0
  refine PyProof.Rows.in_str ?_
  have e : y = ⟨#[c]⟩ := by
    obtain ⟨y⟩ := y
    have : y = #[c] := Array.toList_inj.mp hy
    rw [this]
  subst e
  rw [StrLaws.found_one]
  exact cmpOp S h
/-! ### the class of the text -/
section
variable {ss : List Stmt} {fns bs fields : List Str}
noncomputable abbrev picA (C : Cx) : Addr := adr C.K "Picture"
theorem Good.cls (G : Good C ss fns bs fields) : makesIn C.K (picA C) = true ∧ findIn C.K (.ref (picA C)) "__init__" = some (some (.ref (initAt C.K (picA C)))) ∧ typeIn C.K (.ref (initAt C.K (picA C))) = some (.type "function") ∧ isIn C.K (.ref (picA C)) (picA C) = true := by
  have := G.checks.2.2.2
  simp only [clsOk, Bool.and_eq_true, beq_iff_eq] at this
  obtain ⟨⟨⟨⟨⟨⟨⟨a, b⟩, c⟩, d⟩, e⟩, f⟩, g⟩, i⟩ := this
  exact (i03 a b c g)
theorem tc_weight (a : Addr) (r : List Value) (kw : List (Str × Value)) : (Code.builtin "type.__call__" ⟨.ref a :: r, kw⟩).weight = 1 := by kernel_rfl
theorem tc_units (a : Addr) (r : List Value) (kw : List (Str × Value)) : (Code.builtin "type.__call__" ⟨.ref a :: r, kw⟩).cUnits = 1 := by kernel_rfl
theorem tc_envs (a : Addr) (r : List Value) (kw : List (Str × Value)) : (Code.builtin "type.__call__" ⟨.ref a :: r, kw⟩).envs = [] := by kernel_rfl
theorem Act.Ok.under {V : Act C F} {A : Around} {n : Nat} {E : Value → Shared → Prop} (ok : V.Ok A (n + 1) E) (a : Addr) (r : List Value) (kw : List (Str × Value)) : V.Ok (A.under (.builtin "type.__call__" ⟨.ref a :: r, kw⟩)) n E := by
  have h1 := ok.fr
  have h2 := ok.dp
  have h3 := ok.un
  refine ⟨ok.er, ?_, ok.hd, ?_, ?_⟩
  · unfold Around.under; dsimp only; rw [tc_envs]; exact h1
  · unfold Around.under; dsimp only; rw [tc_weight]; exact (a_dep h2)
  · unfold Around.under; dsimp only; rw [tc_units]; exact (a_un (by decide) h3)
theorem Ev_make (G : Good C ss fns bs fields) {gp pos : Pos} {st : St} {Q : PV → St → Prop} (hg : Str.ofString "Picture" ∈ F.gls)
    (h : ∀ a, a ∉ st.ah.map (·.1) → Fn C n (initAt C.K (picA C)) [.ref a] ((a, .inst (picA C) []) :: st.ah) fun p ah' => p = .none ∧ Q (.ref a) ⟨st.loc, ah'⟩) : Ev V (n + 1) (.Call (.Name (Str.ofString "Picture") gp) [] [] pos) st Q := by
  intro A s hp hv E ok S
  refine x30 (id S) fun m mu tl S₀ => ?_
  have GA := globAt_of G.checks.2.1
  refine Call_Name rfl (nameX_K S₀.F V.X (topRead_of V.T) GA.at_ ?_ F.hk (F.hg _ hg).1 (F.hg _ hg).2)
  refine x03 G.cls fun c1 c2 c3 c4 => ?_
  have X := V.X.keeps S₀.F.keep
  refine callWith_K0 X GA.keep (wpAny_call (make_K S₀.F S₀.N X c1 c2 c3 fun x dx h' F' N' hlt hxd => ?_))
  have hfr : x ∉ st.ah.map (·.1) := by
    intro hm
    obtain ⟨⟨a, o⟩, hp', e⟩ := List.mem_map.mp hm
    obtain ⟨y, hy⟩ := S₀.H.key hp'
    have := hlt _ (List.mem_append_left _ hy)
    have e : a = x := e
    have this : a < dx := this
    rw [e] at this
    exact absurd (Nat.lt_trans this hxd) (Nat.lt_irrefl _)
  have S1 : V.Sim ⟨st.loc, (x, .inst (picA C) []) :: st.ah⟩ (.ref x :: hp) (.ref x :: hv) ((vw s).to h') := by
    refine (i30 m ([(x, instObj (picA C) dx), (dx, dictOf [] 0)] ++ mu) tl ⟨F', fun p hp => N' p hp, ?_, HRel.cons (.inst .nil .nil) S₀.H, S₀.nm, S₀.X, S₀.R, .cons (.ref x) S₀.O⟩)
    have hd := S₀.nd
    have off : ∀ y, dx ≤ y → y ∉ (mu ++ tl).map (·.1) := fun y hy hm => by
      refine x11 (List.mem_map.mp hm) fun p hp' e => ?_
      have := hlt p hp'
      have e : p.1 = y := e
      rw [e] at this
      exact absurd this (Nat.not_lt.mpr hy)
    simp only [List.cons_append, List.nil_append, List.map_cons]
    refine List.nodup_cons.mpr ⟨fun hm => ?_, List.nodup_cons.mpr ⟨off dx (Nat.le_refl _), hd⟩⟩
    rcases List.mem_cons.mp hm with e | e
    · exact absurd e (Nat.ne_of_gt hxd)
    · exact off x (Nat.le_of_lt hxd) e
  refine codeAny_mono (h x hfr _ V _ { s with heap := h' } hp hv E [.ref x] st.loc (ok.under _ _ _) rfl S1) fun r s' z => ?_
  cases r with
  | error e => exact z
  | ok f => cases f with
    | ret v =>
      refine x21 z fun p st' w S2 => x02 w fun e1 e2 e3 => ?_
      subst e2
      have S3 := Sim.at_ S2 e1 rfl
      obtain rfl := S3.none1
      exact ⟨rfl, (i21 (.ref x) _ e3 (S3.drop1.push fun z0 => .ref _))⟩
    | _ => exact z
theorem cls_of_inst (G : Good C ss fns bs fields) {prog : Program} {w : World} {A : Around} {s : Shared} {E : Value → Shared → Prop} {x dx : Addr} {es : List DictEntry} {k : Nat} (X : C.K.In s.heap) (I : InstAt s.heap x (instObj (picA C) dx) (picA C) (some (dictOf es k))) {Q : Option Value → Shared → Prop}
    (h : Q (some (.ref (picA C))) { s with toks := s.toks + 1 }) : wpAny (model prog w) A (getAttr? (.ref x) "__class__") Q E s := by
  have hN := G.noTup
  simp only [noTup, Bool.and_eq_true, beq_iff_eq] at hN
  obtain ⟨⟨⟨⟨⟨n1, n2⟩, n3⟩, n4⟩, n5⟩, n6⟩ := hN
  obtain ⟨g1, g2⟩ := plainGet_of n1
  have hc : (clsIn C.K (picA C)).isSome = true := by
    have := G.checks.2.2.2
    simp only [clsOk, Bool.and_eq_true, beq_iff_eq] at this
    refine x11 (any_some this.1.1.2) fun cd hcd z0 => ?_
    rw [hcd]; rfl
  have hf := findObj_data (od := dictOf es k) hc n2 n3 n4
  obtain ⟨hh, g, d, t, os⟩ := s
  have T0 := I.type (M := model prog w)
  have T1 := looks_findIn (M := model prog w) X g1
  have T2 := looks_find (M := model prog w) X I hf
  have T3 := looks_findIn (M := model prog w) X g2
  unfold getAttr? getAttrBy? getAttrBy
  refine wpAny_bind (wpAny_mkText (wpAny_bind (wpAny_attempt (wpAny_holding (wpAny_bind (T0.at (wpAny_bind (T1.at ?_))))))))
  show wpAny _ _ (getAttrEveryday _ _ _) _ _ _
  refine wpAny_bind (wpAny_onRaise (wpAny_runValue (codeAny_builtin F.plainObj_entry_getattr_hooked ?_)))
  refine wpAny_bind (wpAny_pure (wpAny_bind (T0.at (wpAny_bind (T2.at (wpAny_bind (T3.at ?_)))))))
  show wpAny _ _ (holding [.builtin "object.__class__"] (call (.builtin "getset_descriptor.__get__") [.builtin "object.__class__", .ref x, .ref (picA C)]) >>= ret) _ _ _
  refine wpAny_bind (wpAny_holding (wpAny_call (class_get (s := ⟨hh, g, d, t + 1, os⟩) (ox := instObj (picA C) dx) (od := some (dictOf es k)) X I n5 ?_)))
  refine wpAny_pure ?_
  exact handed_on rfl (wpAny_pure h)
set_option tactic.hygienic true in
theorem isi_nested_tup (G : Good C ss fns bs fields) {prog : Program} {w : World} {A : Around} {s : Shared} {E : Value → Shared → Prop} {x dx : Addr} {es : List DictEntry} {k : Nat} {dep : Int} {tk : Tok} (X : C.K.In s.heap) (I : InstAt s.heap x (instObj (picA C) dx) (picA C) (some (dictOf es k))) {Q : Fin → Shared → Prop}
    (h : Q (.done (.ret (.bool false))) { s with toks := s.toks + 1 }) : wpAny (model prog w) A (Builtin.«isinstance.nested» ⟨[.ref x, .type "tuple", .int dep tk], []⟩) Q E s := by
  have hN := G.noTup
  simp only [noTup, Bool.and_eq_true, beq_iff_eq] at hN
  obtain ⟨⟨⟨⟨⟨n1, n2⟩, n3⟩, n4⟩, n5⟩, n6⟩ := hN
  have hc : ∃ cd, clsIn C.K (picA C) = some cd := by
    have := G.checks.2.2.2
    simp only [clsOk, Bool.and_eq_true, beq_iff_eq] at this
    refine x11 (any_some this.1.1.2) fun cd hcd z0 => ?_
    exact ⟨cd, hcd⟩
  obtain ⟨cd, hcd⟩ := hc
  have hisD : Looks (model prog w) s.heap (isType (.ref (picA C))) true := by
    unfold clsIn at hcd
    split at hcd
    · rename_i c' d' cd' sl' ho
      intro A' Q' E' s' kk q
      unfold isType loadHead
      exact wpAny_bind (wpAny_loadPart (kk _ _ (X _ _ ho)) (wpAny_pure q))
    · cases hcd
  have T0 := I.type (M := model prog w)
  have T1 : Looks (model prog w) s.heap (isSubtype (.ref (picA C)) (.type "tuple")) false := looks_subIn X n6
  have T2 : Looks (model prog w) s.heap (isInstance (.ref x) (.type "tuple")) false := T0.andThen T1
  obtain ⟨hh, g, d, t, os⟩ := s
  unfold Builtin.«isinstance.nested»
  refine wpAny_bind (T0.at ?_)
  rw [if_neg (fun q => by cases beq_iff_eq.mp q)]
  refine wpAny_bind (wpAny_of_eq (a := Value.type "type") rfl ?_)
  rw [if_pos (by decide)]
  k_delta "plainIsInstance"
  refine wpAny_bind (wpAny_bind (wpAny_of_eq (a := true) rfl ?_))
  simp only [Bool.not_true, Bool.false_eq_true, if_false]
  refine wpAny_bind (T2.at ?_)
  simp only [Bool.false_eq_true, if_false]
  refine wpAny_bind (cls_of_inst G X I ?_)
  refine wpAny_bind (hisD.at ?_)
  simp only [Bool.not_true, Bool.false_eq_true, if_false]
  refine wpAny_bind (wpAny_rule ?_)
  refine T1.at ?_
  first
    | exact wpAny_pure h
    | exact wpAny_pure (wpAny_pure h)
    | exact wpAny_bind (wpAny_pure (wpAny_pure h))
theorem Sim.inst {h₀ : Heap} {h : HS} {L a K : Addr} {locs : List Str} {st : St} {hp : List PV} {hv : List Value} {kvs : List (Str × PV)} (S : Sim C h₀ L locs st hp hv h) (hm : (a, AObj.inst K kvs) ∈ st.ah) :
    ∃ dx es k, InstAt h.heap a (instObj K dx) K (some (dictOf es k)) ∧ ∃ m, Fr h₀ L h.heap m := by
  refine x30 S fun m mu tl S => ?_
  refine x11 (S.H.find hm) fun c r hc => ?_
  cases r with
  | inst r hn => exact (i31 _ _ _ (InstAt.of_news S.N (List.mem_append_left _ (hc _ (.head _))) (List.mem_append_left _ (hc _ (.tail _ (.head _))))) ⟨m, S.F⟩)
theorem isi_tup_inst (G : Good C ss fns bs fields) {a : Addr} {kvs : List (Str × PV)} {st : St} {Q : PV → St → Prop} (hm : (a, AObj.inst (picA C) kvs) ∈ st.ah) (h : Q (.bool false) st) :
    ∀ A s hp hv E v, V.Ok A n E → V.Sim st (.ref a :: hp) (v :: hv) (vw s) → wpAny (M C) A (call (.builtin "isinstance") [v, .type "tuple"]) (Pst V hp hv Q) E s := by
  intro A s hp hv E v ok S
  obtain rfl := S.ref1
  obtain ⟨dx, es, k, I, m, F0⟩ := S.inst hm
  exact call_isinstance (S := fun z0 R s => (C.K.In s.heap ∧ InstAt s.heap a (instObj (picA C) dx) (picA C) (some (dictOf es k))) ∧ R (.ok (.ret (.bool false))) { s with toks := s.toks + 1 })
    (fun z0 z0 z0 z0 z0 hs => isinstance_outer (isi_nested_tup G hs.1.1 hs.1.2 hs.2) (by intro q; cases q)) ⟨⟨V.X.keeps F0.keep, I⟩, (i21 _ st h (S.drop1.push fun z0 => .bool _))⟩
theorem isi_pic (G : Good C ss fns bs fields) {a : Addr} {kvs : List (Str × PV)} {st : St} {Q : PV → St → Prop} (hm : (a, AObj.inst (picA C) kvs) ∈ st.ah) (h : Q (.bool true) st) :
    ∀ A s hp hv E v, V.Ok A n E → V.Sim st (.ref a :: hp) (v :: hv) (vw s) → wpAny (M C) A (call (.builtin "isinstance") [v, .ref (picA C)]) (Pst V hp hv Q) E s := by
  intro A s hp hv E v ok S
  obtain rfl := S.ref1
  obtain ⟨dx, es, k, I, m, F0⟩ := S.inst hm
  exact isi_call (V.X.keeps F0.keep) (fun M' => I.type) G.cls.2.2.2 (by intro q; cases q) (i21 _ st h (S.drop1.push fun z0 => .bool _))
theorem Good.picType (G : Good C ss fns bs fields) : typeIn C.K (.ref (picA C)) = some (.type "type") := by
  have e1 := congrArg Prod.fst G.exc
  unfold obsE valE at e1
  simp only [Bool.and_eq_true, beq_iff_eq] at e1
  exact e1.2
theorem isi_nested_no (G : Good C ss fns bs fields) {prog : Program} {w : World} {A : Around} {s : Shared} {E : Value → Shared → Prop} {a : Addr} {o : Obj} {dep : Int} {tk : Tok} (X : C.K.In s.heap) (ho : s.heap.get? a = some o) (hc : o.cls = .type "tuple") {Q : Fin → Shared → Prop}
    (h : Q (.done (.ret (.bool false))) { s with toks := s.toks + 1 }) : wpAny (model prog w) A (Builtin.«isinstance.nested» ⟨[.ref a, .ref (picA C), .int dep tk], []⟩) Q E s := by
  refine x11 (Option.map_eq_some_iff.mp (show (C.K.lookup (picA C)).map (·.cls) = some (.type "type") from G.picType)) fun oc hoc hty => ?_
  have hcls : ∃ cd, oc.data = .cls cd := by
    have := G.checks.2.2.2
    simp only [clsOk, Bool.and_eq_true, beq_iff_eq] at this
    refine x11 (any_some this.1.1.2) fun cd hcd z0 => ?_
    unfold clsIn at hcd
    rw [hoc] at hcd
    split at hcd
    · rename_i q; cases q; exact ⟨_, rfl⟩
    · cases hcd
  obtain ⟨cd, hcd⟩ := hcls
  have hC := X _ _ hoc
  have T0 : ∀ {M : Model}, Looks M s.heap (typeOf (.ref a)) (.type "tuple") := hc ▸ (Looks.ld ho).andThen .now
  have T1 : ∀ {M : Model}, Looks M s.heap (typeOf (.ref (picA C))) (.type "type") := hty ▸ (Looks.ld hC).andThen .now
  have T2 : ∀ {M : Model}, Looks M s.heap (isSubtype (.type "tuple") (.ref (picA C))) false := Looks.of_pure (by kernel_rfl)
  have T3 : ∀ {M : Model}, Looks M s.heap (isInstance (.ref a) (.ref (picA C))) false := T0.andThen T2
  have T4 : ∀ {M : Model}, Looks M s.heap (isType (.ref (picA C))) true := (Looks.ld hC).andThen (by rw [hcd]; exact .now)
  obtain ⟨hh, g, d, t, os⟩ := s
  unfold Builtin.«isinstance.nested»
  refine wpAny_bind (T0.at ?_)
  rw [if_neg (fun q => by cases beq_iff_eq.mp q)]
  refine wpAny_bind (T1.at ?_)
  rw [if_pos (by decide)]
  k_delta "plainIsInstance"
  refine wpAny_bind (wpAny_bind (T4.at ?_))
  simp only [Bool.not_true, Bool.false_eq_true, if_false]
  refine wpAny_bind (T3.at ?_)
  simp only [Bool.false_eq_true, if_false]
  refine wpAny_bind (class_attr_tuple ho hc ?_)
  refine wpAny_bind (wpAny_of_eq (a := true) rfl ?_)
  simp only [Bool.not_true, Bool.false_eq_true, if_false]
  refine wpAny_bind (wpAny_rule ?_)
  refine T2.at ?_
  first
    | exact wpAny_pure h
    | exact wpAny_pure (wpAny_pure h)
    | exact wpAny_bind (wpAny_pure (wpAny_pure h))
theorem isi_pic_tup (G : Good C ss fns bs fields) {ps : List PV} {st : St} {Q : PV → St → Prop} (h : Q (.bool false) st) :
    ∀ A s hp hv E v, V.Ok A n E → V.Sim st (.tuple ps :: hp) (v :: hv) (vw s) → wpAny (M C) A (call (.builtin "isinstance") [v, .ref (picA C)]) (Pst V hp hv Q) E s := by
  intro A s hp hv E v ok S
  refine x45 S.untup fun a vs m N ez0 hl F' N' hm back => ?_
  obtain rfl := ez0
  exact call_isinstance (S := fun z0 R s => (C.K.In s.heap ∧ s.heap.get? a = some (tupObj vs)) ∧ R (.ok (.ret (.bool false))) { s with toks := s.toks + 1 })
    (fun z0 z0 z0 z0 z0 hs => isinstance_outer (isi_nested_no G hs.1.1 hs.1.2 rfl hs.2) (by intro q; cases q)) ⟨⟨V.X.keeps F'.keep, N'.get hm⟩, (i21 _ st h (S.drop1.push fun z0 => .bool _))⟩
/-- isinstance(e, Picture) -/
theorem Ev_isi_pic (G : Good C ss fns bs fields) {gp tp pos : Pos} {e : Expr} {st : St} {Q : PV → St → Prop} (h1 : bs.contains (Str.ofString "isinstance") = true) (h2 : F.gls.contains (Str.ofString "isinstance") = true) (h4 : F.gls.contains (Str.ofString "Picture") = true)
    (he : starEach [e, .Name (Str.ofString "Picture") tp] V.env = [(false, eval e V.env), (false, eval (.Name (Str.ofString "Picture") tp) V.env)])
    (h : Ev V n e st fun p st1 => ∀ A s hp hv E v, V.Ok A n E → V.Sim st1 (p :: hp) (v :: hv) (vw s) → wpAny (M C) A (call (.builtin "isinstance") [v, .ref (picA C)]) (Pst V hp hv Q) E s) :
    Ev V n (.Call (.Name (Str.ofString "isinstance") gp) [e, .Name (Str.ofString "Picture") tp] [] pos) st Q := by
  intro A s hp hv E ok S
  refine x30 (id S) fun m mu tl S₀ => ?_
  have GI := G.bi h1 bo_isinstance (by decide +kernel)
  have GA := globAt_of G.checks.2.1
  refine Call_Name rfl (nameX_B S₀.F V.X (topRead_of V.T) GI.miss GI.boot GI.ne ?_ F.hk (F.hg _ (mem_of h2)).1 (F.hg _ (mem_of h2)).2)
  rw [he]
  refine Calls.callWith_builtin rfl (Calls.evalArgs_plain (Calls.spliced_cons (h.run ok S fun p st1 h1 v s1 S1 => ?_)))
  refine x30 (id S1) fun m1 mu1 tl1 S1' => ?_
  refine Calls.spliced_cons (nameX_K S1'.F V.X (topRead_of V.T) GA.at_ ?_ F.hk (F.hg _ (mem_of h4)).1 (F.hg _ (mem_of h4)).2)
  exact Calls.spliced_nil (h1 A s1 hp hv E v ok S1)
end
end Mine
end
section
open PySem PySem.W PyProof.Rows
set_option Elab.async false
set_option tactic.hygienic false
set_option genSizeOf false
set_option genInjectivity false
set_option maxRecDepth 100000
set_option maxHeartbeats 1000000
set_option linter.unusedVariables false
set_option linter.unusedSimpArgs false
namespace Mine
variable {C : Cx} {F : FnI} {V : Act C F} {n : Nat}

/-! ### two tuples, one after the other -/
theorem VRel.tup_inv {tl : Led} {ps : List PV} {v : Value} (h : VRel tl (.tuple ps) v) : ∃ a vs, v = .ref a ∧ (a, tupObj vs) ∈ tl ∧ VsRel tl ps vs := by
  cases h with | tuple a _ vs m r => exact (i22 a vs rfl m r)
theorem Bo_add_tup {ps qs : List PV} {st : St} {Q : PV → St → Prop} (h1 : ps ≠ []) (h2 : qs ≠ []) (hl : ps.length + qs.length ≤ 1000) (h : Q (.tuple (ps ++ qs)) st) : Bo V n .Add (.tuple ps) (.tuple qs) st Q := by
  intro A s hp hv E vx vy ok S
  refine x30 S fun m mu tl S => ?_
  refine x22 S.O.hd.tup_inv fun b us ez0 m2 r2 => ?_
  obtain rfl := ez0
  refine x22 S.O.tl'.hd.tup_inv fun a vs ez0 m1 r1 => ?_
  obtain rfl := ez0
  have l1 := r1.length
  have l2 := r2.length
  have e1 := List.length_pos_iff.mpr h1
  have e2 := List.length_pos_iff.mpr h2
  refine PySem.P.add_tuple (items := vs.toArray) (items2 := us.toArray) (n := 0) (n2 := 0) (S.N.get (List.mem_append_right _ m1)) (S.N.get (List.mem_append_right _ m2)) (by simp; exact List.ne_nil_of_length_pos (by lia)) (by simp; exact List.ne_nil_of_length_pos (by lia)) (i21 _ st h ?_) (by rw [sizeLine_eq]; simp only [List.size_toArray]; lia)
  have S2 : Sim0 C V.h₀ V.L F.locs st ((ps ++ qs) ++ hp) ((vs ++ us) ++ hv) (vw s) m mu tl := ⟨S.F, S.N, S.nd, S.H, S.nm, S.X, S.R, (r1.append r2).append S.O.tl'.tl'⟩
  have e : vs.toArray ++ us.toArray = (vs ++ us).toArray := by simp
  rw [e]
  exact S2.tup (by simp [l1, l2]) (fun p hp => Nat.ne_of_lt (lt_of_news S.N p hp)) (S.F.push _) (News.push S.F S.N _)

/-! ### dicts with written keys; what they hold is no tuple -/
noncomputable def Imm : PV → Prop
  | .tuple _ => False
  | _ => True
theorem Imm.all {p : PV} (h : Imm p) {tl : Led} {v : Value} (r : VRel tl p v) (tl' : Led) : VRel tl' p v := by
  cases r with
  | none => exact .none
  | bool b => exact .bool b
  | int i t => exact .int i t
  | str s t => exact .str s t
  | ref a => exact .ref a
  | tuple => exact h.elim
inductive DV : List (Str × PV) → List (Str × Value) → Prop
  | nil : DV [] []
  | cons {k p v ps kvs} : (∀ tl, VRel tl p v) → DV ps kvs → DV ((k, p) :: ps) ((k, v) :: kvs)
theorem DV.keys {ps : List (Str × PV)} {kvs : List (Str × Value)} (h : DV ps kvs) : kvs.map (·.1) = ps.map (·.1) := by
  induction h with
  | nil => rfl
  | cons _ _ ih => simp [ih]
theorem DV.get {ps : List (Str × PV)} {kvs : List (Str × Value)} {k : Str} {p : PV} (h : DV ps kvs) (hn : (ps.map (·.1)).Nodup) (hm : (k, p) ∈ ps) : ∃ v, valueAt kvs k = some v ∧ ∀ tl, VRel tl p v := by
  induction h with
  | nil => cases hm
  | @cons k' q v ps kvs r h ih =>
    rw [List.map_cons, List.nodup_cons] at hn
    unfold valueAt
    rw [List.find?_cons]
    rcases List.mem_cons.mp hm with e | e
    · cases e
      exact (i11 v (by simp) r)
    · have hne : ¬ k' = k := fun z => hn.1 (z ▸ List.mem_map_of_mem (f := (·.1)) e)
      simp only [hne, decide_false]
      exact ih hn.2 e
theorem DV.put {ps ps' : List (Str × PV)} {kvs : List (Str × Value)} {k : Str} {p : PV} {v : Value} (r : ∀ tl, VRel tl p v) (h : DV ps kvs) (U : PutK k p ps ps') (hn : (ps.map (·.1)).Nodup) :
    kvs.any (fun kv => kv.1 = k) = true ∧ DV ps' (kvs.map fun kv => if kv.1 = k then (kv.1, v) else kv) := by
  have same : ∀ {ps : List (Str × PV)} {kvs : List (Str × Value)}, DV ps kvs → k ∉ ps.map (·.1) → kvs.map (fun kv => if kv.1 = k then (kv.1, v) else kv) = kvs := by
    intro ps kvs h
    induction h with
    | nil => intro _; rfl
    | cons _ _ ih =>
      intro hk
      simp only [List.map_cons, List.mem_cons, not_or] at hk ⊢
      rw [if_neg (Ne.symm hk.1), ih hk.2]
  induction U generalizing kvs with
  | here =>
    cases h with
    | cons _ h =>
      rw [List.map_cons, List.nodup_cons] at hn
      refine ⟨by simp, ?_⟩
      rw [List.map_cons, if_pos rfl, same h hn.1]
      exact .cons r h
  | next u ih =>
    cases h with
    | cons r' h =>
      rw [List.map_cons, List.nodup_cons] at hn
      obtain ⟨h1, h2⟩ := ih h hn.2
      refine ⟨by rw [List.any_cons, h1, Bool.or_true], ?_⟩
      rw [List.map_cons, if_neg (fun z => hn.1 (by rw [z]; exact u.keys.2))]
      exact .cons r' h2
theorem DV.new {ps : List (Str × PV)} {kvs : List (Str × Value)} {k : Str} {p : PV} {v : Value} (r : ∀ tl, VRel tl p v) (h : DV ps kvs) : DV (ps ++ [(k, p)]) (kvs ++ [(k, v)]) := by
  induction h with
  | nil => exact .cons r .nil
  | cons r' _ ih => exact .cons r' ih
theorem DV.not {ps : List (Str × PV)} {kvs : List (Str × Value)} {k : Str} (h : DV ps kvs) (hk : k ∉ ps.map (·.1)) : kvs.any (fun kv => kv.1 = k) = false := by
  rw [← h.keys] at hk
  rw [List.any_eq_false]
  intro x hx
  simp only [decide_eq_true_eq]
  exact fun e => hk (e ▸ List.mem_map_of_mem (f := (·.1)) hx)
noncomputable def DictIs (C : Cx) (ps : List (Str × PV)) (o : Obj) : Prop := ∃ kvs, o.IsDictOf (PySem.strKind C.prog C.w) kvs ∧ DV ps kvs
theorem IsDictOf.nodup {C : Cx} {ps : List (Str × PV)} {kvs : List (Str × Value)} {o : Obj} (h : o.IsDictOf (PySem.strKind C.prog C.w) kvs) (r : DV ps kvs) : (ps.map (·.1)).Nodup := by
  refine x24 h fun z0 z0 z0 z0 z0 z0 hn => ?_
  rw [← r.keys]; exact hn
theorem isDict_at {C : Cx} {h : Heap} {a : Addr} {o : Obj} {kvs : List (Str × Value)} (ho : h.get? a = some o) (hd : o.IsDictOf (PySem.strKind C.prog C.w) kvs) : h.DictOf (PySem.strKind C.prog C.w) a kvs := Heap.dictOf_iff.mpr (i11 o ho hd)
/-- an object that the text does not name, looked at and changed in its place -/
theorem HRel.raw {tl : Led} {a : Addr} {P : Obj → Prop} {ah : AH} {mu : Led} (H : HRel C tl ah mu) (h : (a, AObj.raw P) ∈ ah) : ∃ o, (a, o) ∈ mu ∧ P o := by
  refine x11 (H.find h) fun c r hc => ?_
  cases r with | @raw _ o hP => exact (i11 o (hc _ (.head _)) hP)
theorem Sim.setRaw {h₀ : Heap} {h : HS} {L a : Addr} {locs : List Str} {st : St} {hp : List PV} {hv : List Value} {P P' : Obj → Prop} {ah' : AH} (S : Sim C h₀ L locs st hp hv h) (U : UpdH a (.raw P) (.raw P') st.ah ah') :
    ∃ o tl, h.heap.get? a = some o ∧ P o ∧ VsRel tl hp hv ∧ ∀ o' h', P' o' → Heap.SameBut a h.heap h' → h'.get? a = some o' → ∀ hp' hv', VsRel tl hp' hv' → Sim C h₀ L locs ⟨st.loc, ah'⟩ hp' hv' (h.to h') := by
  refine x30 S fun m mu tl S => ?_
  refine x32 (S.H.upd U) fun pre c post ez0 r back => ?_
  obtain rfl := ez0
  cases r with
  | @raw _ o hP =>
    have hnd : ((pre ++ (a, o) :: (post ++ tl)).map (·.1)).Nodup := by simpa [List.append_assoc] using S.nd
    have N' : News h₀ L h.heap (pre ++ (a, o) :: (post ++ tl)) := by simpa [List.append_assoc] using S.N
    have z := N' (a, o) (by simp)
    refine (i23 o tl z.1 hP S.O (fun o' h' hP' hs ho' hp' hv' O' => ?_))
    have e1 : (pre ++ (a, o) :: (post ++ tl)).map (·.1) = (pre ++ (a, o') :: (post ++ tl)).map (·.1) := by simp
    rw [List.map_append, List.nodup_append] at hnd
    refine x02 hnd fun n1 n2 n3 => ?_
    simp only [List.map_cons, List.nodup_cons] at n2
    have N2 := news_set N' (fun p hp e => n3 p.1 (List.mem_map_of_mem (f := (·.1)) hp) a (by simp) e) (fun p hp e => n2.1 (e ▸ List.mem_map_of_mem (f := (·.1)) hp)) hs ho'
    refine (i30 m (pre ++ ([(a, o')] ++ post)) tl ⟨S.F.change hs z.2.1 z.2.2, by simpa [List.append_assoc] using N2, ?_, back _ (.raw hP'), S.nm, S.X, S.R, O'⟩)
    have := S.nd
    simpa [List.append_assoc] using this
theorem Gi_dict {a : Addr} {k : Str} {p : PV} {ps : List (Str × PV)} {st : St} {Q : PV → St → Prop} (hm : (a, AObj.raw (DictIs C ps)) ∈ st.ah) (hk : (k, p) ∈ ps) (h : Q p st) : Gi V n (.ref a) (.str k.cps.toList) st Q := by
  intro A s hp hv E vx vi value slice ok S hsub
  refine x21 S.str1 fun x t ez0 hx => ?_
  obtain rfl := ez0
  obtain rfl := str_ext hx
  obtain rfl := S.drop1.ref1
  refine x30 S.drop1.drop1 fun m mu tl S1 => ?_
  obtain ⟨o, hmu, kvs, hd, hr⟩ := S1.H.raw hm
  refine x11 (hr.get (IsDictOf.nodup hd hr) hk) fun v hv' rv => ?_
  have D := isDict_at (S1.N.get (List.mem_append_left _ hmu)) hd
  exact tail_any D.typeIs slot_dict_getitem.lookup (wpAny_getItem_of (strKind_is _ _ _ _) D.mapOf hv' (i21 p st h (i30 m mu tl ⟨S1.F, S1.N, S1.nd, S1.H, S1.nm, S1.X, S1.R, .cons (rv _) S1.O⟩))) (hsub _ _)
/-- d[k] = p -/
theorem setDict_at {a : Addr} {k : Str} {ps ps' : List (Str × PV)} {u : Tok} {p : PV} {v : Value} {st : St} {ah' : AH} {A : Around} {s : Shared} {hp : List PV} {hv : List Value} {E : Value → Shared → Prop} {Q : Unit → Shared → Prop}
    (hk : PutK k p ps ps' ∨ (k ∉ ps.map (·.1) ∧ ps' = ps ++ [(k, p)])) (hi : Imm p) (hl : ps'.length ≤ 100) (U : UpdH a (.raw (DictIs C ps)) (.raw (DictIs C ps')) st.ah ah') (S : V.Sim st (p :: hp) (v :: hv) (vw s)) (h : ∀ s', V.Sim ⟨st.loc, ah'⟩ hp hv (vw s') → Q () s') :
    wpAny (M C) A (setItem (.ref a) (.str k u) v) Q E s := by
  obtain ⟨o, tl, ho, ⟨kvs, hd, hr⟩, O, back⟩ := S.setRaw U
  have D := isDict_at ho hd
  have rv := hi.all O.hd
  have hlen : kvs.length ≤ 100 := by
    have e := congrArg List.length hr.keys
    rw [List.length_map, List.length_map] at e
    rcases hk with hk | ⟨-, rfl⟩
    · have e2 := congrArg List.length hk.keys.1
      rw [List.length_map, List.length_map] at e2
      lia
    · rw [List.length_append] at hl
      lia
  refine wpAny_setItem_pairs (strKind_is _ _ _ _) D (fun h' hd' hs => ?_) (by rw [sizeLine_eq]; lia)
  refine x11 (Heap.dictOf_iff.mp hd') fun o' ho' hd2 => ?_
  refine h { s with heap := h', toks := _ } (back o' h' (i11 _ hd2 ?_) hs ho' hp hv O.tl')
  unfold stored
  rcases hk with hk | ⟨hk, rfl⟩
  · obtain ⟨h1, h2⟩ := hr.put rv hk (IsDictOf.nodup hd hr)
    rw [if_pos h1]; exact h2
  · rw [hr.not hk, if_neg (by decide)]
    exact hr.new rv
/-! a dict written out: it is made ahead of its values -/
theorem merged_new : ∀ (more acc : List (Str × Value)), ((acc ++ more).map (·.1)).Nodup → merged acc more = acc ++ more
  | [], acc, _ => by simp [merged]
  | (k, v) :: more, acc, hn => by
    have e1 : acc ++ (k, v) :: more = (acc ++ [(k, v)]) ++ more := by simp
    rw [e1] at hn ⊢
    rw [← merged_new more (acc ++ [(k, v)]) hn]
    have hk : acc.any (fun kv => kv.1 = k) = false := by
      rw [List.any_eq_false]
      intro x hx
      simp only [decide_eq_true_eq]
      intro e
      simp only [List.map_append, List.map_cons, List.map_nil, List.nodup_append] at hn
      exact hn.1.2.2 x.1 (List.mem_map_of_mem (f := (·.1)) hx) k (by simp) e
    show merged (stored acc k v) more = _
    unfold stored
    rw [hk, if_neg (by decide)]
/-- the values of a display, its keys written -/
noncomputable def Ps (V : Act C F) (n : Nat) (ks : List Str) (keys : List (Option Expr)) (values : List Expr) (pos : Pos) (st : St) (Q : List PV → St → Prop) : Prop :=
  ∀ A s hp hv E, V.Ok A n E → V.Sim st hp hv (vw s) → wpAny (M C) A (evalPairs (pairTrees keys values V.env pos)) (fun kvs s' => ∃ ps st' vs, Q ps st' ∧ vs.length = ps.length ∧ ks.length = vs.length ∧ Carries (PySem.strKind C.prog C.w) kvs (ks.zip vs) ∧ V.Sim st' (ps ++ hp) (vs ++ hv) (vw s')) E s
theorem Ps_nil {pos : Pos} {st : St} {Q : List PV → St → Prop} (h : Q [] st) : Ps V n [] [] [] pos st Q := fun A s hp hv E ok S => pairTrees_nil_walk (i34 [] st [] h rfl rfl trivial S)
theorem Ps_cons {k : Str} {ks : List Str} {kk : Nat} {kp pos : Pos} {e : Expr} {keys : List (Option Expr)} {values : List Expr} {st : St} {Q : List PV → St → Prop} (h : Ev V n e st fun p st1 => Ps V n ks keys values pos st1 fun ps st2 => Q (p :: ps) st2) :
    Ps V n (k :: ks) (some (.Constant (.str k) kk kp) :: keys) (e :: values) pos st Q := by
  intro A s hp hv E ok S
  refine pairTrees_cons_walk (wpAny_Constant_str (h.run ok S fun p st1 h1 v s1 S1 => ?_))
  refine wpAny_mono (h1 A s1 _ _ E ok S1) (fun r s2 hx => ?_) fun z0 z0 e => e
  refine x34 hx fun ps st2 vs h2 l1 l2 c S2 => ?_
  refine (i34 (p :: ps) st2 (v :: vs) h2 (congrArg (· + 1) l1) (congrArg (· + 1) l2) (i02 (strKind_is _ _ _ _) rfl c) ?_)
  have := Sim.rot (ps := ps) (vs := vs) l1 S2
  exact this
theorem dv_zip {tl : Led} : ∀ {ks : List Str} {ps : List PV} {vs : List Value}, VsRel tl ps vs → (∀ p ∈ ps, Imm p) → DV (ks.zip ps) (ks.zip vs)
  | [], _, _, _, _ => .nil
  | _ :: _, [], _, r, _ => by rw [r.none]; exact .nil
  | _ :: _, p :: ps, _, r, hi => by
    refine x22 r.open fun v vs ez0 a b => ?_
    obtain rfl := ez0
    exact .cons ((hi p (.head _)).all a) (dv_zip b fun q hq => hi q (.tail _ hq))
theorem Ev_dict {ks : List Str} {keys : List (Option Expr)} {values : List Expr} {pos : Pos} {st : St} {Q : PV → St → Prop} (hall : keys.all (·.isSome) = true) (hl : keys.length = values.length) (h0 : keys ≠ []) (hlen : keys.length ≤ 15) (hn : ks.Nodup)
    (h : ∀ d, d ∉ st.ah.map (·.1) → Ps V n ks keys values pos ⟨st.loc, (d, .raw (DictIs C [])) :: st.ah⟩ fun ps st1 => (∀ p ∈ ps, Imm p) ∧ ∃ ah', UpdH d (.raw (DictIs C [])) (.raw (DictIs C (ks.zip ps))) st1.ah ah' ∧ Q (.ref d) ⟨st1.loc, ah'⟩) :
    Ev V n (.Dict keys values pos) st Q := by
  intro A s hp hv E ok S
  refine wpAny_Dict_walk (knd := PySem.strKind C.prog C.w) hall hl h0 hlen ?_
  have hnew := Heap.DictOf.new (knd := PySem.strKind C.prog C.w) s.heap
  refine x11 (Heap.dictOf_iff.mp hnew) fun o ho hd => ?_
  have S1 := Sim.raws S (P := DictIs C []) { cls := .type "dict", data := .dict #[] } ⟨[], by
    have e : (s.heap.push { cls := .type "dict", data := .dict #[] }).get? s.heap.objs.size = some { cls := .type "dict", data := .dict #[] } := Heap.get?_push_at rfl rfl
    rw [e] at ho; cases ho; exact hd, .nil⟩ rfl
  refine wpAny_mono (h _ S1.2 A { s with heap := _ } hp hv E ok S1.1) (fun kvs s1 hx => ?_) fun z0 z0 e => e
  obtain ⟨ps, st1, vs, ⟨hi, ah', U, hq⟩, l1, l2, hc, S2⟩ := hx
  obtain ⟨o1, tl, ho1, ⟨kv1, hd1, hr1⟩, O, back⟩ := S2.setRaw U
  have e1 : kv1 = [] := by cases hr1; rfl
  subst e1
  refine (i12 (ks.zip vs) hc (isDict_at ho1 hd1) (fun h' hm hs => ?_))
  have hz : ((ks.zip vs).map (·.1)) = ks := by rw [List.map_fst_zip (Nat.le_of_eq l2)]
  rw [merged_new _ _ (by rw [List.nil_append, hz]; exact hn)] at hm
  refine x11 (Heap.dictOf_iff.mp hm) fun o2 ho2 hd2 => ?_
  obtain ⟨Oa, Ob⟩ := VsRel.cut l1 O
  exact (i21 (.ref _) _ hq (back o2 h' (i11 _ hd2 (dv_zip Oa hi)) hs ho2 _ _ (.cons (.ref _) Ob)))
end Mine
end
section
open PySem PySem.W PyProof.Rows
set_option Elab.async false
set_option tactic.hygienic false
set_option genSizeOf false
set_option genInjectivity false
set_option maxRecDepth 100000
set_option maxHeartbeats 1000000
set_option linter.unusedVariables false
set_option linter.unusedSimpArgs false
namespace Mine
variable {C : Cx} {F : FnI} {V : Act C F} {n : Nat}

/-! ### str(i), range(i) -/
theorem Ev_tcall {g : Str} {T : String} {gp pos : Pos} {e : Expr} {st : St} {Q : PV → St → Prop} (G : BiAt C g (.type T)) (hg : g ∈ F.gls) (he : starEach [e] V.env = (false, eval e V.env) :: starEach [] V.env)
    (h : Ev V n e st fun p st1 => Ca V n (.type T) [p] st1 Q) : Ev V n (.Call (.Name g gp) [e] [] pos) st Q := by
  intro A s hp hv E ok S
  refine x30 (id S) fun m mu tl S₀ => ?_
  refine Call_Name rfl (nameX_B S₀.F V.X (topRead_of V.T) G.miss G.boot G.ne ?_ F.hk (F.hg g hg).1 (F.hg g hg).2)
  rw [he]
  refine PySem.callWith_type1 (h.run ok S fun p st1 h1 v s1 S1 => ?_)
  exact h1 A s1 hp hv E [v] ok rfl S1
theorem bo_range : bootBuiltins "range" = some (.type "range") := by kernel_rfl
noncomputable def strI (i : Int) : List Nat := (Str.ofString (toString i)).cps.toList
theorem Ca_strI {i : Int} {st : St} {Q : PV → St → Prop} (hi : i.natAbs.log2 < 1920) (h : Q (.str (strI i)) st) : Ca V n (.type "str") [.int i] st Q := Ca_one fun A s hp hv E v ok S => by
  obtain ⟨t, rfl⟩ := S.int1
  exact PySem.P.str_of_int hi (i21 _ st h (S.drop1.str_push rfl))
noncomputable def RngIs (k : Nat) (o : Obj) : Prop := ∃ t u v, o = { cls := .type "range", data := .fields #[.int 0 t, .int k u, .int 1 v] }
noncomputable def RngIt (k i : Nat) (o : Obj) : Prop := o = { cls := .type "range_iterator", data := .fields #[rawInt i, rawInt ((k : Int) - i), rawInt 1] }
theorem Ca_range {k : Nat} {st : St} {Q : PV → St → Prop} (h : ∀ a, a ∉ st.ah.map (·.1) → Q (.ref a) ⟨st.loc, (a, .raw (RngIs k)) :: st.ah⟩) : Ca V n (.type "range") [.int k] st Q := Ca_one fun A s hp hv E v ok S => by
  obtain ⟨t, rfl⟩ := S.int1
  have S1 := Sim.raws S.drop1 (P := RngIs k) { cls := .type "range", data := .fields #[.int 0 s.toks, .int k t, .int 1 (s.toks + 1)] } (i30 _ _ _ rfl) rfl
  exact call_range_1 (i21 _ _ (h _ S1.2) (S1.1.push fun z0 => .ref _))
noncomputable abbrev rangeL (k : Nat) : List PV := (List.range k).map fun i : Nat => PV.int i
theorem rangeL_get (k i : Nat) : (rangeL k)[i]? = if i < k then some (.int i) else none := by
  rw [List.getElem?_map]
  split
  · rw [List.getElem?_range ‹_›]; rfl
  · rw [List.getElem?_eq_none (by simpa using ‹¬ i < k›)]; rfl
theorem NextOk_range {it : Addr} {px : PV} {vx : Value} {k : Nat} : NextOk V n px vx it (RngIt k) (rangeL k) (fun z0 => True) := by
  refine ⟨fun i A s hp hv E loc ah Q ok hkeep S h0 h1 => ?_, fun ah x h => trivial, fun i A s hp hv E Q loc ah S h => ?_⟩
  · refine x45 (Sim.pickRaw (pre := []) S) fun o m mu tl hP S2 hget hL hn hap => ?_
    unfold RngIt at hP
    subst hP
    rw [rangeL_get] at h0 h1
    by_cases hi : i < k
    · rw [if_pos hi] at h1
      refine wpAny_pyNext_range_item hget (by lia) fun h' hit' hs => ?_
      have e1 : (i : Int) + 1 = ((i + 1 : Nat) : Int) := rfl
      have e2 : (k : Int) - i - 1 = (k : Int) - ((i + 1 : Nat) : Int) := by lia
      rw [e2, e1] at hit'
      exact h1 _ rfl _ { s with heap := h', toks := _ } (Sim.reraw (P := RngIt k (i + 1)) (⟨S2.F, S2.N, S2.nd, S2.H, S2.nm, S2.X, S2.R, .cons (.int _ _) S2.O⟩ : Sim0 C V.h₀ V.L F.locs ⟨loc, ah⟩ (.int i :: px :: hp) (.int i s.toks :: vx :: hv) (vw s) m mu tl) hL hn hap hs.extBut hit' rfl)
    · rw [if_neg hi] at h0
      exact wpAny_pyNext_range_end ok.hd hget (by lia) fun h' hs => h0 rfl _ (S2.but hL hn hap hs).sim
  · refine x45 (Sim.pickRaw (pre := []) S) fun o m mu tl hP S2 hget hL hn hap => ?_
    unfold RngIt at hP
    subst hP
    exact wpAny_pyIter_rangeiter hget h
theorem ItOf_range {a : Addr} {k : Nat} {st : St} (hm : (a, AObj.raw (RngIs k)) ∈ st.ah) (hk : k ≤ 1000000) : ItOf V n (.ref a) st (rangeL k) (fun z0 => True) := by
  intro A s hp hv E v Q ok S1 h
  obtain rfl := S1.ref1
  refine x30 (id S1) fun m mu tl S2 => ?_
  obtain ⟨o, hmu, t, u, w, rfl⟩ := S2.H.raw hm
  refine wpAny_pyIter_range (S2.N.get (List.mem_append_left _ hmu)) (small_one (by decide) (by decide) (by lia) (by lia)) ?_
  rw [rangeSize_one]
  have e : (if (0 : Int) < k then (k : Int) - 0 else 0) = (k : Int) - ((0 : Nat) : Int) := by split <;> lia
  rw [e]
  have S3 := Sim.raws S1 (P := RngIt k 0) { cls := .type "range_iterator", data := .fields #[rawInt ((0 : Nat) : Int), rawInt ((k : Int) - ((0 : Nat) : Int)), rawInt 1] } rfl rfl
  exact h _ (RngIt k) _ S3.2 NextOk_range S3.1

/-! ### d[k].replace(c, '') -/
theorem Ev_repD {a : Addr} {x key : Str} {c k1 k2 k3 : Nat} {xp kp sp ap p1 p2 pos : Pos} {st : St} {Q : PV → St → Prop} (hx : (x, some (.ref a)) ∈ st.loc) {ps : List (Str × PV)} {t : List Nat} (hm : (a, AObj.raw (DictIs C ps)) ∈ st.ah) (hk : (key, .str t) ∈ ps) (hs : t.length ≤ 1000)
    (hline : (ap.endLine == pos.line) = true) (h : Q (.str (t.filter (· != c))) st) : Ev V n (.Call (.Attribute (.Subscript (.Name x xp) (.Constant (.str key) k1 kp) sp) "replace" ap) [.Constant (.str ⟨#[c]⟩) k2 p1, .Constant (.str ⟨#[]⟩) k3 p2] [] pos) st Q := by
  intro A s hp hv E ok S
  refine wpAny_Call_method_lateS rfl rfl hline (Subscript_ (wpAny_mono (Ev_local (Q := fun p st' => p = .ref a ∧ st' = st) hx ⟨rfl, rfl⟩ A s hp hv E ok S) (fun vo s1 hx1 => ?_) fun z0 z0 e => e))
  obtain ⟨p, st1, ⟨rfl, rfl⟩, S1⟩ := hx1
  obtain rfl := S1.ref1
  refine x30 S1.drop1 fun m mu tl S2 => ?_
  obtain ⟨o, hmu, kvs, hd, hr⟩ := S2.H.raw hm
  refine x11 (hr.get (IsDictOf.nodup hd hr) hk) fun v hv' rv => ?_
  refine x21 ((rv []).str_inv) fun y u ez0 hy => ?_
  obtain rfl := ez0
  have D := isDict_at (S2.N.get (List.mem_append_left _ hmu)) hd
  refine wpAny_Constant_str (tail_any (s := { s1 with toks := s1.toks + 1 }) D.typeIs slot_dict_getitem.lookup (wpAny_getItem_of (strKind_is _ _ _ _) D.mapOf hv' ?_) rfl)
  refine (i25 ("str") ("str.replace") meth_replace.pa meth_replace.slot meth_replace.ty (typeIs_str _ _ _) (fun a e => nomatch e) ?_)
  refine Calls.callWith_builtin rfl (Calls.evalArgs_plain (Calls.spliced_cons (wpAny_Constant_str (k := k2) (pos := p1) (Calls.spliced_cons (wpAny_Constant_str (k := k3) (pos := p2) (Calls.spliced_nil ?_))))))
  refine PySem.SC.replace (by show s1.toks + 1 + 1 ≠ 0; lia) (by show s1.toks + 1 + 1 + 1 ≠ 0; lia) (by show s1.toks + 1 + 1 ≠ s1.toks + 1 + 1 + 1; lia) rfl (by
    have : y.length ≤ 1000 := by rw [len_eq, hy]; exact hs
    show y.length + (y.length + 1) * 0 ≤ 16777216
    lia) fun t' k => (i21 _ st1 h ?_)
  rw [← hy, ← replace_strikes]
  exact S1.drop1.str_push rfl

/-! ### stores into a list or a dict -/
noncomputable def Si (V : Act C F) (n : Nat) (x i p : PV) (st : St) (Q : St → Prop) : Prop :=
  ∀ A s hp hv E vx vi v, V.Ok A n E → V.Sim st (i :: x :: p :: hp) (vi :: vx :: v :: hv) (vw s) → wpAny (M C) A (setItem vx vi v) (fun z0 s' => ∃ st', Q st' ∧ V.Sim st' hp hv (vw s')) E s
theorem Si_list {a : Addr} {ps : List PV} {k : Int} {p : PV} {st : St} {ah' : AH} {Q : St → Prop} (h0 : 0 ≤ k) (h1 : k < ps.length) (h2 : ps.length ≤ 1000000) (U : UpdH a (.list ps) (.list (ps.set k.toNat p)) st.ah ah') (h : Q ⟨st.loc, ah'⟩) : Si V n (.ref a) (.int k) p st Q := by
  intro A s hp hv E vx vi v ok S
  obtain ⟨u, rfl⟩ := S.int1
  obtain rfl := S.drop1.ref1
  exact setItem_at h0 h1 h2 U S.drop1.drop1 fun s' S' => (i11 _ h S')
theorem Si_dict {a : Addr} {k : Str} {ps ps' : List (Str × PV)} {p : PV} {st : St} {ah' : AH} {Q : St → Prop} (hk : PutK k p ps ps' ∨ (k ∉ ps.map (·.1) ∧ ps' = ps ++ [(k, p)])) (hi : Imm p) (hl : ps'.length ≤ 100)
    (U : UpdH a (.raw (DictIs C ps)) (.raw (DictIs C ps')) st.ah ah') (h : Q ⟨st.loc, ah'⟩) : Si V n (.ref a) (.str k.cps.toList) p st Q := by
  intro A s hp hv E vx vi v ok S
  refine x21 S.str1 fun x t ez0 hx => ?_
  obtain rfl := ez0
  obtain rfl := str_ext hx
  obtain rfl := S.drop1.ref1
  exact setDict_at hk hi hl U S.drop1.drop1 fun s' S' => (i11 _ h S')
theorem Ex1_setItem {o i : Expr} {pos' pos : Pos} {e : Expr} {st : St} {Qn : St → Prop} {Qr : PV → St → Prop} {Qc : St → Prop}
    (h : Ev V n e st fun p st1 => Ev V n o st1 fun x st2 => Ev V n i st2 fun j st3 => Si V n x j p st3 Qn) (hs : swapsWith e (some (.Subscript o i pos')) pos.line V.env = pure false) : Ex1 V n (.Assign [.Subscript o i pos'] e pos) st Qn Qr Qc := by
  intro A s hp hv E ok S
  refine PySem.wpAny_Assign_Subscript (h.run ok S fun p st1 h1 v s1 S1 => ?_) hs
  refine h1.run ok S1 fun x st2 h2 vo s2 S2 => ?_
  refine h2.run ok S2 fun j st3 h3 vi s3 S3 => ?_
  exact wpAny_mono (h3 A s3 hp hv E vo vi v ok S3) (fun z0 s4 hx => hx) fun z0 z0 e => e
theorem As_sub {o i : Expr} {pos : Pos} {p : PV} {st : St} {Q : St → Prop} (h : Ev V n o st fun x st1 => Ev V n i st1 fun j st2 => Si V n x j p st2 Q) : As V n (.Subscript o i pos) p st Q := by
  intro A s hp hv E v ok S
  rw [assign_Subscript]
  refine wpAny_bind (wpAny_holding (h.run ok S fun x st1 h1 vo s1 S1 => ?_))
  refine wpAny_bind (wpAny_holding (h1.run ok S1 fun j st2 h2 vi s2 S2 => ?_))
  refine wpAny_bind (wpAny_standAt (wpAny_bind (wpAny_holding (wpAny_mono (h2 A s2 hp hv E vo vi v ok S2) (fun z0 s3 hx => ?_) fun z0 z0 e => e))))
  exact fun Γ p hΓ => by
    rw [Sem.wp_release]
    exact hx
end Mine
end
section
open PySem PySem.W PyProof.Rows
set_option Elab.async false
set_option tactic.hygienic false
set_option genSizeOf false
set_option genInjectivity false
set_option maxRecDepth 100000
set_option maxHeartbeats 1000000
set_option linter.unusedVariables false
set_option linter.unusedSimpArgs false
namespace Mine
variable {C : Cx} {F : FnI} {V : Act C F} {n : Nat}

/-! ### a text's signs, counted -/
noncomputable def EnIs (it : Addr) (k : Nat) (o : Obj) : Prop := ∃ old, o = { cls := .type "enumerate", dict := none, data := .fields #[.none, .bool false, .ref it, rawInt k, .none, old], slots := #[] }
noncomputable def ChIs (y : Str) (k : Nat) (o : Obj) : Prop := ∃ t, o.cls = .type (strIterType y) ∧ o.data = .fields #[.str y t, .int k 0]
noncomputable abbrev enAh (e it : Addr) (y : Str) (k : Nat) (ah : AH) : AH := (e, .raw (EnIs it k)) :: (it, .raw (ChIs y k)) :: ah
/-- an address of the frame's own that the ledger does not hold -/
structure FreeAt (h₀ : Heap) (L a : Addr) (M : Led) : Prop where
  L : a ≠ L
  n : h₀.get? a = none
  m : ∀ p ∈ M, p.1 ≠ a
theorem Sim0.one {h₀ h' : Heap} {h : HS} {L : Addr} {locs : List Str} {loc : Loc} {ah : AH} {hp : List PV} {hv : List Value} {m : Str → Option Value} {mu tl : Led} {a : Addr} {P : Obj → Prop} {o : Obj}
    (S : Sim0 C h₀ L locs ⟨loc, ah⟩ hp hv h m mu tl) (f : FreeAt h₀ L a (mu ++ tl)) (hs : Heap.ExtBut a h.heap h') (ho : h'.get? a = some o) (hP : P o) :
    Sim0 C h₀ L locs ⟨loc, (a, .raw P) :: ah⟩ hp hv (h.to h') m ((a, o) :: mu) tl := by
  have S2 := S.but f.L f.n f.m hs
  refine ⟨S2.F, fun p hp => ?_, ?_, (HRel.cons (.raw hP) S2.H : HRel C tl ((a, .raw P) :: ah) ([(a, o)] ++ mu)), S2.nm, S2.X, S2.R, S2.O⟩
  · rcases List.mem_cons.mp hp with rfl | hp
    · exact (i02 ho f.L f.n)
    · exact S2.N p hp
  · refine List.nodup_cons.mpr ⟨fun z => ?_, S2.nd⟩
    refine x11 (List.mem_map.mp z) fun p hp e => ?_
    exact f.m p hp e
structure Two (C : Cx) (h₀ : Heap) (L : Addr) (locs : List Str) (loc : Loc) (ah : AH) (hp : List PV) (hv : List Value) (h : HS) (e it : Addr) (P R : Obj → Prop) (oe oi : Obj) (m : Str → Option Value) (mu tl : Led) : Prop where
  P : P oe
  R : R oi
  S : Sim0 C h₀ L locs ⟨loc, ah⟩ hp hv h m mu tl
  ge : h.heap.get? e = some oe
  gi : h.heap.get? it = some oi
  fi : FreeAt h₀ L it (mu ++ tl)
  fe : FreeAt h₀ L e (mu ++ tl)
  ne : e ≠ it
set_option tactic.hygienic true in
theorem Sim.two {h₀ : Heap} {h : HS} {L : Addr} {locs : List Str} {loc : Loc} {ah : AH} {hp : List PV} {hv : List Value} {e it : Addr} {P R : Obj → Prop} (S : Sim C h₀ L locs ⟨loc, (e, .raw P) :: (it, .raw R) :: ah⟩ hp hv h) :
    ∃ oe oi m mu tl, Two C h₀ L locs loc ah hp hv h e it P R oe oi m mu tl := by
  refine x30 S fun m mu tl S => ?_
  cases S.H with
  | cons a b => cases b with
   | cons b c => cases a with
    | @raw _ oe hP => cases b with
     | @raw _ oi hR =>
      rename_i mu'
      have nd := S.nd
      have z1 := S.N (e, oe) (.head _)
      have z2 := S.N (it, oi) (.tail _ (.head _))
      have nd1 := List.nodup_cons.mp nd
      have nd2 := List.nodup_cons.mp nd1.2
      exact ⟨oe, oi, m, mu', tl, hP, hR, ⟨S.F, fun p hp => S.N p (.tail _ (.tail _ hp)), nd2.2, c, S.nm, S.X, S.R, S.O⟩, z1.1, z2.1,
        ⟨z2.2.1, z2.2.2, fun p hp q => nd2.1 (q ▸ List.mem_map_of_mem (f := (·.1)) hp)⟩,
        ⟨z1.2.1, z1.2.2, fun p hp q => nd1.1 (.tail _ (q ▸ List.mem_map_of_mem (f := (·.1)) hp))⟩, fun q => nd1.1 (q ▸ .head _)⟩
theorem strDraws {A : Around} (hh : A.handled = none) (it : Addr) (y : Str) (t : Tok) :
    Draws C.prog C.w A it [it] y.cps.size (fun i v => ∃ c u, y.cps[i]? = some c ∧ v = .str ⟨#[c]⟩ u) (fun i h => h.IsStrIter it (strIterType y) y t i) := by
  unfold strIterType
  split
  · exact Draws.strAscii hh it y t
  · exact Draws.strWide hh it y t
theorem enum_next {e it : Addr} {y : Str} {k : Nat} {loc : Loc} {ah : AH} {hp : List PV} {hv : List Value} {A : Around} {s : Shared} {E : Value → Shared → Prop} {Q : Option Value → Shared → Prop} {elts : List Expr} {kk : Nat} {tp : Pos} (ok : V.Ok A n E)
    (S : V.Sim ⟨loc, enAh e it y k ah⟩ hp hv (vw s)) (h0 : k = y.cps.size → ∀ s', V.Sim ⟨loc, ah⟩ hp hv (vw s') → Q none s') (hk : k ≤ y.cps.size)
    (h1 : ∀ c, y.cps[k]? = some c → ∀ v s', (∀ (E' : Value → Shared → Prop) (Q' : Unit → Shared → Prop), (∀ s'', V.Sim ⟨loc, enAh e it y (k + 1) ah⟩ (.tuple [.int k, .str [c]] :: hp) (v :: hv) (vw s'') → Q' () s'') →
      wpAny (M C) A (letOwnedTupleGo (.Tuple elts kk tp) (.ref e) v) Q' E' s') → Q (some v) s') : wpAny (M C) A (pyNext (.ref e)) Q E s := by
  refine x50 (Sim.two S) fun oe oi m mu tl T => ?_
  obtain ⟨old, rfl⟩ := T.P
  refine x11 T.R fun t hc hd => ?_
  have hit : s.heap.IsStrIter it (strIterType y) y t k := (i12 oi T.gi hc hd)
  have D := strDraws (C := C) (A := A.in1) ok.hd it y t
  by_cases hz : k = y.cps.size
  · exact wpAny_pyNext_enum_endD D T.ge (hz ▸ hit) fun h' hs => h0 hz _ (T.S.but T.fi.L T.fi.n T.fi.m hs).sim
  · refine wpAny_pyNext_enum_itemD D T.ge hit (Nat.lt_of_le_of_ne hk hz) T.ne (fun q => T.ne (List.mem_singleton.mp q)) fun x h' tk hx he' hi' ht' hsz' keep => ?_
    refine x21 hx fun c u hc' ez0 => ?_
    obtain rfl := ez0
    refine h1 c hc' _ _ fun E' Q' hQ => ?_
    refine wpAny_letOwnedTupleGo_enum he' fun h2 he2 hs2 => hQ _ ?_
    have hts : e < s.heap.objs.size := Heap.lt_size T.ge
    have ht2 : h2.get? s.heap.objs.size = some (tupObj [.int k tk, .str ⟨#[c]⟩ u]) := (hs2.2 _ (Nat.ne_of_gt hts)).trans ht'
    refine x12 hi' fun oi' gi' hc2 hd2 => ?_
    have gi2 : h2.get? it = some oi' := (hs2.2 _ T.ne.symm).trans gi'
    have keep2 : ∀ b o, b ≠ e → b ≠ it → s.heap.get? b = some o → h2.get? b = some o := fun b o q1 q2 q => (hs2.2 _ q1).trans (keep b o q1 q2 q)
    have F2 : Fr V.h₀ V.L h2 m := ⟨T.S.F.ns.at fun o => keep2 _ o T.fe.L.symm T.fi.L.symm, fun b o q => keep2 b o (fun z => by rw [z, T.fe.n] at q; cases q) (fun z => by rw [z, T.fi.n] at q; cases q) (T.S.F.keep b o q), T.S.F.above⟩
    have S3 : Sim0 C V.h₀ V.L F.locs ⟨loc, ah⟩ ([.int k, .str [c]] ++ hp) ([.int k tk, .str ⟨#[c]⟩ u] ++ hv) (vw s) m mu tl := ⟨T.S.F, T.S.N, T.S.nd, T.S.H, T.S.nm, T.S.X, T.S.R, .cons (.int ..) (.cons (.str ⟨#[c]⟩ u) T.S.O)⟩
    have hT0 : V.h₀.get? s.heap.objs.size = none := by
      cases q : V.h₀.get? s.heap.objs.size with
      | none => rfl
      | some o => exact absurd (Heap.lt_size (T.S.F.keep _ _ q)) (Nat.lt_irrefl _)
    have S4 := S3.tup0 (h' := h2) (a := s.heap.objs.size) rfl (fun p hp => Nat.ne_of_lt (lt_of_news T.S.N p hp)) F2 (by
      intro p hp
      rcases List.mem_cons.mp hp with rfl | hp
      · exact (i02 ht2 (Nat.ne_of_gt T.S.F.ns.lt) hT0)
      · exact ⟨keep2 _ _ (T.fe.m p hp) (T.fi.m p hp) (T.S.N p hp).1, (T.S.N p hp).2⟩)
    have hap : ∀ a, a < s.heap.objs.size → FreeAt V.h₀ V.L a (mu ++ tl) → FreeAt V.h₀ V.L a (mu ++ ((s.heap.objs.size, tupObj [.int k tk, .str ⟨#[c]⟩ u]) :: tl)) := fun a ha f => ⟨f.L, f.n, fun p hp => by
      rcases List.mem_append.mp hp with hp | hp
      · exact f.m p (List.mem_append_left _ hp)
      · rcases List.mem_cons.mp hp with rfl | hp
        · exact Nat.ne_of_gt ha
        · exact f.m p (List.mem_append_right _ hp)⟩
    have fi := hap it (Heap.lt_size T.gi) T.fi
    have fe := hap e hts T.fe
    have S5 := S4.one (h' := h2) (P := ChIs y (k + 1)) fi (fun z0 z0 z0 q => q) gi2 (i11 t hc2 hd2)
    exact (S5.one (h' := h2) (P := EnIs it (k + 1)) ⟨fe.L, fe.n, fun p hp => by
      rcases List.mem_cons.mp hp with rfl | hp
      · exact T.ne.symm
      · exact fe.m p hp⟩ (fun z0 z0 z0 q => q) he2 ⟨_, rfl⟩).sim
/-- the turns -/
noncomputable def EnT (V : Act C F) (n : Nat) (x : Expr) (body : List Stmt) (e it : Addr) (y : Str) (ah : AH) (Qn : Loc → Prop) : List Nat → Nat → Loc → Prop
  | [], _, loc => Qn loc
  | c :: r, k, loc => As V n x (.tuple [.int k, .str [c]]) ⟨loc, enAh e it y (k + 1) ah⟩ fun st1 => Ex V n body st1 (fun st2 => st2.ah = enAh e it y (k + 1) ah ∧ EnT V n x body e it y ah Qn r (k + 1) st2.loc) (fun z0 z0 => False) (fun z0 => False)
structure EnI (V : Act C F) (n : Nat) (x : Expr) (body : List Stmt) (e it : Addr) (y : Str) (ah : AH) (Qn : Loc → Prop) (hp : List PV) (hv : List Value) (j : Nat) (s : Shared) : Prop where
  h : ∃ k loc, j + k = y.cps.size ∧ EnT V n x body e it y ah Qn (y.cps.toList.drop k) k loc ∧ V.Sim ⟨loc, enAh e it y k ah⟩ hp hv (vw s)
theorem Ca_enum {l : List Nat} {st : St} {Q : PV → St → Prop} (h : ∀ (y : Str) e it, y.cps.toList = l → Q (.ref e) ⟨st.loc, enAh e it y 0 st.ah⟩) : Ca V n (.type "enumerate") [.str l] st Q := Ca_one fun A s hp hv E v ok S => by
  refine x21 S.str1 fun y t ez0 hy => ?_
  obtain rfl := ez0
  refine x30 S.drop1 fun m mu tl S => ?_
  refine call_enumerate_str fun h' he hi hz keep => (i21 _ _ (h y (s.heap.objs.size + 1) s.heap.objs.size hy) ?_)
  refine x12 hi fun oi gi hc hd => ?_
  have hfree : ∀ a, s.heap.objs.size ≤ a → FreeAt V.h₀ V.L a (mu ++ tl) := fun a ha => ⟨Nat.ne_of_gt (Nat.lt_of_lt_of_le S.F.ns.lt ha), by
    cases q : V.h₀.get? a with
    | none => rfl
    | some o => exact absurd (Heap.lt_size (S.F.keep _ _ q)) (Nat.not_lt.mpr ha), fun p hp => Nat.ne_of_lt (Nat.lt_of_lt_of_le (lt_of_news S.N p hp) ha)⟩
  have S5 := S.one (h' := h') (P := ChIs y 0) (hfree _ (Nat.le_refl _)) (fun b o z0 => keep b o) gi (i11 t hc hd)
  have fe := hfree _ (Nat.le_succ s.heap.objs.size)
  have S6 := (S5.one (h' := h') (P := EnIs s.heap.objs.size 0) ⟨fe.L, fe.n, fun p hp => by
      rcases List.mem_cons.mp hp with rfl | hp
      · exact Nat.ne_of_lt (Nat.lt_succ_self _)
      · exact fe.m p hp⟩ (fun z0 z0 z0 q => q) he ⟨_, rfl⟩).sim
  exact S6.push fun z0 => .ref _
theorem Ex1_enum {elts : List Expr} {kk : Nat} {tp pos : Pos} {iter : Expr} {body : List Stmt} {st : St} {Qn : St → Prop} {Qr : PV → St → Prop} {Qc : St → Prop} (hs : ∀ v, foldedSetIterable iter V.env v = pure v)
    (h : Ev V n iter st fun p st1 => ∃ e it y ah, p = .ref e ∧ st1.ah = enAh e it y 0 ah ∧ EnT V n (.Tuple elts kk tp) body e it y ah (fun loc => Qn ⟨loc, ah⟩) y.cps.toList 0 st1.loc) : Ex1 V n (.For (.Tuple elts kk tp) iter body [] pos) st Qn Qr Qc := by
  intro A s hp hv E ok S
  refine wpAny_For (wpAny_mono (h A s hp hv E ok S) (fun v s1 hx => ?_) fun z0 z0 e => e) hs
  obtain ⟨p, ⟨loc1, ah1⟩, ⟨e, it, y, ah, rfl, hah, hT⟩, S1⟩ := hx
  obtain rfl : ah1 = enAh e it y 0 ah := hah
  obtain rfl := S1.ref1
  have S1 := S1.drop1
  refine x50 (Sim.two S1) fun oe oi m mu tl T => ?_
  obtain ⟨old, rfl⟩ := T.P
  refine wpAny_pyIter_enum T.ge ?_
  have ok := ok.own rfl
  refine codeAny_forLoop_any (EnI V n (.Tuple elts kk tp) body e it y ah (fun loc => Qn ⟨loc, ah⟩) hp hv) (fun j s2 hI => ?_) y.cps.size ⟨0, loc1, rfl, hT, S1⟩
  refine x22 hI.h fun k loc hj hT S2 => ?_
  refine enum_next (elts := elts) (kk := kk) (tp := tp) ok S2 (fun hz s3 S3 => ?_) (by exact (hj ▸ Nat.le_add_left _ _)) fun c hc v s3 hgo => ?_
  · rw [List.drop_of_length_le (by rw [Array.length_toList]; exact (Nat.le_of_eq hz.symm))] at hT
    exact wpAny_pure (i11 _ hT S3)
  · have hd : y.cps.toList.drop k = c :: y.cps.toList.drop (k + 1) := by
      have hk : k < y.cps.toList.length := by rw [Array.length_toList]; exact (Array.getElem?_eq_some_iff.mp hc).1
      rw [List.drop_eq_getElem_cons hk]
      congr 1
      have := (Array.getElem?_eq_some_iff.mp hc).2
      simpa using this
    rw [hd] at hT
    refine hgo _ _ fun s4 S4 => ?_
    refine wpAny_mono (hT A s4 hp hv _ v ok S4) (fun z0 s5 h5 => ?_) fun z0 z0 e => e
    refine x11 h5 fun st5 h5 S5 => ?_
    have hlt : k < y.cps.size := (Array.getElem?_eq_some_iff.mp hc).1
    refine wpAny_mono (h5 A s5 hp hv _ ok S5) (fun f s6 hf => ?_) fun z0 z0 e => e
    have step : (∃ st', (st'.ah = enAh e it y (k + 1) ah ∧ EnT V n (.Tuple elts kk tp) body e it y ah (fun loc => Qn ⟨loc, ah⟩) (y.cps.toList.drop (k + 1)) (k + 1) st'.loc) ∧ V.Sim st' hp hv (vw s6)) →
        ∃ m, m < j ∧ EnI V n (.Tuple elts kk tp) body e it y ah (fun loc => Qn ⟨loc, ah⟩) hp hv m s6 := fun hx => by
      obtain ⟨⟨l', a'⟩, ⟨ea, h3⟩, S7⟩ := hx
      obtain rfl : a' = enAh e it y (k + 1) ah := ea
      exact (i11 (j - 1) (by exact (a_j1 hj hlt)) ⟨k + 1, l', by exact (a_j2 hj hlt), h3, S7⟩)
    cases f with
    | next => exact step hf
    | cont => exact hf.elim fun z0 z => z.1.elim
    | brk => exact hf.elim
    | ret v => refine x21 hf fun pv st' hq S9 => ?_; exact hq.elim
theorem bo_enum : bootBuiltins "enumerate" = some (.type "enumerate") := by kernel_rfl
end Mine
end
section
open PySem PySem.W PyProof.Rows
set_option Elab.async false
set_option genCtorIdx false
set_option tactic.hygienic false
set_option genSizeOf false
set_option genInjectivity false
set_option maxRecDepth 100000
set_option maxHeartbeats 1000000
set_option linter.unusedVariables false
set_option linter.unusedSimpArgs false
namespace Mine

/-! ### a compact form of the text: names of locals are places -/
mutual
inductive PE where
  | var (i : Nat) (x : String)
  | int (i : Int)
  | str (l : List Nat)
  | bool (b : Bool)
  | none
  | bin (op : Operator) (a b : PE)
  | neg (a : PE)
  | not (a : PE)
  | cmp (op : CmpOp) (a b : PE)
  | and (a b : PE)
  | or (a b : PE)
  | andS (a b : PE)
  | orS (a b : PE)
  | ife (t a b : PE)
  | ifj (t a b : PE)
  | attr (o : PE) (x : String)
  | idx (o i : PE)
  | slice (o lo hi : PE)
  | tup (l : PL)
  | call (g : String) (l : PL)
  | len (a : PE)
  | abs (a : PE)
  | max (a b : PE)
  | isStr (a : PE)
  | isTup (a : PE)
  | lst (l : PL)
  | cat (a b : PE)
  | isPic (a : PE)
  | newPic
  | strI (a : PE)
  | rng (a : PE)
  | rep (i : Nat) (x key : String) (c : Nat)
  | dct (ks : List String) (l : PL)
inductive PL where
  | nil
  | cons (a : PE) (b : PL)
end

noncomputable def nth {α : Type} : List α → Nat → Option α
  | [], _ => .none
  | a :: _, 0 => some a
  | _ :: l, i + 1 => nth l i
noncomputable def putAt (p : PV) : Loc → Nat → Loc
  | [], _ => []
  | (x, _) :: l, 0 => (x, some p) :: l
  | e :: l, i + 1 => e :: putAt p l i
theorem nth_mem {α : Type} {a : α} : ∀ {l : List α} {i : Nat}, nth l i = some a → a ∈ l
  | _ :: _, 0, h => by cases h; exact .head _
  | _ :: _, i + 1, h => .tail _ (nth_mem (i := i) h)
theorem putAt_put {p : PV} {x : Str} {o : Option PV} : ∀ {l : Loc} {i : Nat}, nth l i = some (x, o) → Put x p l (putAt p l i)
  | _ :: _, 0, h => by cases h; exact .here
  | _ :: _, i + 1, h => .next (putAt_put (i := i) h)

structure FnP (C : Cx) (n : Nat) (g : Str) (args : List PV) (ah : AH) (Q : PV → AH → Prop) : Prop where
  h : Fn C n (adr C.K g) args ah Q

noncomputable abbrev Kon := PV → St → Prop
noncomputable def mulSide (a b : Int) : Prop := a.natAbs < 2 ^ 62 ∨ b.natAbs < 2 ^ 62
theorem bits62 {a : Int} (h : a.natAbs < 2 ^ 62) : Builtin.Int.intBits a ≤ 64 := intBits_le_64 (by omega) (by omega)
theorem mulSide_ok {a b : Int} (h : mulSide a b) : IntMulOk a b := h.elim (fun h => IntMulOk.of_left (bits62 h)) fun h => IntMulOk.of_right (bits62 h)

/-- what stands between the walk and its end -/
structure Side (P R : Prop) : Prop where
  p : P
  r : R
/-- a list's item -/
structure ItL (a : Addr) (k : Int) (st : St) (Q : Kon) : Prop where
  h : ∃ ps p, (a, AObj.list ps) ∈ st.ah ∧ ps.length ≤ 1000000 ∧ pIx ps k = some p ∧ Q p st
/-- a list's length -/
structure LenL (a : Addr) (st : St) (Q : Kon) : Prop where
  h : ∃ ps, (a, AObj.list ps) ∈ st.ah ∧ ps.length ≤ 1000000 ∧ Q (.int ps.length) st
/-- a dict's value -/
structure ItD (C : Cx) (a : Addr) (k : List Nat) (st : St) (Q : Kon) : Prop where
  h : ∃ (key : Str) (ps : List (Str × PV)) (p : PV), key.cps.toList = k ∧ (a, AObj.raw (DictIs C ps)) ∈ st.ah ∧ (key, p) ∈ ps ∧ Q p st
/-- a new range -/
structure NewR (k : Int) (st : St) (Q : Kon) : Prop where
  h : ∃ m : Nat, k = m ∧ ∀ a, a ∉ st.ah.map (·.1) → Q (.ref a) ⟨st.loc, (a, .raw (RngIs m)) :: st.ah⟩
/-- a dict written out -/
structure NewD (d : St → Addr → Prop) (st : St) : Prop where
  h : ∀ a, a ∉ st.ah.map (·.1) → d st a
structure PutD (C : Cx) (a : Addr) (ks : List String) (ps : List PV) (st : St) (Q : Kon) : Prop where
  i : ∀ p ∈ ps, Imm p
  h : ∃ ah', UpdH a (.raw (DictIs C [])) (.raw (DictIs C ((ks.map Str.ofString).zip ps))) st.ah ah' ∧ Q (.ref a) ⟨st.loc, ah'⟩
/-- a new list -/
structure NewL (ps : List PV) (st : St) (Q : Kon) : Prop where
  len : ps.length ≤ 1000000
  r : ∀ a, a ∉ st.ah.map (·.1) → Q (.ref a) ⟨st.loc, (a, .list ps) :: st.ah⟩
/-- two lists, one after the other -/
structure CatL (a b : Addr) (st : St) (Q : Kon) : Prop where
  h : ∃ ps qs, (a, AObj.list ps) ∈ st.ah ∧ (b, AObj.list qs) ∈ st.ah ∧ ps.length + qs.length ≤ 1000000 ∧ NewL (ps ++ qs) st Q
/-- an instance of the class -/
structure PicI (C : Cx) (a : Addr) (st : St) (R : Prop) : Prop where
  h : ∃ kvs, (a, AObj.inst (picA C) kvs) ∈ st.ah
  r : R
structure MakeW (C : Cx) (n : Nat) (st : St) (Q : Kon) : Prop where
  h : ∀ a, a ∉ st.ah.map (·.1) → Fn C (n - 1) (initAt C.K (picA C)) [.ref a] ((a, .inst (picA C) []) :: st.ah) fun p ah' => p = .none ∧ Q (.ref a) ⟨st.loc, ah'⟩
  n : 1 ≤ n
/-! #### what kind of value it is -/
noncomputable def onInt (x : PV) (k : Int → Prop) : Prop := match x with | .int i => k i | _ => False
noncomputable def onBool (x : PV) (k : Bool → Prop) : Prop := match x with | .bool i => k i | _ => False
noncomputable def onStr (x : PV) (k : List Nat → Prop) : Prop := match x with | .str i => k i | _ => False
noncomputable def onRef (x : PV) (k : Addr → Prop) : Prop := match x with | .ref i => k i | _ => False
noncomputable def onTup (x : PV) (k : List PV → Prop) : Prop := match x with | .tuple i => k i | _ => False
noncomputable def onSome {α : Type} (x : Option α) (k : α → Prop) : Prop := match x with | some i => k i | _ => False
noncomputable def onSign (x : List Nat) (k : Nat → Prop) : Prop := match x with | [c] => k c | _ => False
noncomputable def onLoc (x : Option (Str × Option PV)) (k : PV → Prop) : Prop := match x with | some (_, some p) => k p | _ => False
theorem onInt_inv {x : PV} {k : Int → Prop} (h : onInt x k) : ∃ i, x = .int i ∧ k i := by cases x <;> first | exact (i11 _ rfl h) | exact h.elim
theorem onBool_inv {x : PV} {k : Bool → Prop} (h : onBool x k) : ∃ i, x = .bool i ∧ k i := by cases x <;> first | exact (i11 _ rfl h) | exact h.elim
theorem onStr_inv {x : PV} {k : List Nat → Prop} (h : onStr x k) : ∃ i, x = .str i ∧ k i := by cases x <;> first | exact (i11 _ rfl h) | exact h.elim
theorem onRef_inv {x : PV} {k : Addr → Prop} (h : onRef x k) : ∃ i, x = .ref i ∧ k i := by cases x <;> first | exact (i11 _ rfl h) | exact h.elim
theorem onTup_inv {x : PV} {k : List PV → Prop} (h : onTup x k) : ∃ i, x = .tuple i ∧ k i := by cases x <;> first | exact (i11 _ rfl h) | exact h.elim
theorem onSome_inv {α : Type} {x : Option α} {k : α → Prop} (h : onSome x k) : ∃ i, x = some i ∧ k i := by cases x <;> first | exact (i11 _ rfl h) | exact h.elim
theorem onSign_inv {x : List Nat} {k : Nat → Prop} (h : onSign x k) : ∃ i, x = [i] ∧ k i := match x, h with | [c], h => (i11 c rfl h)
theorem onLoc_inv {x : Option (Str × Option PV)} {k : PV → Prop} (h : onLoc x k) : ∃ y p, x = some (y, some p) ∧ k p := match x, h with | some (y, some p), h => (i21 y p rfl h)
noncomputable def addW (x y : PV) (st : St) (Q : Kon) : Prop := match x with
  | .int a => onInt y fun b => Q (.int (a + b)) st
  | .str a => onStr y fun b => Side (a.length + b.length ≤ 1000000) (Q (.str (a ++ b)) st)
  | .tuple ps => onTup y fun qs => Side (ps ≠ [] ∧ qs ≠ [] ∧ ps.length + qs.length ≤ 1000) (Q (.tuple (ps ++ qs)) st)
  | _ => False
noncomputable def mulW (x y : PV) (st : St) (Q : Kon) : Prop := match x with
  | .int a => onInt y fun b => Side (mulSide a b) (Q (.int (a * b)) st)
  | .str a => onInt y fun k => Side (-1000000 < k ∧ k < 1000000 ∧ a.length * k.toNat ≤ 1000000) (Q (.str (pyMul a k)) st)
  | _ => False
noncomputable def BoW (op : Operator) (x y : PV) (st : St) (Q : Kon) : Prop := match op with
  | .Add => addW x y st Q
  | .Sub => onInt x fun a => onInt y fun b => Q (.int (a - b)) st
  | .Mult => mulW x y st Q
  | .FloorDiv => onInt x fun a => onInt y fun b => Side (0 < b ∧ b.natAbs.log2 < 9000) (Q (.int (a / b)) st)
  | .Mod => onInt x fun a => onInt y fun b => Side (0 < b) (Q (.int (a % b)) st)
  | .Pow => onInt x fun a => onInt y fun b => Side (0 ≤ b ∧ (Builtin.Int.intBits a : Int) * b ≤ 2 ^ 27) (Q (.int (a ^ b.toNat)) st)
  | _ => False
noncomputable def eqW (x y : PV) (st : St) (Q : Kon) : Prop := match x with
  | .int a => onInt y fun b => Q (.bool (decide (a = b))) st
  | .str a => onStr y fun b => Q (.bool (decide (a = b))) st
  | _ => False
noncomputable def neW (x y : PV) (st : St) (Q : Kon) : Prop := match x with
  | .int a => onInt y fun b => Q (.bool (!decide (a = b))) st
  | .str a => onStr y fun b => Q (.bool (!decide (a = b))) st
  | .bool a => onBool y fun c => Q (.bool (a != c)) st
  | _ => False
noncomputable def isW (p y : PV) (st : St) (Q : Kon) : Prop := match y with
  | .none => Q (.bool (match p with | .none => true | _ => false)) st
  | _ => False
noncomputable def inW (x y : PV) (st : St) (Q : Kon) : Prop := match y with
  | .tuple ps => onStr x fun a => onSome (allStr ps) fun ls => Q (.bool (ls.contains a)) st
  | .str t => onStr x fun a => onSign a fun c => Q (.bool (decide (c ∈ t))) st
  | _ => False
noncomputable def CoW (op : CmpOp) (x y : PV) (st : St) (Q : Kon) : Prop := match op with
  | .Eq => eqW x y st Q
  | .NotEq => neW x y st Q
  | .Lt => onInt x fun a => onInt y fun b => Q (.bool (decide (a < b))) st
  | .LtE => onInt x fun a => onInt y fun b => Q (.bool (decide (a ≤ b))) st
  | .Gt => onInt x fun a => onInt y fun b => Q (.bool (decide (b < a))) st
  | .GtE => onInt x fun a => onInt y fun b => Q (.bool (decide (b ≤ a))) st
  | .Is => isW x y st Q
  | .In => inW x y st Q
  | _ => False
noncomputable def IrW (C : Cx) (a : Addr) (i : PV) (st : St) (Q : Kon) : Prop := match i with
  | .int k => ItL a k st Q
  | .str k => ItD C a k st Q
  | _ => False
noncomputable def IdW (C : Cx) (x i : PV) (st : St) (Q : Kon) : Prop := match x with
  | .str t => onInt i fun k => Side (Small t ∧ -(t.length : Int) ≤ k ∧ k < t.length) (Q (.str [t.getD (pyIdx t.length k) 0]) st)
  | .ref a => IrW C a i st Q
  | .tuple ps => onInt i fun k => onSome (pIx ps k) fun p => Side (ps.length ≤ 1000000) (Q p st)
  | _ => False
noncomputable def CatW (x y : PV) (st : St) (Q : Kon) : Prop := onRef x fun a => onRef y fun b => CatL a b st Q
noncomputable def SlW (x l u : PV) (st : St) (Q : Kon) : Prop := onStr x fun t => onSome (oi l) fun i => onSome (oi u) fun j => Side (Small t) (Q (.str (pySlice i j t)) st)
noncomputable def lenW (x : PV) (st : St) (Q : Kon) : Prop := match x with
  | .str t => Side (Small t) (Q (.int t.length) st)
  | .tuple t => Side (t.length ≤ 1000000) (Q (.int t.length) st)
  | .ref a => LenL a st Q
  | _ => False
noncomputable def tupW (C : Cx) (x : PV) (st : St) (Q : Kon) : Prop := match x with
  | .ref a => PicI C a st (Q (.bool false) st)
  | .tuple _ => Q (.bool true) st
  | .int _ => Q (.bool false) st
  | .str _ => Q (.bool false) st
  | _ => False
noncomputable def picW (C : Cx) (x : PV) (st : St) (Q : Kon) : Prop := match x with
  | .ref a => PicI C a st (Q (.bool true) st)
  | .tuple _ => Q (.bool false) st
  | _ => False
noncomputable def joinW (c : Bool) (x y : PV) (st : St) (Q : Kon) : Prop := match x with
  | .str p => onStr y fun q => Q (.str (if c then p else q)) st
  | .int p => onInt y fun q => Q (.int (if c then p else q)) st
  | _ => False
/-- a field, at its place -/
inductive FieldIs (C : Cx) (ah : AH) (x : Str) : PV → PV → Prop
  | mk {a K kvs p} : (a, AObj.inst K kvs) ∈ ah → (x, p) ∈ kvs → FieldAt C K x → FieldIs C ah x (.ref a) p
structure AttrW (C : Cx) (o : PV) (x : Str) (st : St) (Q : Kon) : Prop where
  h : ∃ p, FieldIs C st.ah x o p ∧ Q p st
mutual
noncomputable def pure1 : PE → Bool
  | .var _ _ | .int _ | .str _ | .bool _ | .none => true
  | .bin op a b => pure1 a && pure1 b
  | .cmp _ a b => pure1 a && pure1 b
  | .neg a | .not a => pure1 a
  | .and a b | .or a b => pure1 a && pure1 b
  | .idx a b => pure1 a && pure1 b
  | .slice a b c => pure1 a && (pure1 b && pure1 c)
  | .tup l => pure1l l
  | .len a => pure1 a
  | .attr o _ => pure1 o
  | .ifj t a b => pure1 t && (pure1 a && pure1 b)
  | _ => false
noncomputable def pure1l : PL → Bool
  | .nil => true
  | .cons a b => pure1 a && pure1l b
end

mutual
noncomputable def W (C : Cx) (n : Nat) : PE → St → Kon → Prop
  | .var i _, st, Q => onLoc (nth st.loc i) fun p => Q p st
  | .int i, st, Q => Q (.int i) st
  | .str l, st, Q => Q (.str l) st
  | .bool b, st, Q => Q (.bool b) st
  | .none, st, Q => Q .none st
  | .bin op a b, st, Q => W C n a st fun x st1 => W C n b st1 fun y st2 => BoW op x y st2 Q
  | .neg a, st, Q => W C n a st fun x st1 => onInt x fun i => Q (.int (-i)) st1
  | .not a, st, Q => W C n a st fun x st1 => onBool x fun i => Q (.bool (!i)) st1
  | .cmp op a b, st, Q => W C n a st fun x st1 => W C n b st1 fun y st2 => CoW op x y st2 Q
  | .and a b, st, Q => W C n a st fun x st1 => onBool x fun c => W C n b st1 fun y st2 => onBool y fun d => Q (.bool (c && d)) st2
  | .or a b, st, Q => W C n a st fun x st1 => onBool x fun c => W C n b st1 fun y st2 => onBool y fun d => Q (.bool (c || d)) st2
  | .andS a b, st, Q => W C n a st fun x st1 => onBool x fun c => (c = true → W C n b st1 Q) ∧ (c = false → Q (.bool false) st1)
  | .orS a b, st, Q => W C n a st fun x st1 => onBool x fun c => (c = true → Q (.bool true) st1) ∧ (c = false → W C n b st1 Q)
  | .ife t a b, st, Q => W C n t st fun x st1 => onBool x fun c => (c = true → W C n a st1 Q) ∧ (c = false → W C n b st1 Q)
  | .ifj t a b, st, Q => W C n t st fun v st1 => onBool v fun c => W C n a st1 fun x st2 => W C n b st2 fun y st3 => joinW c x y st3 Q
  | .attr o x, st, Q => W C n o st fun v st1 => AttrW C v x st1 Q
  | .idx o i, st, Q => W C n o st fun x st1 => W C n i st1 fun j st2 => IdW C x j st2 Q
  | .slice o lo hi, st, Q => W C n o st fun x st1 => W C n lo st1 fun l st2 => W C n hi st2 fun u st3 => SlW x l u st3 Q
  | .tup l, st, Q => Wl C n l st fun ps st1 => Q (.tuple ps) st1
  | .call g l, st, Q => Wl C n l st fun ps st1 => FnP C n g ps st1.ah fun p ah' => Q p ⟨st1.loc, ah'⟩
  | .len a, st, Q => W C n a st fun x st1 => lenW x st1 Q
  | .abs a, st, Q => W C n a st fun x st1 => onInt x fun i => Q (.int (if i < 0 then -i else i)) st1
  | .max a b, st, Q => W C n a st fun x st1 => W C n b st1 fun y st2 => onInt x fun i => onInt y fun j => Q (.int (Max.max i j)) st2
  | .isStr a, st, Q => W C n a st fun x st1 => onSome (isStrPV x) fun b => Q (.bool b) st1
  | .isTup a, st, Q => W C n a st fun x st1 => tupW C x st1 Q
  | .lst l, st, Q => Wl C n l st fun ps st1 => NewL ps st1 Q
  | .cat a b, st, Q => W C n a st fun x st1 => W C n b st1 fun y st2 => CatW x y st2 Q
  | .isPic a, st, Q => W C n a st fun x st1 => picW C x st1 Q
  | .newPic, st, Q => MakeW C n st Q
  | .strI a, st, Q => W C n a st fun x st1 => onInt x fun i => Side (i.natAbs.log2 < 1920) (Q (.str (strI i)) st1)
  | .rng a, st, Q => W C n a st fun x st1 => onInt x fun i => NewR i st1 Q
  | .rep i _ key c, st, Q => onLoc (nth st.loc i) fun p => onRef p fun a => ItD C a (Str.ofString key).cps.toList st fun q z0 => onStr q fun t => Side (t.length ≤ 1000) (Q (.str (t.filter (· != c))) st)
  | .dct ks l, st, Q => NewD (fun st d => Wl C n l ⟨st.loc, (d, .raw (DictIs C [])) :: st.ah⟩ fun ps st1 => PutD C d ks ps st1 Q) st
noncomputable def Wl (C : Cx) (n : Nat) : PL → St → (List PV → St → Prop) → Prop
  | .nil, st, Q => Q [] st
  | .cons a b, st, Q => W C n a st fun p st1 => Wl C n b st1 fun ps st2 => Q (p :: ps) st2
end

/-! ### parts that change nothing -/
theorem and_l {a b : Bool} (h : (a && b) = true) : a = true := by cases a <;> first | rfl | exact h
theorem and_r {a b : Bool} (h : (a && b) = true) : b = true := by cases a <;> first | (cases h; done) | exact h
section
variable {C : Cx} {n : Nat}
theorem BoW_val {op : Operator} {x y : PV} {st : St} {Q : Kon} (h : BoW op x y st Q) : ∃ v, Q v st := by
  cases op with
  | Add =>
    cases x with
    | int a => refine x11 (onInt_inv h) fun b z0 h => ?_; exact ⟨_, h⟩
    | str a => refine x11 (onStr_inv h) fun b z0 h => ?_; exact ⟨_, h.r⟩
    | tuple a => refine x11 (onTup_inv h) fun b z0 h => ?_; exact ⟨_, h.r⟩
    | _ => exact h.elim
  | Mult =>
    cases x with
    | int a => refine x11 (onInt_inv h) fun b z0 h => ?_; exact ⟨_, h.r⟩
    | str a => refine x11 (onInt_inv h) fun b z0 h => ?_; exact ⟨_, h.r⟩
    | _ => exact h.elim
  | Sub => refine x11 (onInt_inv h) fun a z0 h => ?_; refine x11 (onInt_inv h) fun b z0 h => ?_; exact ⟨_, h⟩
  | FloorDiv => refine x11 (onInt_inv h) fun a z0 h => ?_; refine x11 (onInt_inv h) fun b z0 h => ?_; exact ⟨_, h.r⟩
  | Mod => refine x11 (onInt_inv h) fun a z0 h => ?_; refine x11 (onInt_inv h) fun b z0 h => ?_; exact ⟨_, h.r⟩
  | Pow => refine x11 (onInt_inv h) fun a z0 h => ?_; refine x11 (onInt_inv h) fun b z0 h => ?_; exact ⟨_, h.r⟩
  | _ => exact h.elim
theorem CoW_val {op : CmpOp} {x y : PV} {st : St} {Q : Kon} (h : CoW op x y st Q) : ∃ b, Q (.bool b) st := by
  cases op with
  | Eq =>
    cases x with
    | int a => refine x11 (onInt_inv h) fun b z0 h => ?_; exact ⟨_, h⟩
    | str a => refine x11 (onStr_inv h) fun b z0 h => ?_; exact ⟨_, h⟩
    | _ => exact h.elim
  | NotEq =>
    cases x with
    | int a => refine x11 (onInt_inv h) fun b z0 h => ?_; exact ⟨_, h⟩
    | str a => refine x11 (onStr_inv h) fun b z0 h => ?_; exact ⟨_, h⟩
    | bool a => refine x11 (onBool_inv h) fun b z0 h => ?_; exact ⟨_, h⟩
    | _ => exact h.elim
  | Is =>
    cases y with
    | none => exact ⟨_, h⟩
    | _ => exact h.elim
  | In =>
    cases y with
    | tuple ps => refine x11 (onStr_inv h) fun b z0 h => ?_; refine x11 (onSome_inv h) fun b z0 h => ?_; exact ⟨_, h⟩
    | str ps => refine x11 (onStr_inv h) fun b z0 h => ?_; refine x11 (onSign_inv h) fun b z0 h => ?_; exact ⟨_, h⟩
    | _ => exact h.elim
  | Lt => refine x11 (onInt_inv h) fun a z0 h => ?_; refine x11 (onInt_inv h) fun b z0 h => ?_; exact ⟨_, h⟩
  | LtE => refine x11 (onInt_inv h) fun a z0 h => ?_; refine x11 (onInt_inv h) fun b z0 h => ?_; exact ⟨_, h⟩
  | Gt => refine x11 (onInt_inv h) fun a z0 h => ?_; refine x11 (onInt_inv h) fun b z0 h => ?_; exact ⟨_, h⟩
  | GtE => refine x11 (onInt_inv h) fun a z0 h => ?_; refine x11 (onInt_inv h) fun b z0 h => ?_; exact ⟨_, h⟩
  | _ => exact h.elim
theorem IdW_val {x y : PV} {st : St} {Q : Kon} (h : IdW C x y st Q) : ∃ v, Q v st := by
  cases x with
  | str t => refine x11 (onInt_inv h) fun a z0 h => ?_; exact ⟨_, h.r⟩
  | ref t =>
    cases y with
    | int k => refine x23 h.h fun ps p z0 z0 z0 h => ?_; exact ⟨_, h⟩
    | str k => refine x33 h.h fun key ps p z0 z0 z0 h => ?_; exact ⟨_, h⟩
    | _ => exact h.elim
  | tuple t => refine x11 (onInt_inv h) fun a z0 h => ?_; refine x11 (onSome_inv h) fun p z0 h => ?_; exact ⟨_, h.r⟩
  | _ => exact h.elim
theorem SlW_val {x y z : PV} {st : St} {Q : Kon} (h : SlW x y z st Q) : ∃ v, Q v st := by
  refine x11 (onStr_inv h) fun a z0 h => ?_
  refine x11 (onSome_inv h) fun b z0 h => ?_
  refine x11 (onSome_inv h) fun c z0 h => ?_
  exact ⟨_, h.r⟩
theorem lenW_val {x : PV} {st : St} {Q : Kon} (h : lenW x st Q) : ∃ v, Q v st := by
  cases x with
  | str t => exact ⟨_, h.r⟩
  | tuple t => exact ⟨_, h.r⟩
  | ref t => refine x12 h.h fun ps z0 z0 h => ?_; exact ⟨_, h⟩
  | _ => exact h.elim
theorem joinW_val {c : Bool} {x y : PV} {st : St} {Q : Kon} (h : joinW c x y st Q) : ∃ v, Q v st := by
  cases x with
  | str t => refine x11 (onStr_inv h) fun a z0 h => ?_; exact ⟨_, h⟩
  | int t => refine x11 (onInt_inv h) fun a z0 h => ?_; exact ⟨_, h⟩
  | _ => exact h.elim
mutual
theorem W_pure : ∀ (e : PE), pure1 e = true → ∀ (st : St) (Q : Kon), W C n e st Q → ∃ v, Q v st
  | .var i _, _, st, Q, h => let ⟨_, _, _, h⟩ := onLoc_inv h; ⟨_, h⟩
  | .int _, _, st, Q, h => ⟨_, h⟩
  | .str _, _, st, Q, h => ⟨_, h⟩
  | .bool _, _, st, Q, h => ⟨_, h⟩
  | .none, _, st, Q, h => ⟨_, h⟩
  | .bin op a b, hp, st, Q, h => (W_pure a (and_l hp) st _ h).elim fun x h1 => (W_pure b (and_r hp) st _ h1).elim fun y h2 => BoW_val h2
  | .neg a, hp, st, Q, h => (W_pure a hp st _ h).elim fun x h1 => let ⟨_, _, h⟩ := onInt_inv h1; ⟨_, h⟩
  | .not a, hp, st, Q, h => (W_pure a hp st _ h).elim fun x h1 => let ⟨_, _, h⟩ := onBool_inv h1; ⟨_, h⟩
  | .cmp op a b, hp, st, Q, h => (W_pure a (and_l hp) st _ h).elim fun x h1 => (W_pure b (and_r hp) st _ h1).elim fun y h2 => (CoW_val h2).elim fun b h => ⟨_, h⟩
  | .and a b, hp, st, Q, h => (W_pure a (and_l hp) st _ h).elim fun x h1 => (onBool_inv h1).elim fun c h1 => (W_pure b (and_r hp) st _ h1.2).elim fun y h2 => (onBool_inv h2).elim fun d h => ⟨_, h.2⟩
  | .or a b, hp, st, Q, h => (W_pure a (and_l hp) st _ h).elim fun x h1 => (onBool_inv h1).elim fun c h1 => (W_pure b (and_r hp) st _ h1.2).elim fun y h2 => (onBool_inv h2).elim fun d h => ⟨_, h.2⟩
  | .ifj t a b, hp, st, Q, h => (W_pure t (and_l hp) st _ h).elim fun x h1 => (onBool_inv h1).elim fun c h1 => (W_pure a (and_l (and_r hp)) st _ h1.2).elim fun y h2 => (W_pure b (and_r (and_r hp)) st _ h2).elim fun z h3 => joinW_val h3
  | .attr o x, hp, st, Q, h => (W_pure o hp st _ h).elim fun v h1 => h1.h.elim fun p h => ⟨p, h.2⟩
  | .idx o i, hp, st, Q, h => (W_pure o (and_l hp) st _ h).elim fun x h1 => (W_pure i (and_r hp) st _ h1).elim fun y h2 => IdW_val h2
  | .slice o lo hi, hp, st, Q, h => (W_pure o (and_l hp) st _ h).elim fun x h1 => (W_pure lo (and_l (and_r hp)) st _ h1).elim fun y h2 => (W_pure hi (and_r (and_r hp)) st _ h2).elim fun z h3 => SlW_val h3
  | .tup l, hp, st, Q, h => (Wl_pure l hp st _ h).elim fun ps h => ⟨_, h⟩
  | .len a, hp, st, Q, h => (W_pure a hp st _ h).elim fun x h1 => lenW_val h1
theorem Wl_pure : ∀ (e : PL), pure1l e = true → ∀ (st : St) (Q : List PV → St → Prop), Wl C n e st Q → ∃ v, Q v st
  | .nil, _, st, Q, h => ⟨_, h⟩
  | .cons a b, hp, st, Q, h => (W_pure a (and_l hp) st _ h).elim fun x h1 => (Wl_pure b (and_r hp) st _ h1).elim fun y h2 => ⟨_, h2⟩
end
end
end Mine
end
section
open PySem PySem.W PyProof.Rows
set_option Elab.async false
set_option tactic.hygienic false
set_option genSizeOf false
set_option genInjectivity false
set_option maxRecDepth 100000
set_option maxHeartbeats 4000000
set_option linter.unusedVariables false
set_option linter.unusedSimpArgs false
namespace Mine
/-! ### the text, built again from its compact form: places and kinds come from the text itself -/
/-- what names the check knows -/
structure Ck where
  locs : List Str
  gls : List Str
  fns : List Str
  bs : List Str
noncomputable def dflP : Pos := ⟨0, 0, 0, 0⟩
noncomputable def dflE : Expr := .Name (Str.ofString "") dflP
noncomputable def kids (x : Expr) : List Expr := match x with
  | .BinOp l _ r _ => [l, r]
  | .UnaryOp _ x _ => [x]
  | .Compare l _ rs _ => l :: rs
  | .BoolOp _ xs _ => xs
  | .IfExp t a b _ => [t, a, b]
  | .Attribute v _ _ => [v]
  | .Subscript v s _ => [v, s]
  | .Slice a b _ _ => [a.getD dflE, b.getD dflE]
  | .Tuple xs _ _ => xs
  | .List xs _ => xs
  | .Call f xs _ _ => f :: xs
  | .Dict _ xs _ => xs
  | _ => []
noncomputable def dKeys (x : Expr) : List (Option Expr) := match x with
  | .Dict ks _ _ => ks
  | _ => []
noncomputable def kid (x : Expr) (i : Nat) : Expr := (nth (kids x) i).getD dflE
noncomputable def knd (x : Expr) : Nat := match x with
  | .Constant _ k _ => k
  | .Tuple _ k _ => k
  | _ => 0
noncomputable def tlE (xs : List Expr) : List Expr := match xs with
  | _ :: r => r
  | _ => []
noncomputable def hdE (xs : List Expr) : Expr := match xs with
  | x :: _ => x
  | _ => dflE
/-- the parts behind the first of and | or -/
noncomputable def rstB (op : BoolOp) (x : Expr) : Expr := match kids x with
  | _ :: b :: c :: r => .BoolOp op (b :: c :: r) x.pos
  | _ => kid x 1
noncomputable def flat (op : BoolOp) (p : Pos) (e : Expr) : List Expr := match e with
  | .BoolOp op' (b :: c :: r) p' => if op' = op ∧ p' = p then b :: c :: r else [e]
  | _ => [e]
noncomputable def optE (e : PE) (x : Expr) : Option Expr := match e with
  | .none => none
  | _ => some x
noncomputable def isVar (e : PE) : Bool := match e with
  | .var _ _ => true
  | _ => false
noncomputable def isCons (e : PL) : Bool := match e with
  | .cons _ _ => true
  | _ => false
noncomputable def rebK : List String → List (Option Expr) → List (Option Expr)
  | [], _ => []
  | k :: ks, xs => some (.Constant (.str (Str.ofString k)) (knd ((xs.head?.join).getD dflE)) ((xs.head?.join).getD dflE).pos) :: rebK ks xs.tail
noncomputable def cStr (l : List Nat) (x : Expr) : Expr := .Constant (.str ⟨l.toArray⟩) (knd x) x.pos
noncomputable def gName (g : String) (x : Expr) : Expr := .Name (Str.ofString g) (kid x 0).pos
mutual
noncomputable def reb : PE → Expr → Expr
  | .var _ s, x => .Name (Str.ofString s) x.pos
  | .int i, x => .Constant (.int i) (knd x) x.pos
  | .str l, x => .Constant (.str ⟨l.toArray⟩) (knd x) x.pos
  | .bool b, x => .Constant (.bool b) (knd x) x.pos
  | .none, x => .Constant .none (knd x) x.pos
  | .bin op a b, x => .BinOp (reb a (kid x 0)) op (reb b (kid x 1)) x.pos
  | .neg a, x => .UnaryOp .USub (reb a (kid x 0)) x.pos
  | .not a, x => .UnaryOp .Not (reb a (kid x 0)) x.pos
  | .cmp op a b, x => .Compare (reb a (kid x 0)) [op] [reb b (kid x 1)] x.pos
  | .and a b, x => .BoolOp .And (reb a (kid x 0) :: flat .And x.pos (reb b (rstB .And x))) x.pos
  | .or a b, x => .BoolOp .Or (reb a (kid x 0) :: flat .Or x.pos (reb b (rstB .Or x))) x.pos
  | .andS a b, x => .BoolOp .And (reb a (kid x 0) :: flat .And x.pos (reb b (rstB .And x))) x.pos
  | .orS a b, x => .BoolOp .Or (reb a (kid x 0) :: flat .Or x.pos (reb b (rstB .Or x))) x.pos
  | .ife t a b, x => .IfExp (reb t (kid x 0)) (reb a (kid x 1)) (reb b (kid x 2)) x.pos
  | .ifj t a b, x => .IfExp (reb t (kid x 0)) (reb a (kid x 1)) (reb b (kid x 2)) x.pos
  | .attr o s, x => .Attribute (reb o (kid x 0)) (Str.ofString s) x.pos
  | .idx o i, x => .Subscript (reb o (kid x 0)) (reb i (kid x 1)) x.pos
  | .slice o lo hi, x => .Subscript (reb o (kid x 0)) (.Slice (optE lo (reb lo (kid (kid x 1) 0))) (optE hi (reb hi (kid (kid x 1) 1))) none (kid x 1).pos) x.pos
  | .tup l, x => .Tuple (rebl l (kids x)) (knd x) x.pos
  | .call g l, x => .Call (gName g x) (rebl l (tlE (kids x))) [] x.pos
  | .len a, x => .Call (gName "len" x) [reb a (kid x 1)] [] x.pos
  | .abs a, x => .Call (gName "abs" x) [reb a (kid x 1)] [] x.pos
  | .max a b, x => .Call (gName "max" x) [reb a (kid x 1), reb b (kid x 2)] [] x.pos
  | .isStr a, x => .Call (gName "isinstance" x) [reb a (kid x 1), .Name (Str.ofString "str") (kid x 2).pos] [] x.pos
  | .isTup a, x => .Call (gName "isinstance" x) [reb a (kid x 1), .Name (Str.ofString "tuple") (kid x 2).pos] [] x.pos
  | .isPic a, x => .Call (gName "isinstance" x) [reb a (kid x 1), .Name (Str.ofString "Picture") (kid x 2).pos] [] x.pos
  | .lst l, x => .List (rebl l (kids x)) x.pos
  | .cat a b, x => .BinOp (reb a (kid x 0)) .Add (reb b (kid x 1)) x.pos
  | .newPic, x => .Call (gName "Picture" x) [] [] x.pos
  | .strI a, x => .Call (gName "str" x) [reb a (kid x 1)] [] x.pos
  | .rng a, x => .Call (gName "range" x) [reb a (kid x 1)] [] x.pos
  | .rep _ s key c, x => .Call (.Attribute (.Subscript (.Name (Str.ofString s) (kid (kid (kid x 0) 0) 0).pos) (.Constant (.str (Str.ofString key)) (knd (kid (kid (kid x 0) 0) 1)) (kid (kid (kid x 0) 0) 1).pos) (kid (kid x 0) 0).pos) (Str.ofString "replace") (kid x 0).pos) [cStr [c] (kid x 1), cStr [] (kid x 2)] [] x.pos
  | .dct ks l, x => .Dict (rebK ks (dKeys x)) (rebl l (kids x)) x.pos
noncomputable def rebl : PL → List Expr → List Expr
  | .cons a b, xs => reb a (hdE xs) :: rebl b (tlE xs)
  | .nil, _ => []
end
mutual
/-- what is asked of the names -/
noncomputable def okE (k : Ck) : PE → Expr → Bool
  | .var i s, _ => nth k.locs i == some (Str.ofString s)
  | .int _, _ | .str _, _ | .bool _, _ | .none, _ => true
  | .bin _ a b, x => okE k a (kid x 0) && okE k b (kid x 1)
  | .neg a, x => okE k a (kid x 0)
  | .not a, x => okE k a (kid x 0)
  | .cmp _ a b, x => okE k a (kid x 0) && okE k b (kid x 1)
  | .and a b, x => pure1 b && (okE k a (kid x 0) && okE k b (rstB .And x))
  | .or a b, x => pure1 b && (okE k a (kid x 0) && okE k b (rstB .Or x))
  | .andS a b, x => okE k a (kid x 0) && okE k b (rstB .And x)
  | .orS a b, x => okE k a (kid x 0) && okE k b (rstB .Or x)
  | .ife t a b, x => okE k t (kid x 0) && (okE k a (kid x 1) && okE k b (kid x 2))
  | .ifj t a b, x => (pure1 a && pure1 b) && (okE k t (kid x 0) && (okE k a (kid x 1) && okE k b (kid x 2)))
  | .attr o _, x => isVar o && okE k o (kid x 0)
  | .idx o i, x => okE k o (kid x 0) && okE k i (kid x 1)
  | .slice o lo hi, x => okE k o (kid x 0) && (okE k lo (kid (kid x 1) 0) && okE k hi (kid (kid x 1) 1))
  | .tup l, x => decide (1000 ≥ (rebl l (kids x)).length) && okl k l (kids x)
  | .call g l, x => (k.gls.contains (Str.ofString g) && (k.fns.contains (Str.ofString g) && isCons l)) && okl k l (tlE (kids x))
  | .len a, x => (k.gls.contains (Str.ofString "len") && k.bs.contains (Str.ofString "len")) && okE k a (kid x 1)
  | .abs a, x => (k.gls.contains (Str.ofString "abs") && k.bs.contains (Str.ofString "abs")) && okE k a (kid x 1)
  | .max a b, x => (k.gls.contains (Str.ofString "max") && k.bs.contains (Str.ofString "max")) && (okE k a (kid x 1) && okE k b (kid x 2))
  | .isStr a, x => ((k.gls.contains (Str.ofString "isinstance") && k.bs.contains (Str.ofString "isinstance")) && (k.gls.contains (Str.ofString "str") && k.bs.contains (Str.ofString "str"))) && okE k a (kid x 1)
  | .isTup a, x => ((k.gls.contains (Str.ofString "isinstance") && k.bs.contains (Str.ofString "isinstance")) && (k.gls.contains (Str.ofString "tuple") && k.bs.contains (Str.ofString "tuple"))) && okE k a (kid x 1)
  | .isPic a, x => ((k.gls.contains (Str.ofString "isinstance") && k.bs.contains (Str.ofString "isinstance")) && k.gls.contains (Str.ofString "Picture")) && okE k a (kid x 1)
  | .lst l, x => okl k l (kids x)
  | .cat a b, x => okE k a (kid x 0) && okE k b (kid x 1)
  | .newPic, _ => k.gls.contains (Str.ofString "Picture")
  | .strI a, x => (k.gls.contains (Str.ofString "str") && k.bs.contains (Str.ofString "str")) && okE k a (kid x 1)
  | .rng a, x => (k.gls.contains (Str.ofString "range") && k.bs.contains (Str.ofString "range")) && okE k a (kid x 1)
  | .rep i s _ _, x => (nth k.locs i == some (Str.ofString s)) && (kid x 0).pos.endLine == x.pos.line
  | .dct ks l, x => decide (ks ≠ [] ∧ ks.length ≤ 15 ∧ (ks.map Str.ofString).Nodup ∧ (rebl l (kids x)).length = ks.length) && okl k l (kids x)
noncomputable def okl (k : Ck) : PL → List Expr → Bool
  | .nil, _ => true
  | .cons a b, xs => okE k a (hdE xs) && okl k b (tlE xs)
end
section
variable {C : Cx} {F : FnI} {V : Act C F} {n : Nat} {ss : List Stmt} {fns bs fields : List Str}
theorem reb_star (e : PE) (x : Expr) (env : Env) (r : List Expr) : starEach (reb e x :: r) env = (false, eval (reb e x) env) :: starEach r env := by cases e <;> rfl
theorem reb_behind (e : PE) (x : Expr) (op : CmpOp) : behindInMarks op (reb e x) = false := by cases e <;> rfl
theorem rebl_star {k : Ck} {env : Env} {pos : Pos} : ∀ (l : PL) (xs : List Expr), (backTo pos (starEach (rebl l xs) env)).any (·.1) = false
  | .cons a b, xs => by
    show (backTo pos (starEach (reb a (hdE xs) :: rebl b (tlE xs)) env)).any (·.1) = false
    rw [reb_star]
    show (false || (backTo pos (starEach (rebl b (tlE xs)) env)).any (·.1)) = false
    rw [rebl_star (k := k) b (tlE xs)]; rfl
  | .nil, _ => rfl
theorem flat_two (op : BoolOp) (p : Pos) (e : Expr) : (∃ b c r, e = .BoolOp op (b :: c :: r) p ∧ flat op p e = b :: c :: r) ∨ flat op p e = [e] := by
  cases e with
  | BoolOp op' xs p' =>
    cases xs with
    | nil => exact .inr rfl
    | cons b xs => cases xs with
      | nil => exact .inr rfl
      | cons c r =>
        by_cases h : op' = op ∧ p' = p
        · obtain ⟨rfl, rfl⟩ := h
          exact .inl (i31 b c r rfl (if_pos ⟨rfl, rfl⟩))
        · exact .inr (if_neg h)
  | _ => exact .inr rfl
noncomputable abbrev FnI.ck (F : FnI) (fns bs : List Str) : Ck := ⟨F.locs, F.gls, fns, bs⟩
theorem nth_loc {loc : Loc} {x y : Str} {p : PV} {i : Nat} {locs : List Str} (hn : loc.map (·.1) = locs) (h1 : nth locs i = some x) (h2 : nth loc i = some (y, some p)) : (x, some p) ∈ loc := by
  have : nth (loc.map (·.1)) i = some y := by
    clear hn h1
    induction loc generalizing i with
    | nil => cases h2
    | cons a l ih =>
      cases i with
      | zero => cases h2; rfl
      | succ i => exact ih h2
  rw [hn, h1] at this
  cases this
  exact nth_mem h2
theorem Ev_var {i : Nat} {x : Str} {pos : Pos} {st : St} {Q : Kon} (h1 : nth F.locs i = some x) (h : onLoc (nth st.loc i) fun p => Q p st) : Ev V n (.Name x pos) st Q := by
  intro A s hp hv E ok S
  refine x21 (onLoc_inv h) fun y p hn h => ?_
  refine x30 (id S) fun m mu tl S0 => ?_
  exact Ev_local (nth_loc S0.nm h1 hn) h A s hp hv E ok S
theorem BoW_ok {op : Operator} {x y : PV} {st : St} {Q : Kon} (h : BoW op x y st Q) : Bo V n op x y st Q := by
  cases op with
  | Add =>
    cases x with
    | int a => refine x11 (onInt_inv h) fun b ez0 h => ?_; obtain rfl := ez0; exact Bo_add_int h
    | str a => refine x11 (onStr_inv h) fun b ez0 h => ?_; obtain rfl := ez0; exact Bo_add_str h.p h.r
    | tuple a => refine x11 (onTup_inv h) fun b ez0 h => ?_; obtain rfl := ez0; exact Bo_add_tup h.p.1 h.p.2.1 h.p.2.2 h.r
    | _ => exact h.elim
  | Mult =>
    cases x with
    | int a => refine x11 (onInt_inv h) fun b ez0 h => ?_; obtain rfl := ez0; exact Bo_mul_int (mulSide_ok h.p) h.r
    | str a => refine x11 (onInt_inv h) fun b ez0 h => ?_; obtain rfl := ez0; exact Bo_mul_str h.p.2.1 h.p.2.2 h.r h.p.1
    | _ => exact h.elim
  | Sub => refine x11 (onInt_inv h) fun a ez0 h => ?_; obtain rfl := ez0; refine x11 (onInt_inv h) fun b ez0 h => ?_; obtain rfl := ez0; exact Bo_sub_int h
  | FloorDiv => refine x11 (onInt_inv h) fun a ez0 h => ?_; obtain rfl := ez0; refine x11 (onInt_inv h) fun b ez0 h => ?_; obtain rfl := ez0; exact Bo_div_int h.p.1 h.p.2 h.r
  | Mod => refine x11 (onInt_inv h) fun a ez0 h => ?_; obtain rfl := ez0; refine x11 (onInt_inv h) fun b ez0 h => ?_; obtain rfl := ez0; exact Bo_mod_int h.p h.r
  | Pow => refine x11 (onInt_inv h) fun a ez0 h => ?_; obtain rfl := ez0; refine x11 (onInt_inv h) fun b ez0 h => ?_; obtain rfl := ez0; exact Bo_pow_int h.p.1 h.p.2 h.r
  | _ => exact h.elim
theorem CoW_ok {op : CmpOp} {x y : PV} {st : St} {Q : Kon} (h : CoW op x y st Q) : Co V n op x y st fun b => Q (.bool b) := by
  cases op with
  | Eq =>
    cases x with
    | int a => refine x11 (onInt_inv h) fun b ez0 h => ?_; obtain rfl := ez0; exact Co_eq_int h
    | str a => refine x11 (onStr_inv h) fun b ez0 h => ?_; obtain rfl := ez0; exact Co_eq_str h
    | _ => exact h.elim
  | NotEq =>
    cases x with
    | int a => refine x11 (onInt_inv h) fun b ez0 h => ?_; obtain rfl := ez0; exact Co_ne_int h
    | str a => refine x11 (onStr_inv h) fun b ez0 h => ?_; obtain rfl := ez0; exact Co_ne_str h
    | bool a => refine x11 (onBool_inv h) fun b ez0 h => ?_; obtain rfl := ez0; exact Co_ne_bool h
    | _ => exact h.elim
  | Is =>
    cases y with
    | none => exact Co_is_none _ rfl h
    | _ => exact h.elim
  | In =>
    cases y with
    | tuple ps => refine x11 (onStr_inv h) fun b ez0 h => ?_; obtain rfl := ez0; refine x11 (onSome_inv h) fun b e h => ?_; exact Co_in_tuple e h
    | str ps => refine x11 (onStr_inv h) fun b ez0 h => ?_; obtain rfl := ez0; refine x11 (onSign_inv h) fun b ez0 h => ?_; obtain rfl := ez0; exact Co_in_one h
    | _ => exact h.elim
  | Lt => refine x11 (onInt_inv h) fun a ez0 h => ?_; obtain rfl := ez0; refine x11 (onInt_inv h) fun b ez0 h => ?_; obtain rfl := ez0; exact Co_lt_int h
  | LtE => refine x11 (onInt_inv h) fun a ez0 h => ?_; obtain rfl := ez0; refine x11 (onInt_inv h) fun b ez0 h => ?_; obtain rfl := ez0; exact Co_le_int h
  | Gt => refine x11 (onInt_inv h) fun a ez0 h => ?_; obtain rfl := ez0; refine x11 (onInt_inv h) fun b ez0 h => ?_; obtain rfl := ez0; exact Co_gt_int h
  | GtE => refine x11 (onInt_inv h) fun a ez0 h => ?_; obtain rfl := ez0; refine x11 (onInt_inv h) fun b ez0 h => ?_; obtain rfl := ez0; exact Co_ge_int h
  | _ => exact h.elim
theorem IdW_ok {x y : PV} {st : St} {Q : Kon} (h : IdW C x y st Q) : Gi V n x y st Q := by
  cases x with
  | str t => refine x11 (onInt_inv h) fun a ez0 h => ?_; obtain rfl := ez0; exact Gi_str h.p.1 h.p.2.1 h.p.2.2 h.r
  | ref t =>
    cases y with
    | int k => refine x23 h.h fun ps p h1 h2 h3 h => ?_; exact Gi_list h1 h2 h3 h
    | str k => refine x33 h.h fun key ps p ez0 h1 h2 h7 => ?_; obtain rfl := ez0; exact Gi_dict h1 h2 h7
    | _ => exact h.elim
  | tuple t => refine x11 (onInt_inv h) fun a ez0 h => ?_; obtain rfl := ez0; refine x11 (onSome_inv h) fun p e h => ?_; exact Gi_tuple h.p e h.r
  | _ => exact h.elim
theorem SlW_ok {x l u : PV} {st : St} {Q : Kon} (h : SlW x l u st Q) : ∃ t a b, x = .str t ∧ oi l = some a ∧ oi u = some b ∧ Small t ∧ Q (.str (pySlice a b t)) st := by
  refine x11 (onStr_inv h) fun t ez0 h => ?_
  obtain rfl := ez0
  refine x11 (onSome_inv h) fun a e1 h => ?_
  refine x11 (onSome_inv h) fun b e2 h => ?_
  exact (i34 t a b rfl e1 e2 h.p h.r)
theorem lenW_ok {x : PV} {st : St} {Q : Kon} (h : lenW x st Q) : Ca V n (.builtin "len") [x] st Q := by
  cases x with
  | str t => exact Ca_len_str h.p h.r
  | tuple t => exact Ca_len_tuple h.p h.r
  | ref t => refine x12 h.h fun ps h1 h2 h => ?_; exact Ca_len_list h1 h2 h
  | _ => exact h.elim
theorem Tt_of_Ev {x : Expr} {st : St} {Q : Kon} (h : Ev V n x st Q) (hq : ∀ p st, Q p st → ∃ b, p = .bool b) (he : ∀ whole, isTrue x V.env whole = (do let v ← whole; standAt x.pos; holding [v] (truthy v))) : Tt V n x st fun b st' => Q (.bool b) st' :=
  Tt_plain (h.mono fun p st' hp => by obtain ⟨b, rfl⟩ := hq p st' hp; exact (i11 b rfl hp)) he
theorem Es.mono {e : List Expr} {st : St} {Q Q' : List PV → St → Prop} (h : Es V n e st Q) (hq : ∀ p st', Q p st' → Q' p st') : Es V n e st Q' := fun A s hp hv E pos ok S => wpAny_mono (h A s hp hv E pos ok S) (fun v s1 h1 => h1.elim fun p h1 => h1.elim fun st1 h1 => (i21 p st1 (hq _ _ h1.1) h1.2)) fun z0 z0 e => e
noncomputable def Both (V : Act C F) (n : Nat) (e : PE) (x : Expr) : Prop := (∀ (st : St) (Q : Kon), W C n e st Q → Ev V n x st Q) ∧
  (∀ (st : St) (Q : Kon), W C n e st Q → (∀ p st, Q p st → ∃ b, p = .bool b) → Tt V n x st fun b st' => Q (.bool b) st')
theorem both {e : PE} {x : Expr} (h : ∀ (st : St) (Q : Kon), W C n e st Q → Ev V n x st Q) (he : ∀ whole, isTrue x V.env whole = (do let v ← whole; standAt x.pos; holding [v] (truthy v))) : Both V n e x := ⟨h, fun st Q hw hq => Tt_of_Ev (h st Q hw) hq he⟩
theorem Tt_one_and {x : Expr} {p : Pos} {st : St} {Q : Bool → St → Prop} (h : Tt V n x st Q) : Tt V n (.BoolOp .And [x] p) st Q :=
  Tt_and (h.mono fun b st1 hb => ⟨fun q => Tt_and0 (q ▸ hb), fun q => q ▸ hb⟩)
theorem Tt_one_or {x : Expr} {p : Pos} {st : St} {Q : Bool → St → Prop} (h : Tt V n x st Q) : Tt V n (.BoolOp .Or [x] p) st Q :=
  Tt_or (h.mono fun b st1 hb => ⟨fun q => q ▸ hb, fun q => Tt_or0 (q ▸ hb)⟩)
theorem flat_and {b : PE} {x : Expr} {p : Pos} (h : Both V n b x) : ∃ z r, flat .And p x = z :: r ∧ Both V n b (.BoolOp .And (z :: r) p) := by
  rcases flat_two .And p x with ⟨z, c, r, rfl, e⟩ | e
  · exact (i21 z (c :: r) e h)
  · exact (i22 x [] e (fun st Q hq => Ev_and1 (h.1 st Q hq)) (fun st Q hq h2 => Tt_one_and (h.2 st Q hq h2)))
theorem flat_or {b : PE} {x : Expr} {p : Pos} (h : Both V n b x) : ∃ z r, flat .Or p x = z :: r ∧ Both V n b (.BoolOp .Or (z :: r) p) := by
  rcases flat_two .Or p x with ⟨z, c, r, rfl, e⟩ | e
  · exact (i21 z (c :: r) e h)
  · exact (i22 x [] e (fun st Q hq => Ev_and1 (h.1 st Q hq)) (fun st Q hq h2 => Tt_one_or (h.2 st Q hq h2)))
theorem both_andS {a b : PE} {x z : Expr} {r : List Expr} {p : Pos} (ha : Both V n a x) (hb : Both V n b (.BoolOp .And (z :: r) p)) : Both V n (.andS a b) (.BoolOp .And (x :: z :: r) p) := by
  refine ⟨fun st Q h => Ev_and ((ha.1 st _ h).mono fun u st1 h1 => ?_), fun st Q h hq => Tt_and ((ha.2 st _ h fun p st hp => (onBool_inv hp).elim fun b h => ⟨b, h.1⟩).mono fun c st1 h1 => ?_)⟩
  · refine x11 (onBool_inv h1) fun c ez0 h1 => ?_
    obtain rfl := ez0
    exact (i12 c rfl (fun q => hb.1 st1 _ (h1.1 q)) h1.2)
  · exact ⟨fun q => hb.2 st1 _ (h1.1 q) hq, h1.2⟩
theorem both_orS {a b : PE} {x z : Expr} {r : List Expr} {p : Pos} (ha : Both V n a x) (hb : Both V n b (.BoolOp .Or (z :: r) p)) : Both V n (.orS a b) (.BoolOp .Or (x :: z :: r) p) := by
  refine ⟨fun st Q h => Ev_or ((ha.1 st _ h).mono fun u st1 h1 => ?_), fun st Q h hq => Tt_or ((ha.2 st _ h fun p st hp => (onBool_inv hp).elim fun b h => ⟨b, h.1⟩).mono fun c st1 h1 => ?_)⟩
  · refine x11 (onBool_inv h1) fun c ez0 h1 => ?_
    obtain rfl := ez0
    exact (i12 c rfl h1.1 (fun q => hb.1 st1 _ (h1.2 q)))
  · exact ⟨h1.1, fun q => hb.2 st1 _ (h1.2 q) hq⟩
theorem both_and {a b : PE} {x z : Expr} {r : List Expr} {p : Pos} (hp : pure1 b = true) (ha : Both V n a x) (hb : Both V n b (.BoolOp .And (z :: r) p)) : Both V n (.and a b) (.BoolOp .And (x :: z :: r) p) := by
  have no : ∀ {c : Bool} {st1 : St} {Q : Kon}, (W C n b st1 fun y st2 => onBool y fun d => Q (.bool (c && d)) st2) → c = false → Q (.bool false) st1 := fun h q => by
    subst q
    obtain ⟨v, h2⟩ := W_pure b hp _ _ h
    refine x11 (onBool_inv h2) fun d ez0 h2 => ?_
    obtain rfl := ez0
    exact h2
  refine ⟨fun st Q h => Ev_and ((ha.1 st _ h).mono fun u st1 h1 => ?_), fun st Q h hq => Tt_and ((ha.2 st _ h fun p st hp => (onBool_inv hp).elim fun b h => ⟨b, h.1⟩).mono fun c st1 h1 => ⟨fun q => ?_, no h1⟩)⟩
  · refine x11 (onBool_inv h1) fun c ez0 h1 => ?_
    obtain rfl := ez0
    refine (i12 c rfl (fun q => (hb.1 st1 _ h1).mono fun v st2 h2 => ?_) (no h1))
    refine x11 (onBool_inv h2) fun d ez0 h2 => ?_
    obtain rfl := ez0
    subst q; exact h2
  · subst q
    exact hb.2 st1 (fun y st2 => onBool y fun d => Q (.bool (true && d)) st2) h1 fun p st hp => (onBool_inv hp).elim fun b h => ⟨b, h.1⟩
theorem both_or {a b : PE} {x z : Expr} {r : List Expr} {p : Pos} (hp : pure1 b = true) (ha : Both V n a x) (hb : Both V n b (.BoolOp .Or (z :: r) p)) : Both V n (.or a b) (.BoolOp .Or (x :: z :: r) p) := by
  have no : ∀ {c : Bool} {st1 : St} {Q : Kon}, (W C n b st1 fun y st2 => onBool y fun d => Q (.bool (c || d)) st2) → c = true → Q (.bool true) st1 := fun h q => by
    subst q
    obtain ⟨v, h2⟩ := W_pure b hp _ _ h
    refine x11 (onBool_inv h2) fun d ez0 h2 => ?_
    obtain rfl := ez0
    exact h2
  refine ⟨fun st Q h => Ev_or ((ha.1 st _ h).mono fun u st1 h1 => ?_), fun st Q h hq => Tt_or ((ha.2 st _ h fun p st hp => (onBool_inv hp).elim fun b h => ⟨b, h.1⟩).mono fun c st1 h1 => ⟨no h1, fun q => ?_⟩)⟩
  · refine x11 (onBool_inv h1) fun c ez0 h1 => ?_
    obtain rfl := ez0
    refine (i12 c rfl (no h1) (fun q => (hb.1 st1 _ h1).mono fun v st2 h2 => ?_))
    refine x11 (onBool_inv h2) fun d ez0 h2 => ?_
    obtain rfl := ez0
    subst q; exact h2
  · subst q
    exact hb.2 st1 (fun y st2 => onBool y fun d => Q (.bool (false || d)) st2) h1 fun p st hp => (onBool_inv hp).elim fun b h => ⟨b, h.1⟩
theorem both_ife {t a b : PE} {x y z : Expr} {p : Pos} (ht : Both V n t x) (ha : Both V n a y) (hb : Both V n b z) : Both V n (.ife t a b) (.IfExp x y z p) :=
  ⟨fun st Q h => Ev_ifexp ((ht.2 st _ h fun p st hp => (onBool_inv hp).elim fun b h => ⟨b, h.1⟩).mono fun c st1 h1 => ⟨fun q => ha.1 st1 _ (h1.1 q), fun q => hb.1 st1 _ (h1.2 q)⟩),
    fun st Q h hq => Tt_ifexp ((ht.2 st _ h fun p st hp => (onBool_inv hp).elim fun b h => ⟨b, h.1⟩).mono fun c st1 h1 => ⟨fun q => ha.2 st1 _ (h1.1 q) hq, fun q => hb.2 st1 _ (h1.2 q) hq⟩)⟩
theorem join_l {x y : PV} {st : St} {Q : Kon} (h : joinW true x y st Q) : Q x st := by
  cases x with
  | str t => refine x11 (onStr_inv h) fun a ez0 h => ?_; obtain rfl := ez0; exact h
  | int t => refine x11 (onInt_inv h) fun a ez0 h => ?_; obtain rfl := ez0; exact h
  | _ => exact h.elim
theorem join_r {x y : PV} {st : St} {Q : Kon} (h : joinW false x y st Q) : Q y st := by
  cases x with
  | str t => refine x11 (onStr_inv h) fun a ez0 h => ?_; obtain rfl := ez0; exact h
  | int t => refine x11 (onInt_inv h) fun a ez0 h => ?_; obtain rfl := ez0; exact h
  | _ => exact h.elim
theorem join_no {c : Bool} {x y : PV} {st : St} {Q : Kon} (h : joinW c x y st Q) (hq : ∀ p st, Q p st → ∃ b, p = .bool b) : False := by
  cases x with
  | str t => refine x11 (onStr_inv h) fun a ez0 h => ?_; obtain rfl := ez0; obtain ⟨_, e⟩ := hq _ _ h; cases e
  | int t => refine x11 (onInt_inv h) fun a ez0 h => ?_; obtain rfl := ez0; obtain ⟨_, e⟩ := hq _ _ h; cases e
  | _ => exact h.elim
theorem both_ifj {t a b : PE} {x y z : Expr} {p : Pos} (p1 : pure1 a = true) (p2 : pure1 b = true) (ht : Both V n t x) (ha : Both V n a y) (hb : Both V n b z) : Both V n (.ifj t a b) (.IfExp x y z p) := by
  refine ⟨fun st Q h => Ev_ifexp ((ht.2 st _ h fun p st hp => (onBool_inv hp).elim fun b h => ⟨b, h.1⟩).mono fun c st1 h1 => ⟨fun q => (ha.1 st1 _ h1).mono fun x st2 h5 => ?_, fun q => ?_⟩),
    fun st Q h hq => Tt_ifexp ((ht.2 st _ h fun p st hp => (onBool_inv hp).elim fun b h => ⟨b, h.1⟩).mono fun c st1 h1 => ?_)⟩
  · obtain ⟨y, h6⟩ := W_pure b p2 st2 _ h5
    subst q; exact join_l h6
  · obtain ⟨x, h5⟩ := W_pure a p1 st1 _ h1
    refine (hb.1 st1 _ h5).mono fun y st2 h6 => ?_
    subst q; exact join_r h6
  · obtain ⟨x, h5⟩ := W_pure a p1 _ _ h1
    obtain ⟨y, h6⟩ := W_pure b p2 _ _ h5
    exact (join_no h6 hq).elim
theorem Es_one {x : Expr} {st : St} {Q : List PV → St → Prop} (h : Ev V n x st fun p st1 => Q [p] st1) (he : starEach [x] V.env = (false, eval x V.env) :: starEach [] V.env) : Es V n [x] st Q := Es_cons (h.mono fun p st1 h1 => Es_nil h1) he
theorem cut_ok {o lo hi : PE} {x y z : Expr} {pp p : Pos} (ho : Both V n o x) (hl : Both V n lo y) (hh : Both V n hi z) : Both V n (.slice o lo hi) (.Subscript x (.Slice (optE lo y) (optE hi z) none pp) p) := by
  refine both (fun st Q h => Ev_slice ((ho.1 st _ h).mono fun x st1 h1 => ?_)) (fun z0 => rfl)
  have l : ∀ (e : PE) (w : Expr) (st : St) (Q : Kon), Both V n e w → W C n e st Q → Eo V n (optE e w) st Q := fun e w st Q hb h => by
    cases e <;> first | exact h | exact hb.1 st Q h
  have up : ∀ (o : Option Expr) {st : St} {Q Q' : Kon}, Eo V n o st Q → (∀ p st, Q p st → Q' p st) → Eo V n o st Q' := fun o {st Q Q'} h hq => by
    cases o with
    | none => exact hq _ _ h
    | some e => exact Ev.mono h hq
  exact up _ (l lo y st1 _ hl h1) fun u st2 h2 => up _ (l hi z st2 _ hh h2) fun u st3 h3 => SlW_ok h3
theorem idx_plain (i : PE) (y : Expr) (o v : Value) : subscripted (reb i y) false o v = operate [o, v] (getItem o v) := by cases i <;> rfl
theorem var_name {e : PE} (h : isVar e = true) (x : Expr) : ∃ s p, reb e x = .Name s p := by
  cases e <;> first | exact (i20 _ _ rfl) | cases h
theorem attr_ok {o : PE} {s : String} {x : Expr} {p : Pos} (hv : isVar o = true) (ho : Both V n o (reb o x)) : Both V n (.attr o s) (.Attribute (reb o x) (Str.ofString s) p) := by
  refine x20 (var_name hv x) fun a q e => ?_
  rw [e] at ho ⊢
  refine both (fun st Q h => Ev_attr ((ho.1 st _ h).mono fun u st1 h1 => ?_) (by with_unfolding_all rfl)) (fun z0 => rfl)
  refine x11 h1.h fun p hf hq => ?_
  cases hf with
  | mk k1 k2 k3 => exact (i44 _ _ _ _ rfl k1 k2 k3 hq)
theorem rep_ok {i : Nat} {s key : String} {c k1 k2 k3 : Nat} {xp kp sp ap p1 p2 pos : Pos} {st : St} {Q : Kon} (hx : nth F.locs i = some (Str.ofString s)) (hline : (ap.endLine == pos.line) = true)
    (h : onLoc (nth st.loc i) fun p => onRef p fun a => ItD C a (Str.ofString key).cps.toList st fun q z0 => onStr q fun t => Side (t.length ≤ 1000) (Q (.str (t.filter (· != c))) st)) :
    Ev V n (.Call (.Attribute (.Subscript (.Name (Str.ofString s) xp) (.Constant (.str (Str.ofString key)) k1 kp) sp) (Str.ofString "replace") ap) [.Constant (.str ⟨#[c]⟩) k2 p1, .Constant (.str ⟨#[]⟩) k3 p2] [] pos) st Q := by
  intro A s hp hv E ok S
  refine x21 (onLoc_inv h) fun y p hn h => ?_
  refine x11 (onRef_inv h) fun a ez0 h => ?_
  obtain rfl := ez0
  refine x33 h.h fun key' ps q e h1 h2 h => ?_
  refine x11 (onStr_inv h) fun t ez0 h => ?_
  obtain rfl := ez0
  obtain rfl := str_ext e
  refine x30 (id S) fun m mu tl S0 => ?_
  exact Ev_repD (nth_loc S0.nm hx hn) h1 h2 h.p hline h.r A s hp hv E ok S
theorem rebK_all : ∀ (ks : List String) (kx : List (Option Expr)), (rebK ks kx).all (·.isSome) = true ∧ (rebK ks kx).length = ks.length
  | [], _ => ⟨rfl, rfl⟩
  | k :: ks, kx => ⟨(rebK_all ks kx.tail).1, congrArg (· + 1) (rebK_all ks kx.tail).2⟩
theorem dct_ok {ks : List String} {kx : List (Option Expr)} {values : List Expr} {pos : Pos} {st : St} {Q : Kon} (h0 : ks ≠ []) (hl : ks.length ≤ 15) (hn : (ks.map Str.ofString).Nodup) (hv : values.length = ks.length)
    (h : ∀ d, d ∉ st.ah.map (·.1) → Ps V n (ks.map Str.ofString) (rebK ks kx) values pos ⟨st.loc, (d, .raw (DictIs C [])) :: st.ah⟩ fun ps st1 => PutD C d ks ps st1 Q) : Ev V n (.Dict (rebK ks kx) values pos) st Q := by
  obtain ⟨r1, r2⟩ := rebK_all ks kx
  refine Ev_dict r1 (r2.trans hv.symm) (fun e => h0 (List.length_eq_zero_iff.mp (by rw [← r2, e]; rfl))) (by rw [r2]; exact hl) hn fun d hd => ?_
  exact fun A s hp hv E ok S => wpAny_mono (h d hd A s hp hv E ok S) (fun kvs s1 zz => x31 zz fun ps st1 vs h1 r => (i31 ps st1 vs ⟨h1.i, h1.h⟩ r)) fun z0 z0 e => e
mutual
theorem W_ev (G : Good C ss fns bs fields) : ∀ (e : PE) (x : Expr), okE (F.ck fns bs) e x = true → Both V n e (reb e x)
  | .var i s, x, hc => both (fun st Q h => Ev_var (eq_of_beq hc) h) (fun z0 => rfl)
  | .int i, x, hc => both (fun st Q h => Ev_int h) (fun z0 => rfl)
  | .str l, x, hc => both (fun st Q h => fun A s hp hv E ok S => wpAny_Constant_str (i21 _ st h (S.push fun z0 => .str ⟨l.toArray⟩ _))) (fun z0 => rfl)
  | .bool l, x, hc => both (fun st Q h => Ev_bool h) (fun z0 => rfl)
  | .none, x, hc => both (fun st Q h => Ev_none h) (fun z0 => rfl)
  | .bin op a b, x, hc => both (fun st Q h => Ev_bin (((W_ev G a _ (and_l hc)).1 st _ h).mono fun u st1 h1 => ((W_ev G b _ (and_r hc)).1 st1 _ h1).mono fun v st2 h2 => BoW_ok h2)) (fun z0 => rfl)
  | .neg a, x, hc => both (fun st Q h => Ev_un (((W_ev G a _ hc).1 st _ h).mono fun u st1 h1 => by refine x11 (onInt_inv h1) fun i ez0 h => ?_; obtain rfl := ez0; exact Uo_neg h)) (fun z0 => rfl)
  | .not a, x, hc => ⟨fun st Q h => Ev_un (((W_ev G a _ hc).1 st _ h).mono fun u st1 h1 => by refine x11 (onBool_inv h1) fun i ez0 h => ?_; obtain rfl := ez0; exact Uo_not h),
      fun st Q h hq => Tt_not (((W_ev G a _ hc).2 st _ h fun p st hp => (onBool_inv hp).elim fun b h => ⟨b, h.1⟩).mono fun b st1 h1 => h1)⟩
  | .cmp op a b, x, hc => ⟨fun st Q h => Ev_cmp (((W_ev G a _ (and_l hc)).1 st _ h).mono fun u st1 h1 => ((W_ev G b _ (and_r hc)).1 st1 _ h1).mono fun v st2 h2 => CoW_ok h2) (reb_behind b _ _),
      fun st Q h hq => Tt_cmp (((W_ev G a _ (and_l hc)).1 st _ h).mono fun u st1 h1 => ((W_ev G b _ (and_r hc)).1 st1 _ h1).mono fun v st2 h2 => CoW_ok h2) (reb_behind b _ _)⟩
  | .and a b, x, hc => by
    refine x21 (flat_and (p := x.pos) (W_ev G b (rstB .And x) (and_r (and_r hc)))) fun z r e hb => ?_
    show Both V n _ (.BoolOp .And (_ :: flat .And x.pos _) x.pos)
    rw [e]; exact both_and (and_l hc) (W_ev G a _ (and_l (and_r hc))) hb
  | .or a b, x, hc => by
    refine x21 (flat_or (p := x.pos) (W_ev G b (rstB .Or x) (and_r (and_r hc)))) fun z r e hb => ?_
    show Both V n _ (.BoolOp .Or (_ :: flat .Or x.pos _) x.pos)
    rw [e]; exact both_or (and_l hc) (W_ev G a _ (and_l (and_r hc))) hb
  | .andS a b, x, hc => by
    refine x21 (flat_and (p := x.pos) (W_ev G b (rstB .And x) (and_r hc))) fun z r e hb => ?_
    show Both V n _ (.BoolOp .And (_ :: flat .And x.pos _) x.pos)
    rw [e]; exact both_andS (W_ev G a _ (and_l hc)) hb
  | .orS a b, x, hc => by
    refine x21 (flat_or (p := x.pos) (W_ev G b (rstB .Or x) (and_r hc))) fun z r e hb => ?_
    show Both V n _ (.BoolOp .Or (_ :: flat .Or x.pos _) x.pos)
    rw [e]; exact both_orS (W_ev G a _ (and_l hc)) hb
  | .ife t a b, x, hc => both_ife (W_ev G t _ (and_l hc)) (W_ev G a _ (and_l (and_r hc))) (W_ev G b _ (and_r (and_r hc)))
  | .ifj t a b, x, hc => both_ifj (and_l (and_l hc)) (and_r (and_l hc)) (W_ev G t _ (and_l (and_r hc))) (W_ev G a _ (and_l (and_r (and_r hc)))) (W_ev G b _ (and_r (and_r (and_r hc))))
  | .attr o s, x, hc => attr_ok (and_l hc) (W_ev G o _ (and_r hc))
  | .idx o i, x, hc => both (fun st Q h => Ev_item (((W_ev G o _ (and_l hc)).1 st _ h).mono fun u st1 h1 => ((W_ev G i _ (and_r hc)).1 st1 _ h1).mono fun u2 st2 h2 => IdW_ok h2) (idx_plain i _)) (fun z0 => rfl)
  | .slice o lo hi, x, hc => cut_ok (W_ev G o _ (and_l hc)) (W_ev G lo _ (and_l (and_r hc))) (W_ev G hi _ (and_r (and_r hc)))
  | .tup l, x, hc => both (fun st Q h => Ev_tuple ((Wl_es G l _ (and_r hc) st _ h).mono fun ps st1 h1 => ⟨by rw [h1.1]; exact of_decide_eq_true (and_l hc), h1.2⟩)) (fun z0 => rfl)
  | .call g l, x, hc => both (fun st Q h => by
      cases l with
      | cons a b => exact Ev_fcall G (and_l (and_r (and_l hc))) (and_l (and_l hc)) (reb_star a _ _ _) (fun z0 => rebl_star (k := F.ck fns bs) b _) ((Wl_es G (.cons a b) _ (and_r hc) st _ h).mono fun ps st1 h4 => h4.2.h)
      | _ => cases and_r (and_r (and_l hc))) (fun z0 => rfl)
  | .len a, x, hc => both (fun st Q h => Ev_len G (and_r (and_l hc)) (and_l (and_l hc)) (reb_star a _ _ _) (((W_ev G a _ (and_r hc)).1 st _ h).mono fun u st1 h4 => lenW_ok h4)) (fun z0 => rfl)
  | .abs a, x, hc => both (fun st Q h => Ev_abs G (and_r (and_l hc)) (and_l (and_l hc)) (reb_star a _ _ _) (((W_ev G a _ (and_r hc)).1 st _ h).mono fun u st1 h4 => by refine x11 (onInt_inv h4) fun i ez0 h => ?_; obtain rfl := ez0; exact Ca_abs h)) (fun z0 => rfl)
  | .max a b, x, hc => both (fun st Q h => Ev_max G (and_r (and_l hc)) (and_l (and_l hc)) (reb_star a _ _ _) (fun z0 => by rw [reb_star]; rfl) (Es_cons (((W_ev G a _ (and_l (and_r hc))).1 st _ h).mono fun u st1 h5 => Es_one (((W_ev G b _ (and_r (and_r hc))).1 st1 _ h5).mono fun v st2 h6 => by
      refine x11 (onInt_inv h6) fun i ez0 h => ?_
      obtain rfl := ez0; refine x11 (onInt_inv h) fun j ez0 h => ?_; obtain rfl := ez0; exact Ca_max h) (reb_star b _ _ _)) (reb_star a _ _ _))) (fun z0 => rfl)
  | .isStr a, x, hc => both (fun st Q h => Ev_isi_str G (and_r (and_l (and_l hc))) (and_l (and_l (and_l hc))) (and_r (and_r (and_l hc))) (and_l (and_r (and_l hc))) (reb_star a _ _ _) (((W_ev G a _ (and_r hc)).1 st _ h).mono fun u st1 h6 => onSome_inv h6)) (fun z0 => rfl)
  | .isTup a, x, hc => both (fun st Q h => Ev_isi (pos' := x.pos) (G.bi (and_r (and_l (and_l hc))) bo_isinstance (by decide +kernel)) (mem_of (and_l (and_l (and_l hc)))) (G.bi (and_r (and_r (and_l hc))) bo_tuple (by decide +kernel)) (mem_of (and_l (and_r (and_l hc)))) (((W_ev G a _ (and_r hc)).1 st _ h).mono fun u st1 h6 => by
      cases u with
      | ref a => exact h6.h.elim fun kvs hm => isi_tup_inst G hm h6.r
      | tuple _ => exact isi_tup rfl h6
      | int _ => exact isi_tup rfl h6
      | str _ => exact isi_tup rfl h6
      | _ => exact h6.elim) (reb_star a _ _ _)) (fun z0 => rfl)
  | .isPic a, x, hc => both (fun st Q h => Ev_isi_pic G (and_r (and_l (and_l hc))) (and_l (and_l (and_l hc))) (and_r (and_l hc)) (reb_star a _ _ _) (((W_ev G a _ (and_r hc)).1 st _ h).mono fun u st1 h6 => by
      cases u with
      | ref a => exact h6.h.elim fun kvs hm => isi_pic G hm h6.r
      | tuple _ => exact isi_pic_tup G h6
      | _ => exact h6.elim)) (fun z0 => rfl)
  | .lst l, x, hc => both (fun st Q h => Ev_list ((Wl_es G l _ hc st _ h).mono fun ps st1 h1 => ⟨h1.2.len, h1.2.r⟩)) (fun z0 => rfl)
  | .cat a b, x, hc => both (fun st Q h => Ev_bin (((W_ev G a _ (and_l hc)).1 st _ h).mono fun u st1 h1 => ((W_ev G b _ (and_r hc)).1 st1 _ h1).mono fun v st2 h2 => by
      refine x11 (onRef_inv h2) fun a ez0 h3 => ?_
      obtain rfl := ez0
      refine x11 (onRef_inv h3) fun b ez0 h4 => ?_
      obtain rfl := ez0
      refine x23 h4.h fun ps qs g1 g2 g3 h5 => ?_
      exact Bo_add_list g1 g2 g3 h5.r)) (fun z0 => rfl)
  | .newPic, x, hc => both (fun st Q h => by
      obtain ⟨h, hn⟩ := h
      obtain ⟨k, rfl⟩ : ∃ k, n = k + 1 := ⟨n - 1, by exact ((Nat.sub_add_cancel hn).symm)⟩
      exact Ev_make G (mem_of hc) h) (fun z0 => rfl)
  | .strI a, x, hc => both (fun st Q h => Ev_tcall (G.bi (and_r (and_l hc)) bo_str (by decide +kernel)) (mem_of (and_l (and_l hc))) (reb_star a _ _ _) (((W_ev G a _ (and_r hc)).1 st _ h).mono fun u st1 h4 => by refine x11 (onInt_inv h4) fun i ez0 h => ?_; obtain rfl := ez0; exact Ca_strI h.p h.r)) (fun z0 => rfl)
  | .rng a, x, hc => both (fun st Q h => Ev_tcall (G.bi (and_r (and_l hc)) bo_range (by decide +kernel)) (mem_of (and_l (and_l hc))) (reb_star a _ _ _) (((W_ev G a _ (and_r hc)).1 st _ h).mono fun u st1 h4 => by
      refine x11 (onInt_inv h4) fun i ez0 h => ?_
      obtain rfl := ez0
      refine x11 h.h fun m ez0 h' => ?_
      obtain rfl := ez0
      exact Ca_range h')) (fun z0 => rfl)
  | .rep i s key c, x, hc => both (fun st Q h => rep_ok (eq_of_beq (and_l hc)) (and_r hc) h) (fun z0 => rfl)
  | .dct ks l, x, hc => both (fun st Q h => by
      have hk := of_decide_eq_true (and_l hc)
      exact dct_ok hk.1 hk.2.1 hk.2.2.1 hk.2.2.2 fun d hd => Wl_ps G l _ (and_r hc) ks _ hk.2.2.2 _ _ (h.h d hd)) (fun z0 => rfl)
theorem Wl_ps (G : Good C ss fns bs fields) : ∀ (e : PL) (xs : List Expr), okl (F.ck fns bs) e xs = true → ∀ (ks : List String) (kx : List (Option Expr)), (rebl e xs).length = ks.length → ∀ {pos : Pos} (st : St) (Q : List PV → St → Prop), Wl C n e st Q → Ps V n (ks.map Str.ofString) (rebK ks kx) (rebl e xs) pos st Q
  | .nil, xs, hc, ks, kx, hl, pos, st, Q, h => by
    cases ks with
    | nil => exact Ps_nil h
    | cons _ _ => cases hl
  | .cons a b, xs, hc, ks, kx, hl, pos, st, Q, h => by
    cases ks with
    | nil => cases hl
    | cons k ks => exact Ps_cons (((W_ev G a _ (and_l hc)).1 st _ h).mono fun p st1 h1 => Wl_ps G b _ (and_r hc) ks _ (Nat.succ.inj hl) st1 _ h1)
theorem Wl_es (G : Good C ss fns bs fields) : ∀ (e : PL) (xs : List Expr), okl (F.ck fns bs) e xs = true → ∀ (st : St) (Q : List PV → St → Prop), Wl C n e st Q → Es V n (rebl e xs) st fun ps st' => ps.length = (rebl e xs).length ∧ Q ps st'
  | .nil, xs, hc, st, Q, h => Es_nil ⟨rfl, h⟩
  | .cons a b, xs, hc, st, Q, h => Es_cons (((W_ev G a _ (and_l hc)).1 st _ h).mono fun p st1 h1 => (Wl_es G b _ (and_r hc) st1 _ h1).mono fun ps st2 h2 => ⟨congrArg (· + 1) h2.1, h2.2⟩) (reb_star a _ _ _)
end
/-- at a written text -/
theorem W_at (G : Good C ss fns bs fields) (e : PE) (x : Expr) (h : okE (F.ck fns bs) e x = true ∧ reb e x = x) : Both V n e x := by
  have := W_ev (V := V) (n := n) G e x h.1
  rw [h.2] at this
  exact this
end
end Mine
end
section
open PySem PySem.W PyProof.Rows
set_option Elab.async false
set_option genCtorIdx false
set_option tactic.hygienic false
set_option genSizeOf false
set_option genInjectivity false
set_option maxRecDepth 100000
set_option maxHeartbeats 4000000
set_option linter.unusedVariables false
set_option linter.unusedSimpArgs false
namespace Mine

/-- targets of a tuple -/
inductive PT where
  | name (i : Nat) (x : String)
  | attr (o : PE) (x : String)
  | sub (o k : PE)
  | tup (l : PT)
  | nil
  | cons (a b : PT)
noncomputable def ptLen : PT → Nat
  | .cons _ b => ptLen b + 1
  | _ => 0
/-- a block of statements -/
inductive PB where
  | nil
  | asg (i : Nat) (x : String) (e : PE) (r : PB)
  | asgT (l : PT) (e : PE) (r : PB)
  | asg2 (i : Nat) (x : String) (j : Nat) (y : String) (e : PE) (r : PB)
  | asg3 (i : Nat) (x : String) (j : Nat) (y : String) (k : Nat) (z : String) (e : PE) (r : PB)
  | aug (i : Nat) (x : String) (op : Operator) (e : PE) (r : PB)
  | attr (o : PE) (x : String) (e : PE) (r : PB)
  | ret (e : PE) (r : PB)
  | ifs (t : PE) (a b : PB) (r : PB)
  | loop (t : PE) (b : PB) (r : PB)
  | cont (r : PB)
  | app (i : Nat) (x : String) (e : PE) (r : PB)
  | ext (i : Nat) (x : String) (e : PE) (r : PB)
  | setI (o k e : PE) (r : PB)
  | forin (i : Nat) (x : String) (e : PE) (b : PB) (r : PB)
  | raw (r : PB)

inductive FieldPut (C : Cx) (ah : AH) (x : Str) (p : PV) : PV → AH → Prop
  | mk {a K kvs kvs' ah'} : UpdH a (.inst K kvs) (.inst K kvs') ah ah' → PutK x p kvs kvs' → FieldAt C K x → kvs'.length ≤ 100 → FieldPut C ah x p (.ref a) ah'
  | new {a K kvs ah'} : UpdH a (.inst K kvs) (.inst K (kvs ++ [(x, p)])) ah ah' → x ∉ kvs.map (·.1) → FieldAt C K x → kvs.length + 1 ≤ 100 → FieldPut C ah x p (.ref a) ah'
structure PutW (C : Cx) (o : PV) (x : Str) (p : PV) (st : St) (Q : St → Prop) : Prop where
  h : ∃ ah', FieldPut C st.ah x p o ah' ∧ Q ⟨st.loc, ah'⟩
/-- a.append(p) -/
structure AppW (a : Addr) (p : PV) (st : St) (Q : St → Prop) : Prop where
  h : ∃ ps ah', UpdH a (.list ps) (.list (ps ++ [p])) st.ah ah' ∧ ps.length ≤ 1000000 ∧ Q ⟨st.loc, ah'⟩
structure ExtW (a b : Addr) (st : St) (Q : St → Prop) : Prop where
  h : ∃ ps qs ah', (b, AObj.list qs) ∈ st.ah ∧ UpdH a (.list ps) (.list (ps ++ qs)) st.ah ah' ∧ ps.length + qs.length ≤ 1000000 ∧ Q ⟨st.loc, ah'⟩
structure IsL (a : Addr) (ah : AH) (R : Prop) : Prop where
  h : ∃ ps, (a, AObj.list ps) ∈ ah
  r : R
structure SetL (a : Addr) (k : Int) (p : PV) (st : St) (Q : St → Prop) : Prop where
  h : ∃ ps ah', 0 ≤ k ∧ k < ps.length ∧ ps.length ≤ 1000000 ∧ UpdH a (.list ps) (.list (ps.set k.toNat p)) st.ah ah' ∧ Q ⟨st.loc, ah'⟩
structure SetD (C : Cx) (a : Addr) (k : List Nat) (p : PV) (st : St) (Q : St → Prop) : Prop where
  h : ∃ (key : Str) (ps ps' : List (Str × PV)) (ah' : AH), key.cps.toList = k ∧ (PutK key p ps ps' ∨ (key ∉ ps.map (·.1) ∧ ps' = ps ++ [(key, p)])) ∧ Imm p ∧ ps'.length ≤ 100 ∧ UpdH a (.raw (DictIs C ps)) (.raw (DictIs C ps')) st.ah ah' ∧ Q ⟨st.loc, ah'⟩
noncomputable def SrW (C : Cx) (a : Addr) (j p : PV) (st : St) (Q : St → Prop) : Prop := match j with
  | .int k => SetL a k p st Q
  | .str k => SetD C a k p st Q
  | _ => False
/-- what a loop runs over -/
inductive ItSrc (ah : AH) (a : Addr) : List PV → (AH → Prop) → Prop
  | list {all : List PV} : (a, AObj.list all) ∈ ah → all.length ≤ 1000000 → ItSrc ah a all (fun ah => (a, AObj.list all) ∈ ah)
  | range {k : Nat} : (a, AObj.raw (RngIs k)) ∈ ah → k ≤ 1000000 → ItSrc ah a (rangeL k) (fun z0 => True)
/-- the turns of a loop -/
noncomputable def ForW (body : St → (St → Prop) → Prop) (i : Nat) (keep : AH → Prop) (P : Nat → Obj → Prop) (it : Addr) (Qn : St → Prop) : List PV → Nat → St → Prop
  | [], _, st => keep st.ah ∧ Qn st
  | p :: rest, k, st => keep st.ah ∧ body ⟨putAt p st.loc i, (it, .raw (P (k + 1))) :: st.ah⟩ fun st2 => ∃ pre post, st2.ah = pre ++ (it, .raw (P (k + 1))) :: post ∧ ForW body i keep P it Qn rest (k + 1) ⟨st2.loc, pre ++ post⟩
structure ForT (P : Prop) : Prop where
  h : P
section
variable {C : Cx} {F : FnI}
structure RawS (V : Act C F) (n : Nat) (x : Stmt) (st : St) (Qn : St → Prop) (Qr : Kon) (Qc : St → Prop) : Prop where
  h : Ex1 V n x st Qn Qr Qc
noncomputable def IoW (op : Operator) (x y : PV) (st : St) (Q : Kon) : Prop := match op with
  | .Add => onInt x fun a => onInt y fun b => Q (.int (a + b)) st
  | .Mult => onInt x fun a => onInt y fun b => Side (mulSide a b) (Q (.int (a * b)) st)
  | _ => False
noncomputable def on2 (x : PV) (k : PV → PV → Prop) : Prop := match x with | .tuple [a, b] => k a b | _ => False
noncomputable def on3 (x : PV) (k : PV → PV → PV → Prop) : Prop := match x with | .tuple [a, b, c] => k a b c | _ => False
noncomputable def onNil (x : List PV) (k : Prop) : Prop := match x with | [] => k | _ => False
noncomputable def onCons (x : List PV) (k : PV → List PV → Prop) : Prop := match x with | p :: r => k p r | _ => False
theorem on2_mk {a b : PV} {k : PV → PV → Prop} (h : k a b) : on2 (.tuple [a, b]) k := h
theorem on2_inv {x : PV} {k : PV → PV → Prop} (h : on2 x k) : ∃ a b, x = .tuple [a, b] ∧ k a b := by
  cases x with
  | tuple l => match l, h with | [a, b], h => exact (i21 a b rfl h)
  | _ => exact h.elim
theorem on3_inv {x : PV} {k : PV → PV → PV → Prop} (h : on3 x k) : ∃ a b c, x = .tuple [a, b, c] ∧ k a b c := by
  cases x with
  | tuple l => match l, h with | [a, b, c], h => exact (i31 a b c rfl h)
  | _ => exact h.elim
theorem onNil_inv {x : List PV} {k : Prop} (h : onNil x k) : x = [] ∧ k := by cases x <;> first | exact ⟨rfl, h⟩ | exact h.elim
theorem onCons_inv {x : List PV} {k : PV → List PV → Prop} (h : onCons x k) : ∃ p r, x = p :: r ∧ k p r := by cases x <;> first | exact (i21 _ _ rfl h) | exact h.elim
mutual
noncomputable def WT (C : Cx) (n : Nat) : PT → PV → St → (St → Prop) → Prop
  | .name i _, p, st, Q => Q ⟨putAt p st.loc i, st.ah⟩
  | .attr o x, p, st, Q => W C n o st fun v st1 => PutW C v x p st1 Q
  | .sub o k, p, st, Q => W C n o st fun x st1 => W C n k st1 fun j st2 => onRef x fun a => SrW C a j p st2 Q
  | .tup l, p, st, Q => onTup p fun ps => Side (ps.length = ptLen l) (WTl C n l ps st Q)
  | .nil, _, _, _ => False
  | .cons _ _, _, _, _ => False
noncomputable def WTl (C : Cx) (n : Nat) : PT → List PV → St → (St → Prop) → Prop
  | .nil, ps, st, Q => onNil ps (Q st)
  | .cons a b, ps, st, Q => onCons ps fun p r => WT C n a p st fun st1 => WTl C n b r st1 Q
  | _, _, _, _ => False
end
noncomputable def hd (xs : List Stmt) : Stmt := match xs with
  | x :: _ => x
  | _ => .Pass ⟨0, 0, 0, 0⟩
noncomputable def tlS (xs : List Stmt) : List Stmt := match xs with
  | _ :: r => r
  | _ => []
noncomputable def blkS (x : Stmt) : List Stmt × List Stmt := match x with
  | .If _ a b _ => (a, b)
  | .While _ b _ _ => (b, [])
  | .For _ _ b _ _ => (b, [])
  | _ => ([], [])
noncomputable def ifA (x : Stmt) : List Stmt := (blkS x).1
noncomputable def ifB (x : Stmt) : List Stmt := (blkS x).2
noncomputable def whB (x : Stmt) : List Stmt := (blkS x).1
noncomputable def foB (x : Stmt) : List Stmt := (blkS x).1
structure LoopW (P : Prop) : Prop where
  h : P
noncomputable def Ws (V : Act C F) (n : Nat) : PB → List Stmt → St → (St → Prop) → Kon → (St → Prop) → Prop
  | .nil, _, st, Qn, _, _ => Qn st
  | .asg i _ e r, xs, st, Qn, Qr, Qc => W C n e st fun p st1 => Ws V n r (tlS xs) ⟨putAt p st1.loc i, st1.ah⟩ Qn Qr Qc
  | .asgT l e r, xs, st, Qn, Qr, Qc => W C n e st fun p st1 => WT C n (.tup l) p st1 fun st2 => Ws V n r (tlS xs) st2 Qn Qr Qc
  | .asg2 i _ j _ e r, xs, st, Qn, Qr, Qc => W C n e st fun p st1 => on2 p fun a b => Ws V n r (tlS xs) ⟨putAt b (putAt a st1.loc i) j, st1.ah⟩ Qn Qr Qc
  | .asg3 i _ j _ k _ e r, xs, st, Qn, Qr, Qc => W C n e st fun p st1 => on3 p fun a b c => Ws V n r (tlS xs) ⟨putAt c (putAt b (putAt a st1.loc i) j) k, st1.ah⟩ Qn Qr Qc
  | .aug i _ op e r, xs, st, Qn, Qr, Qc => onLoc (nth st.loc i) fun p => W C n e st fun q st1 => IoW op p q st1 fun v st2 => Ws V n r (tlS xs) ⟨putAt v st2.loc i, st2.ah⟩ Qn Qr Qc
  | .attr o x e r, xs, st, Qn, Qr, Qc => W C n e st fun p st1 => W C n o st1 fun v st2 => PutW C v x p st2 fun st3 => Ws V n r (tlS xs) st3 Qn Qr Qc
  | .ret e r, xs, st, Qn, Qr, Qc => W C n e st Qr
  | .ifs t a b r, xs, st, Qn, Qr, Qc => W C n t st fun v st1 => onBool v fun c => (c = true → Ws V n a (ifA (hd xs)) st1 (fun st2 => Ws V n r (tlS xs) st2 Qn Qr Qc) Qr Qc) ∧ (c = false → Ws V n b (ifB (hd xs)) st1 (fun st2 => Ws V n r (tlS xs) st2 Qn Qr Qc) Qr Qc)
  | .loop t b r, xs, st, Qn, Qr, Qc => LoopW (∃ (ι : Type) (S : ι → St) (P : ι → Prop) (μ : ι → Nat) (i : ι), (st = S i ∧ P i) ∧ ∀ i, P i → W C n t (S i) fun v st1 => onBool v fun c => (c = true → Ws V n b (whB (hd xs)) st1 (fun st2 => ∃ j, st2 = S j ∧ P j ∧ μ j < μ i) Qr (fun st2 => ∃ j, st2 = S j ∧ P j ∧ μ j < μ i)) ∧ (c = false → Ws V n r (tlS xs) st1 Qn Qr Qc))
  | .cont _, _, st, _, _, Qc => Qc st
  | .app i _ e r, xs, st, Qn, Qr, Qc => onLoc (nth st.loc i) fun p => onRef p fun a => IsL a st.ah (W C n e st fun p st1 => AppW a p st1 fun st2 => Ws V n r (tlS xs) st2 Qn Qr Qc)
  | .ext i _ e r, xs, st, Qn, Qr, Qc => onLoc (nth st.loc i) fun p => onRef p fun a => IsL a st.ah (W C n e st fun p st1 => onRef p fun b => ExtW a b st1 fun st2 => Ws V n r (tlS xs) st2 Qn Qr Qc)
  | .setI o k e r, xs, st, Qn, Qr, Qc => W C n e st fun p st1 => W C n o st1 fun x st2 => W C n k st2 fun j st3 => onRef x fun a => SrW C a j p st3 fun st4 => Ws V n r (tlS xs) st4 Qn Qr Qc
  | .forin i _ e b r, xs, st, Qn, Qr, Qc => W C n e st fun v st1 => onRef v fun a => ForT (∃ all keep, ItSrc st1.ah a all keep ∧ ∀ P it, it ∉ st1.ah.map (·.1) → ForW (fun st' Q => Ws V n b (foB (hd xs)) st' Q Qr Q) i keep P it (fun st2 => Ws V n r (tlS xs) st2 Qn Qr Qc) all 0 st1)
  | .raw r, xs, st, Qn, Qr, Qc => RawS V n (hd xs) st (fun st1 => Ws V n r (tlS xs) st1 Qn Qr Qc) Qr Qc
end
/-! ### the block, built again -/
noncomputable def tgS (s : Stmt) : Expr := match s with
  | .Assign (t :: _) _ _ => t
  | .AugAssign t _ _ _ => t
  | .For t _ _ _ _ => t
  | _ => dflE
noncomputable def svS (s : Stmt) : Expr := match s with
  | .Assign _ v _ => v
  | .AugAssign _ _ v _ => v
  | .Return (some v) _ => v
  | .If v _ _ _ => v
  | .While v _ _ _ => v
  | .For _ v _ _ _ => v
  | .Expr v _ => v
  | _ => dflE
mutual
noncomputable def rebT : PT → Expr → Expr
  | .name _ s, x => .Name (Str.ofString s) x.pos
  | .attr o s, x => .Attribute (reb o (kid x 0)) (Str.ofString s) x.pos
  | .sub o k, x => .Subscript (reb o (kid x 0)) (reb k (kid x 1)) x.pos
  | .tup l, x => .Tuple (rebTl l (kids x)) (knd x) x.pos
  | .nil, _ => dflE
  | .cons _ _, _ => dflE
noncomputable def rebTl : PT → List Expr → List Expr
  | .cons a b, xs => rebT a (hdE xs) :: rebTl b (tlE xs)
  | _, _ => []
end
mutual
noncomputable def okT (k : Ck) : PT → Expr → Bool
  | .name i s, _ => nth k.locs i == some (Str.ofString s)
  | .attr o _, x => okE k o (kid x 0)
  | .sub o j, x => okE k o (kid x 0) && okE k j (kid x 1)
  | .tup l, x => okTl k l (kids x)
  | .nil, _ => false
  | .cons _ _, _ => false
noncomputable def okTl (k : Ck) : PT → List Expr → Bool
  | .nil, _ => true
  | .cons a b, xs => okT k a (hdE xs) && okTl k b (tlE xs)
  | _, _ => false
end
noncomputable def swOk (e : Expr) : Bool := match e with
  | .Tuple vs _ _ => vs.all (foldedForSure 8) || !(vs.all (constantsAlone 8))
  | _ => true
noncomputable def allNames : List Expr → Bool
  | [] => true
  | .Name _ _ :: r => allNames r
  | _ => false
noncomputable def nmS (s : String) (x : Expr) : Expr := .Name (Str.ofString s) x.pos
noncomputable def rebB : PB → List Stmt → List Stmt
  | .nil, _ => []
  | .asg _ s e r, xs => .Assign [nmS s (tgS (hd xs))] (reb e (svS (hd xs))) (hd xs).pos :: rebB r (tlS xs)
  | .asgT l e r, xs => .Assign [.Tuple (rebTl l (kids (tgS (hd xs)))) (knd (tgS (hd xs))) (tgS (hd xs)).pos] (reb e (svS (hd xs))) (hd xs).pos :: rebB r (tlS xs)
  | .asg2 _ s _ u e r, xs => .Assign [.Tuple [nmS s (kid (tgS (hd xs)) 0), nmS u (kid (tgS (hd xs)) 1)] (knd (tgS (hd xs))) (tgS (hd xs)).pos] (reb e (svS (hd xs))) (hd xs).pos :: rebB r (tlS xs)
  | .asg3 _ s _ u _ w e r, xs => .Assign [.Tuple [nmS s (kid (tgS (hd xs)) 0), nmS u (kid (tgS (hd xs)) 1), nmS w (kid (tgS (hd xs)) 2)] (knd (tgS (hd xs))) (tgS (hd xs)).pos] (reb e (svS (hd xs))) (hd xs).pos :: rebB r (tlS xs)
  | .aug _ s op e r, xs => .AugAssign (nmS s (tgS (hd xs))) op (reb e (svS (hd xs))) (hd xs).pos :: rebB r (tlS xs)
  | .attr o s e r, xs => .Assign [.Attribute (reb o (kid (tgS (hd xs)) 0)) (Str.ofString s) (tgS (hd xs)).pos] (reb e (svS (hd xs))) (hd xs).pos :: rebB r (tlS xs)
  | .ret e r, xs => .Return (some (reb e (svS (hd xs)))) (hd xs).pos :: tlS xs
  | .ifs t a b r, xs => .If (reb t (svS (hd xs))) (rebB a (ifA (hd xs))) (rebB b (ifB (hd xs))) (hd xs).pos :: rebB r (tlS xs)
  | .loop t b r, xs => .While (reb t (svS (hd xs))) (rebB b (whB (hd xs))) [] (hd xs).pos :: rebB r (tlS xs)
  | .cont r, xs => .Continue (hd xs).pos :: tlS xs
  | .app _ s e r, xs => .Expr (.Call (.Attribute (nmS s (kid (kid (svS (hd xs)) 0) 0)) (Str.ofString "append") (kid (svS (hd xs)) 0).pos) [reb e (kid (svS (hd xs)) 1)] [] (svS (hd xs)).pos) (hd xs).pos :: rebB r (tlS xs)
  | .ext _ s e r, xs => .Expr (.Call (.Attribute (nmS s (kid (kid (svS (hd xs)) 0) 0)) (Str.ofString "extend") (kid (svS (hd xs)) 0).pos) [reb e (kid (svS (hd xs)) 1)] [] (svS (hd xs)).pos) (hd xs).pos :: rebB r (tlS xs)
  | .setI o j e r, xs => .Assign [.Subscript (reb o (kid (tgS (hd xs)) 0)) (reb j (kid (tgS (hd xs)) 1)) (tgS (hd xs)).pos] (reb e (svS (hd xs))) (hd xs).pos :: rebB r (tlS xs)
  | .forin _ s e b r, xs => .For (nmS s (tgS (hd xs))) (reb e (svS (hd xs))) (rebB b (foB (hd xs))) [] (hd xs).pos :: rebB r (tlS xs)
  | .raw r, xs => hd xs :: rebB r (tlS xs)
noncomputable def locOk (k : Ck) (i : Nat) (s : String) : Bool := nth k.locs i == some (Str.ofString s)
noncomputable def lineOk (x : Expr) : Bool := (kid x 0).pos.endLine == x.pos.line
noncomputable def okB (k : Ck) : PB → List Stmt → Bool
  | .nil, _ => true
  | .asg i s e r, xs => (locOk k i s && okE k e (svS (hd xs))) && okB k r (tlS xs)
  | .asgT l e r, xs => ((!allNames (rebTl l (kids (tgS (hd xs)))) && okTl k l (kids (tgS (hd xs)))) && okE k e (svS (hd xs))) && okB k r (tlS xs)
  | .asg2 i s j u e r, xs => (((locOk k i s && locOk k j u) && decide (i ≠ j)) && (swOk (reb e (svS (hd xs))) && okE k e (svS (hd xs)))) && okB k r (tlS xs)
  | .asg3 i s j u l w e r, xs => (((locOk k i s && (locOk k j u && locOk k l w)) && decide (i ≠ j ∧ i ≠ l ∧ j ≠ l)) && (swOk (reb e (svS (hd xs))) && okE k e (svS (hd xs)))) && okB k r (tlS xs)
  | .aug i s _ e r, xs => (locOk k i s && okE k e (svS (hd xs))) && okB k r (tlS xs)
  | .attr o _ e r, xs => (okE k o (kid (tgS (hd xs)) 0) && okE k e (svS (hd xs))) && okB k r (tlS xs)
  | .ret e _, xs => okE k e (svS (hd xs))
  | .ifs t a b r, xs => (okE k t (svS (hd xs)) && (okB k a (ifA (hd xs)) && okB k b (ifB (hd xs)))) && okB k r (tlS xs)
  | .loop t b r, xs => (okE k t (svS (hd xs)) && okB k b (whB (hd xs))) && okB k r (tlS xs)
  | .cont _, _ => true
  | .app i s e r, xs => ((locOk k i s && lineOk (svS (hd xs))) && okE k e (kid (svS (hd xs)) 1)) && okB k r (tlS xs)
  | .ext i s e r, xs => ((locOk k i s && lineOk (svS (hd xs))) && okE k e (kid (svS (hd xs)) 1)) && okB k r (tlS xs)
  | .setI o j e r, xs => ((okE k o (kid (tgS (hd xs)) 0) && okE k j (kid (tgS (hd xs)) 1)) && okE k e (svS (hd xs))) && okB k r (tlS xs)
  | .forin i s e b r, xs => ((locOk k i s && okE k e (svS (hd xs))) && okB k b (foB (hd xs))) && okB k r (tlS xs)
  | .raw r, xs => okB k r (tlS xs)
end Mine
end
section
open PySem PySem.W PyProof.Rows
set_option Elab.async false
set_option tactic.hygienic false
set_option genSizeOf false
set_option genInjectivity false
set_option maxRecDepth 100000
set_option maxHeartbeats 4000000
set_option linter.unusedVariables false
set_option linter.unusedSimpArgs false
namespace Mine
section
variable {C : Cx} {F : FnI} {V : Act C F} {n : Nat} {ss : List Stmt} {fns bs fields : List Str}
theorem nth_names {x : Str} : ∀ {loc : Loc} {i : Nat}, nth (loc.map (·.1)) i = some x → ∃ o, nth loc i = some (x, o)
  | (y, o) :: l, 0, h => by cases h; exact ⟨o, rfl⟩
  | _ :: l, i + 1, h => nth_names (loc := l) (i := i) h
theorem put_comm (p q : PV) : ∀ (loc : Loc) (i j : Nat), i ≠ j → putAt q (putAt p loc i) j = putAt p (putAt q loc j) i
  | [], _, _, _ => rfl
  | (_, _) :: _, 0, 0, h => absurd rfl h
  | (_, _) :: _, 0, _ + 1, _ => rfl
  | (_, _) :: _, _ + 1, 0, _ => rfl
  | (_, _) :: l, i + 1, j + 1, h => by simp only [putAt]; rw [put_comm p q l i j (by omega)]
theorem store_at {x : Str} {i : Nat} {p : PV} {v : Value} {st : St} {Q : Unit → Shared → Prop} {A : Around} {s : Shared} {hp : List PV} {hv : List Value} {E : Value → Shared → Prop}
    (hx : nth F.locs i = some x) (S : V.Sim st (p :: hp) (v :: hv) (vw s)) (h : ∀ s', V.Sim ⟨putAt p st.loc i, st.ah⟩ hp hv (vw s') → Q () s') : wpAny (M C) A (storeName V.env x v) Q E s := by
  refine x30 (id S) fun m mu tl S0 => ?_
  obtain ⟨o, ho⟩ := nth_names (loc := st.loc) (i := i) (x := x) (by rw [S0.nm]; exact hx)
  exact store_local (putAt_put ho) S h
theorem Ex1_asgAt {x : Str} {i : Nat} {xp : Pos} {e : Expr} {pos : Pos} {st : St} {Qn : St → Prop} {Qr : Kon} {Qc : St → Prop} (hx : nth F.locs i = some x)
    (h : Ev V n e st fun p st1 => Qn ⟨putAt p st1.loc i, st1.ah⟩) (hs : swapsWith e (some (.Name x xp)) pos.line V.env = pure false) : Ex1 V n (.Assign [.Name x xp] e pos) st Qn Qr Qc := by
  intro A s hp hv E ok S
  refine wpAny_Assign_Name (h.run ok S fun p st1 h1 v s1 S1 => ?_) hs
  exact store_at hx S1 fun s' S' => (i11 _ h1 S')
theorem As_nameAt {x : Str} {i : Nat} {xp : Pos} {p : PV} {st : St} {Q : St → Prop} (hx : nth F.locs i = some x) (h : Q ⟨putAt p st.loc i, st.ah⟩) : As V n (.Name x xp) p st Q := by
  intro A s hp hv E v ok S
  exact PyProof.Rows.assign_Name (store_at hx S fun s' S' => (i11 _ h S'))
theorem Ex1_augAt {x : Str} {i : Nat} {xp pos : Pos} {op : Operator} {e : Expr} {st : St} {Qn : St → Prop} {Qr : Kon} {Qc : St → Prop} (hx : nth F.locs i = some x)
    (h : onLoc (nth st.loc i) fun p => Ev V n e st (fun q st1 => Io V n op p q st1 fun r st2 => Qn ⟨putAt r st2.loc i, st2.ah⟩)) : Ex1 V n (.AugAssign (.Name x xp) op e pos) st Qn Qr Qc := by
  intro A s hp hv E ok S
  refine x21 (onLoc_inv h) fun y p hn h => ?_
  · refine x30 (id S) fun m mu tl S0 => ?_
    have hm := nth_loc S0.nm hx hn
    refine x11 (S0.R x p hm) fun v hv' r => ?_
    have hxl : x ∈ F.locs := nth_mem hx
    refine wpAny_AugAssign_Name (wpAny_loadName_local F.hk (F.hl x hxl).1 S0.F.ns hv' ?_)
    have S' : V.Sim st (p :: hp) (v :: hv) (vw s) := (i30 m mu tl ⟨S0.F, S0.N, S0.nd, S0.H, S0.nm, S0.X, S0.R, .cons r S0.O⟩)
    refine h.run ok S' fun q st1 h1 u s1 S1 => ?_
    refine wpAny_mono (h1 A s1 hp hv E v u ok S1) (fun u s2 hx2 => ?_) fun z0 z0 e => e
    refine x21 hx2 fun r st2 h2 S2 => ?_
    exact store_at hx S2 fun s' S' => (i11 _ h2 S')
theorem Io.mono {op : Operator} {x y : PV} {st : St} {Q Q' : Kon} (h : Io V n op x y st Q) (hq : ∀ p st', Q p st' → Q' p st') : Io V n op x y st Q' := fun A s hp hv E vx vy ok S => wpAny_mono (h A s hp hv E vx vy ok S) (fun v s1 zz => x21 zz fun p st1 h1 S1 => (i21 p st1 (hq _ _ h1) S1)) fun z0 z0 e => e
theorem As.mono {t : Expr} {p : PV} {st : St} {Q Q' : St → Prop} (h : As V n t p st Q) (hq : ∀ st', Q st' → Q' st') : As V n t p st Q' := fun A s hp hv E v ok S => wpAny_mono (h A s hp hv E v ok S) (fun z0 s1 zz => x11 zz fun st1 h1 S1 => (i11 st1 (hq _ h1) S1)) fun z0 z0 e => e
theorem Ex.mono {x : List Stmt} {st : St} {Qn Qn' : St → Prop} {Qr Qr' : PV → St → Prop} {Qc Qc' : St → Prop} (h : Ex V n x st Qn Qr Qc) (h1 : ∀ st, Qn st → Qn' st) (h2 : ∀ p st, Qr p st → Qr' p st) (h3 : ∀ st, Qc st → Qc' st) : Ex V n x st Qn' Qr' Qc' :=
  fun A s hp hv E ok S => wpAny_mono (h A s hp hv E ok S) (fun f s1 hf => by
    cases f with
    | next => refine x11 hf fun st' q S' => ?_; exact (i11 st' (h1 _ q) S')
    | cont => refine x11 hf fun st' q S' => ?_; exact (i11 st' (h3 _ q) S')
    | brk => exact hf
    | ret v => refine x21 hf fun p st' q S' => ?_; exact (i21 p st' (h2 _ _ q) S')) fun z0 z0 e => e
theorem IoW_ok {op : Operator} {x y : PV} {st : St} {Q : Kon} (h : IoW op x y st Q) : Io V n op x y st Q := by
  cases op with
  | Add => refine x11 (onInt_inv h) fun a ez0 h => ?_; obtain rfl := ez0; refine x11 (onInt_inv h) fun b ez0 h => ?_; obtain rfl := ez0; exact Io_add_int h
  | Mult => refine x11 (onInt_inv h) fun a ez0 h => ?_; obtain rfl := ez0; refine x11 (onInt_inv h) fun b ez0 h => ?_; obtain rfl := ez0; exact Io_mul_int (mulSide_ok h.p) h.r
  | _ => exact h.elim

/-! ### which road a written pair takes -/
theorem swaps_of (e : PE) (v : Expr) (t : Option Expr) (l : Nat) (env : Env) : swapsWith (reb e v) t l env = pure false := by cases e <;> rfl
theorem swaps_sole (e : PE) (v : Expr) (ts : List Expr) (l : Nat) (env : Env) : swapsWithSole ts (reb e v) l env = pure false := by
  match ts with
  | [] => rfl
  | [t] => exact swaps_of e v _ _ _
  | _ :: _ :: _ => rfl
theorem swapped2 {x y : Str} {xp yp tp : Pos} {kk : Nat} {v : Expr} {env : Env} (h : swOk v = true) :
    swappedStores [.Tuple [.Name x xp, .Name y yp] kk tp] v env = pure none ∨ swappedStores [.Tuple [.Name x xp, .Name y yp] kk tp] v env = pure (some [x, y]) := by
  cases v with
  | Tuple vs k p =>
    simp only [swOk] at h
    unfold swappedStores
    dsimp only
    split
    · exact .inl rfl
    · split
      · exact .inl rfl
      · split
        · exact .inl rfl
        · rename_i hn
          split
          · exact .inl rfl
          · rename_i hf
            rw [if_neg]
            · right
              simp only [List.filterMap_cons, List.filterMap_nil] at hn ⊢
              split at hn <;> split at hn <;> simp_all
            · simp only [Bool.not_eq_true] at hf
              rw [hf] at h
              simpa using h
  | _ => exact .inl rfl
theorem swapped3 {x y z : Str} {xp yp zp tp : Pos} {kk : Nat} {v : Expr} {env : Env} (h : swOk v = true) :
    swappedStores [.Tuple [.Name x xp, .Name y yp, .Name z zp] kk tp] v env = pure none ∨ swappedStores [.Tuple [.Name x xp, .Name y yp, .Name z zp] kk tp] v env = pure (some [x, y, z]) := by
  cases v with
  | Tuple vs k p =>
    simp only [swOk] at h
    unfold swappedStores
    dsimp only
    split
    · exact .inl rfl
    · split
      · exact .inl rfl
      · split
        · exact .inl rfl
        · rename_i hn
          split
          · exact .inl rfl
          · rename_i hf
            rw [if_neg]
            · right
              simp only [List.filterMap_cons, List.filterMap_nil] at hn ⊢
              split at hn <;> split at hn <;> split at hn <;> simp_all
            · simp only [Bool.not_eq_true] at hf
              rw [hf] at h
              simpa using h
  | _ => exact .inl rfl
theorem names_few {env : Env} {l : Nat} : ∀ (ts : List Expr), (ts.filterMap fun | .Name id pos => if env.kindOf id == some .local && pos.line == l then some id else none | _ => none).length ≤ ts.length
  | ts => List.length_filterMap_le _ _
theorem names_less {env : Env} {l : Nat} : ∀ (ts : List Expr), allNames ts = false → (ts.filterMap fun | .Name id pos => if env.kindOf id == some .local && pos.line == l then some id else none | _ => none).length < ts.length
  | [], h => by simp [allNames] at h
  | t :: r, h => by
    cases t with
    | Name s p =>
      have ih := names_less (env := env) (l := l) r (by simpa [allNames] using h)
      rw [List.filterMap_cons]
      dsimp only
      split <;> simp only [List.length_cons] <;> omega
    | _ =>
      rw [List.filterMap_cons]
      exact Nat.lt_of_le_of_lt (names_few r) (by simp)
theorem swappedN {ts : List Expr} {tp : Pos} {kk : Nat} {v : Expr} {env : Env} (h : allNames ts = false) : swappedStores [.Tuple ts kk tp] v env = pure none := by
  cases v with
  | Tuple vs k p =>
    unfold swappedStores
    dsimp only
    split
    · rfl
    · split
      · rfl
      · rename_i hn
        split
        · rfl
        · rename_i h2
          exfalso
          have := names_less (env := env) (l := (ts.head?.map (·.pos.line)).getD 0) ts h
          simp only [Bool.or_eq_true, bne_iff_ne, ne_eq, not_or, Decidable.not_not] at h2
          exact Nat.ne_of_lt this h2.1
  | _ => rfl
theorem Ex1_pair {x y : Str} {i j : Nat} {xp yp tp pos : Pos} {kk : Nat} {v : Expr} {st : St} {Qn : St → Prop} {Qr : Kon} {Qc : St → Prop} (hx : nth F.locs i = some x) (hy : nth F.locs j = some y) (hij : i ≠ j) (hsw : swOk v = true)
    (hs : swapsWithSole [.Tuple [.Name x xp, .Name y yp] kk tp] v pos.line V.env = pure false)
    (h : Ev V n v st fun p st1 => on2 p fun a b => Qn ⟨putAt b (putAt a st1.loc i) j, st1.ah⟩) : Ex1 V n (.Assign [.Tuple [.Name x xp, .Name y yp] kk tp] v pos) st Qn Qr Qc := by
  rcases swapped2 (env := V.env) (x := x) (y := y) (xp := xp) (yp := yp) (tp := tp) (kk := kk) hsw with hw | hw
  · refine Ex1_tup hs hw (h.mono fun p st1 h1 => ?_)
    refine x21 (on2_inv h1) fun a b ez0 h1 => ?_
    obtain rfl := ez0
    exact As_tuple rfl rfl (AsL_cons (As_nameAt hx (AsL_cons (As_nameAt hy (AsL_nil h1)) rfl)) rfl)
  · intro A s hp hv E ok S
    refine Assign_Tuple_swapped (names := [x, y]) (h.run ok S fun p st1 h1 v s1 S1 => ?_) hs hw
    refine x21 (on2_inv h1) fun a b ez0 h1 => ?_
    obtain rfl := ez0
    · refine x45 S1.untup fun d vs m N ez0 hl F' N' hm back => ?_
      obtain rfl := ez0
      refine unpackItemsN_ F' N' (N'.isTup hm) ok.hd (by simp [hl]) fun h' F2 N2 => ?_
      have S2 := back h' F2 N2
      refine x20 (len2 hl) fun va vb ez0 => ?_
      obtain rfl := ez0
      ·
        show wpAny (M C) A (do holding [va] (bindName V.env y vb); assignInOrder [fun v => bindName V.env x v] [va]) _ E _
        have S2' : V.Sim st1 (b :: a :: hp) (vb :: va :: hv) ((vw s1).to h') := Sim.swap (by simpa using S2)
        refine wpAny_bind (wpAny_holding (wpAny_bindName (store_at (s := { s1 with heap := h' }) hy S2' fun s3 S3 => ?_)))
        show wpAny (M C) A (do holding [] (bindName V.env x va); assignInOrder [] []) _ E _
        refine wpAny_bind (wpAny_holding (wpAny_bindName (store_at hx S3 fun s4 S4 => ?_)))
        exact wpAny_pure (i11 _ h1 (by rw [put_comm _ _ _ _ _ hij]; exact S4))
theorem Ex1_triple {x y z : Str} {i j l : Nat} {xp yp zp tp pos : Pos} {kk : Nat} {v : Expr} {st : St} {Qn : St → Prop} {Qr : Kon} {Qc : St → Prop} (hx : nth F.locs i = some x) (hy : nth F.locs j = some y) (hz : nth F.locs l = some z) (hij : i ≠ j ∧ i ≠ l ∧ j ≠ l) (hsw : swOk v = true)
    (hs : swapsWithSole [.Tuple [.Name x xp, .Name y yp, .Name z zp] kk tp] v pos.line V.env = pure false)
    (h : Ev V n v st fun p st1 => on3 p fun a b c => Qn ⟨putAt c (putAt b (putAt a st1.loc i) j) l, st1.ah⟩) : Ex1 V n (.Assign [.Tuple [.Name x xp, .Name y yp, .Name z zp] kk tp] v pos) st Qn Qr Qc := by
  rcases swapped3 (env := V.env) (x := x) (y := y) (z := z) (xp := xp) (yp := yp) (zp := zp) (tp := tp) (kk := kk) hsw with hw | hw
  · refine Ex1_tup hs hw (h.mono fun p st1 h1 => ?_)
    refine x31 (on3_inv h1) fun a b c ez0 h1 => ?_
    obtain rfl := ez0
    exact As_tuple rfl rfl (AsL_cons (As_nameAt hx (AsL_cons (As_nameAt hy (AsL_cons (As_nameAt hz (AsL_nil h1)) rfl)) rfl)) rfl)
  · intro A s hp hv E ok S
    refine Assign_Tuple_swapped (names := [x, y, z]) (h.run ok S fun p st1 h1 v s1 S1 => ?_) hs hw
    refine x31 (on3_inv h1) fun a b c ez0 h1 => ?_
    obtain rfl := ez0
    · refine x45 S1.untup fun d vs m N ez0 hl F' N' hm back => ?_
      obtain rfl := ez0
      refine unpackItemsN_ F' N' (N'.isTup hm) ok.hd (by simp [hl]) fun h' F2 N2 => ?_
      have S2 := back h' F2 N2
      refine x30 (len3 hl) fun va vb vc ez0 => ?_
      obtain rfl := ez0
      ·
        have S2' : V.Sim st1 (c :: b :: a :: hp) (vc :: vb :: va :: hv) ((vw s1).to h') := by
          refine x30 S2 fun m mu tl S => ?_
          cases S.O with | cons a b => cases b with | cons b c => cases c with | cons c d => exact (i30 m mu tl ⟨S.F, S.N, S.nd, S.H, S.nm, S.X, S.R, .cons c (.cons b (.cons a d))⟩)
        show wpAny (M C) A (do holding [vb, va] (bindName V.env z vc); assignInOrder [fun v => bindName V.env y v, fun v => bindName V.env x v] [vb, va]) _ E _
        refine wpAny_bind (wpAny_holding (wpAny_bindName (store_at (s := { s1 with heap := h' }) hz S2' fun s3 S3 => ?_)))
        show wpAny (M C) A (do holding [va] (bindName V.env y vb); assignInOrder [fun v => bindName V.env x v] [va]) _ E _
        refine wpAny_bind (wpAny_holding (wpAny_bindName (store_at hy S3 fun s4 S4 => ?_)))
        show wpAny (M C) A (do holding [] (bindName V.env x va); assignInOrder [] []) _ E _
        refine wpAny_bind (wpAny_holding (wpAny_bindName (store_at hx S4 fun s5 S5 => ?_)))
        refine wpAny_pure (i11 _ h1 ?_)
        have e : putAt c (putAt b (putAt a st1.loc i) j) l = putAt a (putAt b (putAt c st1.loc l) j) i := by
          rw [put_comm a b _ _ _ hij.1, put_comm a c _ _ _ hij.2.1, put_comm b c _ _ _ hij.2.2]
        rw [e]; exact S5

/-! ### targets, blocks -/
theorem rebT_each (t : PT) (x : Expr) (env : Env) (r : List Expr) : assignEach (rebT t x :: r) env = (false, assign (rebT t x) env) :: assignEach r env := by cases t <;> rfl
theorem rebTl_len {env : Env} : ∀ (l : PT) (xs : List Expr), (assignEach (rebTl l xs) env).length = ptLen l ∧ (assignEach (rebTl l xs) env).findIdx? (·.1) = none
  | .cons a b, xs => by
    obtain ⟨h1, h2⟩ := rebTl_len (env := env) b (tlE xs)
    show (assignEach (rebT a (hdE xs) :: rebTl b (tlE xs)) env).length = ptLen b + 1 ∧ (assignEach (rebT a (hdE xs) :: rebTl b (tlE xs)) env).findIdx? (·.1) = none
    rw [rebT_each]
    exact ⟨congrArg (· + 1) h1, by rw [List.findIdx?_cons]; simp [h2]⟩
  | .nil, _ => ⟨rfl, rfl⟩
  | .name _ _, _ => ⟨rfl, rfl⟩
  | .attr _ _, _ | .sub _ _, _ => ⟨rfl, rfl⟩
  | .tup _, _ => ⟨rfl, rfl⟩
theorem SrW_ok {a : Addr} {j p : PV} {st : St} {Q : St → Prop} (h : SrW C a j p st Q) : Si V n (.ref a) j p st Q := by
  cases j with
  | int k => refine x24 h.h fun ps ah' h1 h2 h3 h4 h5 => ?_; exact Si_list h1 h2 h3 h4 h5
  | str k => refine x45 h.h fun key ps ps' ah' ez0 h1 h2 h3 h4 h5 => ?_; obtain rfl := ez0; exact Si_dict h1 h2 h3 h4 h5
  | _ => exact h.elim
theorem ItSrc.of {a : Addr} {all : List PV} {keep : AH → Prop} {st : St} (h : ItSrc st.ah a all keep) : ItOf V n (.ref a) st all keep := by
  cases h with
  | list h1 h2 => exact ItOf_list h1 h2
  | range h1 h2 => exact ItOf_range h1 h2
mutual
theorem WT_as (G : Good C ss fns bs fields) : ∀ (t : PT) (x : Expr), okT (F.ck fns bs) t x = true → ∀ (p : PV) (st : St) (Q : St → Prop), WT C n t p st Q → As V n (rebT t x) p st Q
  | .name i y, x, hc, p, st, Q, h => As_nameAt (eq_of_beq hc) h
  | .attr o y, x, hc, p, st, Q, h => As_attr (((W_ev G o _ hc).1 st _ h).mono fun u st1 h1 => by
      refine x11 h1.h fun ah' hf hq => ?_
      cases hf with
      | mk k1 k2 k3 k4 => exact (i55 _ _ _ _ _ rfl k3 (.inl k2) k4 k1 hq)
      | new k1 k2 k3 k4 => exact (i55 _ _ _ _ _ rfl k3 (.inr ⟨k2, rfl⟩) (by simpa using k4) k1 hq))
  | .sub o j, x, hc, p, st, Q, h => As_sub (((W_ev G o _ (and_l hc)).1 st _ h).mono fun u st1 h1 => ((W_ev G j _ (and_r hc)).1 st1 _ h1).mono fun w st2 h2 => by
      refine x11 (onRef_inv h2) fun a ez0 h3 => ?_
      obtain rfl := ez0
      exact SrW_ok h3)
  | .tup l, x, hc, p, st, Q, h => by
      refine x11 (onTup_inv h) fun ps ez0 h => ?_
      obtain rfl := ez0
      exact As_tuple ((rebTl_len l _).1.trans h.p.symm) (rebTl_len l _).2 (WTl_as G l _ hc _ st Q h.r)
theorem WTl_as (G : Good C ss fns bs fields) : ∀ (l : PT) (xs : List Expr), okTl (F.ck fns bs) l xs = true → ∀ (ps : List PV) (st : St) (Q : St → Prop), WTl C n l ps st Q → AsL V n (rebTl l xs) ps st Q
  | .nil, xs, hc, ps, st, Q, h => by
      obtain ⟨rfl, h⟩ := onNil_inv h
      exact AsL_nil h
  | .cons a b, xs, hc, ps, st, Q, h => by
      refine x21 (onCons_inv h) fun p r ez0 h => ?_
      obtain rfl := ez0
      exact AsL_cons ((WT_as G a _ (and_l hc) _ st _ h).mono fun st1 h1 => WTl_as G b _ (and_r hc) _ st1 Q h1) (rebT_each a _ _ _)
end
theorem inter_no (V : Act C F) : interactive V.env = false := by
  unfold interactive
  show (F.scope.kind == _ && _) = false
  rw [F.hk]; rfl
theorem set_plain (e : PE) (x : Expr) (env : Env) (v : Value) : foldedSetIterable (reb e x) env v = pure v := by cases e <;> rfl
theorem turns_of {x : Str} {xp : Pos} {i : Nat} {body : List Stmt} {keep : AH → Prop} {P : Nat → Obj → Prop} {it : Addr} {Qn Qn' : St → Prop} {Qr : Kon} {B : St → (St → Prop) → Prop} (hx : nth F.locs i = some x)
    (hB : ∀ st Q, B st Q → Ex V n body st Q Qr Q) (hq : ∀ st, Qn st → Qn' st) : ∀ (ps : List PV) (k : Nat) (st : St), ForW B i keep P it Qn ps k st → Turns V n (.Name x xp) body keep P it Qn' Qr ps k st
  | [], k, st, h => ⟨h.1, hq _ h.2⟩
  | p :: ps, k, st, h => by
    have up : ∀ st2 : St, (∃ pre post, st2.ah = pre ++ (it, .raw (P (k + 1))) :: post ∧ ForW B i keep P it Qn ps (k + 1) ⟨st2.loc, pre ++ post⟩) → ∃ pre post, st2.ah = pre ++ (it, .raw (P (k + 1))) :: post ∧ Turns V n (.Name x xp) body keep P it Qn' Qr ps (k + 1) ⟨st2.loc, pre ++ post⟩ :=
      fun st2 h => h.elim fun pre h => h.elim fun post h => (i21 pre post h.1 (turns_of hx hB hq ps (k + 1) _ h.2))
    exact ⟨h.1, As_nameAt hx ((hB _ _ h.2).mono up (fun z0 z0 e => e) up)⟩
theorem Ws_ex (G : Good C ss fns bs fields) : ∀ (b : PB) (xs : List Stmt), okB (F.ck fns bs) b xs = true → ∀ (st : St) (Qn : St → Prop) (Qr : Kon) (Qc : St → Prop), Ws V n b xs st Qn Qr Qc → Ex V n (rebB b xs) st Qn Qr Qc
  | .nil, xs, hc, st, Qn, Qr, Qc, h => Ex_nil h
  | .asg i s e r, xs, hc, st, Qn, Qr, Qc, h => Ex_cons (Ex1_asgAt (eq_of_beq (and_l (and_l hc))) (((W_ev G e _ (and_r (and_l hc))).1 st _ h).mono fun p st1 h4 => Ws_ex G r _ (and_r hc) _ Qn Qr Qc h4) (swaps_of e _ _ _ _))
  | .asgT l e r, xs, hc, st, Qn, Qr, Qc, h =>
    Ex_cons (Ex1_tup (swaps_sole e _ _ _ _) (swappedN (by simpa using and_l (and_l (and_l hc)))) (((W_ev G e _ (and_r (and_l hc))).1 st _ h).mono fun p st1 h4 => (WT_as G (.tup l) (tgS (hd xs)) (and_r (and_l (and_l hc))) p st1 _ h4).mono fun st2 h5 => Ws_ex G r _ (and_r hc) _ Qn Qr Qc h5))
  | .asg2 i s j u e r, xs, hc, st, Qn, Qr, Qc, h =>
    Ex_cons (Ex1_pair (eq_of_beq (and_l (and_l (and_l (and_l hc))))) (eq_of_beq (and_r (and_l (and_l (and_l hc))))) (of_decide_eq_true (and_r (and_l (and_l hc)))) (and_l (and_r (and_l hc))) (swaps_sole e _ _ _ _) (((W_ev G e _ (and_r (and_r (and_l hc)))).1 st _ h).mono fun p st1 h7 => by
      refine x21 (on2_inv h7) fun a b ez0 h8 => ?_
      obtain rfl := ez0
      exact Ws_ex G r _ (and_r hc) _ Qn Qr Qc h8))
  | .asg3 i s j u k w e r, xs, hc, st, Qn, Qr, Qc, h =>
    Ex_cons (Ex1_triple (eq_of_beq (and_l (and_l (and_l (and_l hc))))) (eq_of_beq (and_l (and_r (and_l (and_l (and_l hc)))))) (eq_of_beq (and_r (and_r (and_l (and_l (and_l hc)))))) (of_decide_eq_true (and_r (and_l (and_l hc)))) (and_l (and_r (and_l hc))) (swaps_sole e _ _ _ _) (((W_ev G e _ (and_r (and_r (and_l hc)))).1 st _ h).mono fun p st1 h7 => by
      refine x31 (on3_inv h7) fun a b c ez0 h8 => ?_
      obtain rfl := ez0
      exact Ws_ex G r _ (and_r hc) _ Qn Qr Qc h8))
  | .aug i s op e r, xs, hc, st, Qn, Qr, Qc, h => Ex_cons (Ex1_augAt (eq_of_beq (and_l (and_l hc))) (by
      refine x21 (onLoc_inv h) fun y p hn h => ?_
      rw [hn]
      exact ((W_ev G e _ (and_r (and_l hc))).1 st _ h).mono fun q st1 h5 => (IoW_ok (V := V) (n := n) h5).mono fun v st2 h6 => Ws_ex G r _ (and_r hc) _ Qn Qr Qc h6))
  | .attr o s e r, xs, hc, st, Qn, Qr, Qc, h => Ex_cons (Ex1_attr_run (((W_ev G e _ (and_r (and_l hc))).1 st _ h).mono fun p st1 h4 => ((W_ev G o _ (and_l (and_l hc))).1 st1 _ h4).mono fun v st2 h5 => by
      refine x11 h5.h fun ah' hf hq => ?_
      cases hf with
      | mk k1 k2 k3 k4 => exact (i55 _ _ _ _ _ rfl k3 (.inl k2) k4 k1 (Ws_ex G r _ (and_r hc) _ Qn Qr Qc hq))
      | new k1 k2 k3 k4 => exact (i55 _ _ _ _ _ rfl k3 (.inr ⟨k2, rfl⟩) (by simpa using k4) k1 (Ws_ex G r _ (and_r hc) _ Qn Qr Qc hq))) (swaps_of e _ _ _ _))
  | .ret e r, xs, hc, st, Qn, Qr, Qc, h => Ex_cons (Ex1_ret ((W_ev G e _ hc).1 st _ h))
  | .ifs t a b r, xs, hc, st, Qn, Qr, Qc, h => Ex_cons (Ex1_if (((W_ev G t _ (and_l (and_l hc))).2 st _ h fun p st' hp => (onBool_inv hp).elim fun b h => ⟨b, h.1⟩).mono fun c st1 h5 =>
      ⟨fun q => (Ws_ex G a _ (and_l (and_r (and_l hc))) _ _ Qr Qc (h5.1 q)).mono (fun st2 h6 => Ws_ex G r _ (and_r hc) _ Qn Qr Qc h6) (fun z0 z0 e => e) (fun z0 e => e),
        fun q => (Ws_ex G b _ (and_r (and_r (and_l hc))) _ _ Qr Qc (h5.2 q)).mono (fun st2 h6 => Ws_ex G r _ (and_r hc) _ Qn Qr Qc h6) (fun z0 z0 e => e) (fun z0 e => e)⟩))
  | .loop t b r, xs, hc, st, Qn, Qr, Qc, h => by
    obtain ⟨ι, S, P, μ, i, h0, hs⟩ := h.h
    exact Ex_cons (Ex1_while S P μ i h0 fun i hi => ((W_ev G t _ (and_l (and_l hc))).2 _ _ (hs i hi) fun p st' hp => (onBool_inv hp).elim fun b h => ⟨b, h.1⟩).mono fun c st1 h5 =>
      ⟨fun q => Ws_ex G b _ (and_r (and_l hc)) _ _ Qr _ (h5.1 q), fun q => Ws_ex G r _ (and_r hc) _ Qn Qr Qc (h5.2 q)⟩)
  | .cont r, xs, hc, st, Qn, Qr, Qc, h => Ex_cons (Ex1_cont h)
  | .app i s e r, xs, hc, st, Qn, Qr, Qc, h =>
    Ex_cons (Ex1_expr (Ev_meth meth_append (Ev_var (eq_of_beq (and_l (and_l (and_l hc)))) (by
      refine x21 (onLoc_inv h) fun y p hn h => ?_
      refine x11 (onRef_inv h) fun a ez0 h => ?_
      obtain rfl := ez0
      rw [hn]
      obtain ⟨ps, hps⟩ := h.h
      refine ⟨.list hps, Es_one (((W_ev G e _ (and_r (and_l hc))).1 st _ h.r).mono fun p st1 h6 => ?_) (reb_star e _ _ _)⟩
      refine x22 h6.h fun qs ah' g1 g2 g3 => ?_
      exact Ca_append g1 g2 (Ws_ex G r _ (and_r hc) _ Qn Qr Qc g3))) rfl (and_r (and_l (and_l hc))) (reb_star e _ _ _) (fun z0 => rfl) (by rw [reb_star]; rfl)) (inter_no V) rfl)
  | .ext i s e r, xs, hc, st, Qn, Qr, Qc, h =>
    Ex_cons (Ex1_expr (Ev_meth meth_extend (Ev_var (eq_of_beq (and_l (and_l (and_l hc)))) (by
      refine x21 (onLoc_inv h) fun y p hn h => ?_
      refine x11 (onRef_inv h) fun a ez0 h => ?_
      obtain rfl := ez0
      rw [hn]
      obtain ⟨ps, hps⟩ := h.h
      refine ⟨.list hps, Es_one (((W_ev G e _ (and_r (and_l hc))).1 st _ h.r).mono fun p st1 h6 => ?_) (reb_star e _ _ _)⟩
      refine x11 (onRef_inv h6) fun b ez0 h6 => ?_
      obtain rfl := ez0
      refine x33 h6.h fun qs rs ah' g0 g1 g2 g3 => ?_
      exact Ca_extend g0 g1 g2 (Ws_ex G r _ (and_r hc) _ Qn Qr Qc g3))) rfl (and_r (and_l (and_l hc))) (reb_star e _ _ _) (fun z0 => rfl) (by rw [reb_star]; rfl)) (inter_no V) rfl)
  | .setI o j e r, xs, hc, st, Qn, Qr, Qc, h =>
    Ex_cons (Ex1_setItem (((W_ev G e _ (and_r (and_l hc))).1 st _ h).mono fun p st1 h4 => ((W_ev G o _ (and_l (and_l (and_l hc)))).1 st1 _ h4).mono fun x st2 h5 => ((W_ev G j _ (and_r (and_l (and_l hc)))).1 st2 _ h5).mono fun k st3 h6 => by
      refine x11 (onRef_inv h6) fun a ez0 h7 => ?_
      obtain rfl := ez0
      exact fun A s hp hv E vx vi v ok S => wpAny_mono (SrW_ok h7 A s hp hv E vx vi v ok S) (fun z0 s' zz => x11 zz fun st4 h8 S' => (i11 st4 (Ws_ex G r _ (and_r hc) _ Qn Qr Qc h8) S')) fun z0 z0 e => e) (swaps_of e _ _ _ _))
  | .forin i s e b r, xs, hc, st, Qn, Qr, Qc, h =>
    Ex_cons (Ex1_for (Qr := Qr) (fun z0 z0 => rfl) (fun v => set_plain e _ V.env v) (((W_ev (V := V) G e _ (and_r (and_l (and_l hc)))).1 st _ h).mono fun v st1 h5 => by
      refine x11 (onRef_inv h5) fun a ez0 h6 => ?_
      obtain rfl := ez0
      refine x21 h6.h fun all keep g1 g3 => ?_
      exact (i21 all keep g1.of (fun P it hit => turns_of (eq_of_beq (and_l (and_l (and_l hc)))) (fun st' Q hb => Ws_ex G b _ (and_r (and_l hc)) st' Q Qr Q hb) (fun st2 h6 => Ws_ex G r _ (and_r hc) _ Qn Qr Qc h6) all 0 st1 (g3 P it hit)))))
  | .raw r, xs, hc, st, Qn, Qr, Qc, h => Ex_cons (h.h.mono (fun st1 h1 => Ws_ex G r _ hc _ Qn Qr Qc h1) (fun z0 z0 e => e) (fun z0 e => e))
end
end Mine
end
section
open PySem PySem.W PyProof.Rows
set_option Elab.async false
set_option tactic.hygienic false
set_option genSizeOf false
set_option genInjectivity false
set_option maxRecDepth 100000
set_option maxHeartbeats 1000000
set_option linter.unusedVariables false
set_option linter.unusedSimpArgs false
namespace Mine
variable {C : Cx} {F : FnI} {V : Act C F} {n : Nat}

/-! ### comprehensions -/
noncomputable def NsIs (m : Str → Option Value) (o : Obj) : Prop := ∃ es ep, o.data = .dict es ep ∧ StrKeys es ∧ ∀ name, nsFind es name = m name
theorem Sim.front {h₀ : Heap} {h : HS} {L : Addr} {locs : List Str} {loc : Loc} {pre post : AH} {e : Addr × AObj} {hp : List PV} {hv : List Value} (S : Sim C h₀ L locs ⟨loc, pre ++ e :: post⟩ hp hv h) : Sim C h₀ L locs ⟨loc, e :: (pre ++ post)⟩ hp hv h := by
  obtain ⟨a, o⟩ := e
  refine x30 S fun m mu tl S => ?_
  refine x32 S.H.pick fun m1 c m2 ez0 H r => ?_
  obtain rfl := ez0
  have pm : List.Perm (m1 ++ (c ++ m2) ++ tl) (c ++ (m1 ++ m2) ++ tl) := by
    refine List.Perm.append_right _ ?_
    rw [← List.append_assoc, ← List.append_assoc]
    exact List.Perm.append_right _ List.perm_append_comm
  refine (i30 m (c ++ (m1 ++ m2)) tl ⟨S.F, fun p hp => S.N p (pm.mem_iff.mpr hp), ?_, HRel.cons r H, S.nm, S.X, S.R, S.O⟩)
  exact (pm.map (fun x => x.1)).nodup_iff.mp S.nd
theorem Sim.nsAt {h₀ : Heap} {h : HS} {L a : Addr} {locs : List Str} {loc : Loc} {post : AH} {hp : List PV} {hv : List Value} {mm : Str → Option Value} (S : Sim C h₀ L locs ⟨loc, (a, .raw (NsIs mm)) :: post⟩ hp hv h) :
    h.heap.Ns a mm ∧ (∀ h', Heap.SameBut a h.heap h' → Sim C h₀ L locs ⟨loc, post⟩ hp hv (h.to h')) ∧ ∀ h' mm', h'.Ns a mm' → Heap.SameBut a h.heap h' → Sim C h₀ L locs ⟨loc, (a, .raw (NsIs mm')) :: post⟩ hp hv (h.to h') := by
  obtain ⟨o, m, mu, tl, ⟨es, ep, hd, hk, hf⟩, S2, hget, hL, hn, hap⟩ := Sim.pickRaw (pre := []) S
  refine (i02 (i33 o es ep hget hd hk hf) (fun h' hs => (S2.but hL hn hap hs.extBut).sim) (fun h' mm' zz hs => x33 zz fun o' es' ep' g1 g2 g3 g4 => ?_))
  have S3 := S2.but hL hn hap hs.extBut
  refine S3.pushRaw (h := h.to h') (o := o') (i22 es' ep' g2 g3 g4) hap S3.F fun q hq => ?_
  rcases List.mem_cons.mp hq with e | e
  · subst e; exact (i02 g1 hL hn)
  · exact S3.N q e
/-- a test, and an element, inside a comprehension: x is its name, p what it has -/
noncomputable def CTt (V : Act C F) (n : Nat) (sc : Scope) (cl : List (Str × Addr)) (x : Str) (e : Expr) (p : PV) (st : St) (Q : Bool → AH → Prop) : Prop :=
  ∀ A s hp hv E L v m, m x = some v → V.Ok A n E → V.Sim ⟨st.loc, (L, .raw (NsIs m)) :: st.ah⟩ (p :: hp) (v :: hv) (vw s) →
    wpAny (M C) A (isTrue e (compEnvC sc cl L V.env) (eval e (compEnvC sc cl L V.env))) (fun b s' => ∃ ah', Q b ah' ∧ V.Sim ⟨st.loc, (L, .raw (NsIs m)) :: ah'⟩ (p :: hp) (v :: hv) (vw s')) E s
noncomputable def CEv (V : Act C F) (n : Nat) (sc : Scope) (cl : List (Str × Addr)) (x : Str) (e : Expr) (p : PV) (st : St) (Q : PV → AH → Prop) : Prop :=
  ∀ A s hp hv E L v m, m x = some v → V.Ok A n E → V.Sim ⟨st.loc, (L, .raw (NsIs m)) :: st.ah⟩ (p :: hp) (v :: hv) (vw s) →
    wpAny (M C) A (eval e (compEnvC sc cl L V.env)) (fun r s' => ∃ q ah', Q q ah' ∧ V.Sim ⟨st.loc, (L, .raw (NsIs m)) :: ah'⟩ (q :: p :: hp) (r :: v :: hv) (vw s')) E s
noncomputable def CTs (V : Act C F) (n : Nat) (sc : Scope) (cl : List (Str × Addr)) (x : Str) (ifs : List Expr) (p : PV) (st : St) (Q : Bool → AH → Prop) : Prop := match ifs with
  | [] => Q true st.ah
  | [e] => CTt V n sc cl x e p st Q
  | _ => False
/-- the turns of a comprehension -/
structure CBack (it acc : Addr) (P : Nat → Obj → Prop) (k : Nat) (out : List PV) (K : AH → Prop) (ah : AH) : Prop where
  h : ∃ pre post, ah = pre ++ (it, .raw (P k)) :: (acc, .list out) :: post ∧ K (pre ++ post)
noncomputable def CTurns (V : Act C F) (n : Nat) (sc : Scope) (cl : List (Str × Addr)) (x : Str) (elt : Expr) (ifs : List Expr) (it acc : Addr) (P : Nat → Obj → Prop) (keep : AH → Prop) (loc : Loc) (Qn : List PV → AH → Prop) : List PV → Nat → List PV → AH → Prop
  | [], k, out, ah => keep ah ∧ Qn out ah
  | p :: rest, k, out, ah => keep ah ∧ CTs V n sc cl x ifs p ⟨loc, (it, .raw (P (k + 1))) :: (acc, .list out) :: ah⟩ fun b ah1 =>
      if b then CEv V n sc cl x elt p ⟨loc, ah1⟩ fun q => CBack it acc P (k + 1) out fun ah2 => CTurns V n sc cl x elt ifs it acc P keep loc Qn rest (k + 1) (out ++ [q]) ah2
      else CBack it acc P (k + 1) out (fun ah2 => CTurns V n sc cl x elt ifs it acc P keep loc Qn rest (k + 1) out ah2) ah1
theorem UpdH.skip {a : Addr} {o o' : AObj} {l l' : AH} (h : UpdH a o o' l l') : ∀ p1 : AH, UpdH a o o' (p1 ++ l) (p1 ++ l')
  | [] => h
  | e :: p1 => .next (UpdH.skip h p1)
theorem Sim.tidy {h₀ : Heap} {h : HS} {L : Addr} {locs : List Str} {loc : Loc} {a b c : Addr × AObj} {pre post : AH} {hp : List PV} {hv : List Value} (S : Sim C h₀ L locs ⟨loc, a :: (pre ++ b :: c :: post)⟩ hp hv h) : Sim C h₀ L locs ⟨loc, a :: b :: c :: (pre ++ post)⟩ hp hv h := by
  have S1 := Sim.front (pre := a :: pre) (post := c :: post) S
  have S2 := Sim.front (pre := b :: a :: pre) (post := post) S1
  have S3 := Sim.front (pre := [c]) (post := a :: (pre ++ post)) S2
  exact Sim.front (pre := [b, c]) (post := pre ++ post) S3
/-- one turn of a comprehension, from its tests on -/
theorem comp_turn {T : List PV → AH → Prop} {elt : Expr} {x : Str} {ifs : List Expr} {sc : Scope} {cl : List (Str × Addr)} {it acc L : Addr} {P : Nat → Obj → Prop} {k : Nat} {p : PV} {v : Value} {out : List PV} {loc : Loc} {A : Around} {s : Shared} {hp : List PV} {hv : List Value} {R : Shared → Prop} {E : Value → Shared → Prop} {m : Str → Option Value} {ah : AH}
    (ok : V.Ok A n E) (hm : m x = some v) (hlt : out.length ≤ 1000000)
    (h : CTs V n sc cl x ifs p ⟨loc, ah⟩ fun b ah1 => if b then CEv V n sc cl x elt p ⟨loc, ah1⟩ fun q => CBack it acc P k out fun ah2 => T (out ++ [q]) ah2 else CBack it acc P k out (fun ah2 => T out ah2) ah1)
    (S : V.Sim ⟨loc, (L, .raw (NsIs m)) :: ah⟩ (p :: hp) (v :: hv) (vw s))
    (hR : ∀ out' ah' s', out'.length ≤ out.length + 1 → T out' ah' → V.Sim ⟨loc, (it, .raw (P k)) :: (L, .raw (NsIs m)) :: (acc, .list out') :: ah'⟩ hp hv (vw s') → R s') :
    wpAny (M C) A (forIn ifs true fun c r => if r = true then do let ok ← isTrue c (compEnvC sc cl L V.env) (eval c (compEnvC sc cl L V.env)); pure (ForInStep.yield ok) else pure (ForInStep.yield r))
      (fun b s₃ => if b = true then wpAny (M C) A (eval elt (compEnvC sc cl L V.env)) (fun y s₄ => wpAny (M C) A (call (.builtin "list.append") [.ref acc, y]) (fun z0 s₅ => R s₅) E s₄) E s₃ else R s₃) E s := by
  have back : ∀ out' ah5 (s5 : Shared), out'.length ≤ out.length + 1 → CBack it acc P k out' (fun ah2 => T out' ah2) ah5 → V.Sim ⟨loc, (L, .raw (NsIs m)) :: ah5⟩ hp hv (vw s5) → R s5 := by
    intro out' ah5 s5 hl5 hB S5
    refine x21 hB.h fun pre post e5 h5 => ?_
    rw [e5] at S5
    exact hR out' (pre ++ post) s5 hl5 h5 (Sim.front (pre := [_]) (Sim.tidy S5))
  have go : ∀ b (s4 : Shared) ah4, (if b then CEv V n sc cl x elt p ⟨loc, ah4⟩ (fun q => CBack it acc P k out fun ah2 => T (out ++ [q]) ah2) else CBack it acc P k out (fun ah2 => T out ah2) ah4) →
      V.Sim ⟨loc, (L, .raw (NsIs m)) :: ah4⟩ (p :: hp) (v :: hv) (vw s4) →
      if b = true then wpAny (M C) A (eval elt (compEnvC sc cl L V.env)) (fun y s₄ => wpAny (M C) A (call (.builtin "list.append") [.ref acc, y]) (fun z0 s₅ => R s₅) E s₄) E s4 else R s4 := by
    intro b s4 ah4 h4 S4
    cases b with
    | false => exact back out ah4 s4 (Nat.le_succ _) h4 S4.drop1
    | true =>
      refine wpAny_mono (h4 A s4 hp hv E L v m hm ok S4) (fun y s5 hx => ?_) fun z0 z0 e => e
      refine x21 hx fun q ah5 hB S5 => ?_
      refine x21 hB.h fun pre post e5 h5 => ?_
      rw [e5] at S5
      refine wpAny_mono ((Ca_append (V := V) (n := n) (Q := fun r st' => st' = ⟨loc, (L, .raw (NsIs m)) :: (pre ++ (it, .raw (P k)) :: (acc, .list (out ++ [q])) :: post)⟩) (.next (UpdH.skip (.next .here) pre)) hlt rfl) A s5 (p :: hp) (v :: hv) E [.ref acc, y] ok rfl (S5.push fun z0 => .ref acc)) (fun z0 s6 hx => ?_) fun z0 z0 e => e
      refine x21 hx fun r6 st6 e6 S6 => ?_
      rw [e6] at S6
      exact back (out ++ [q]) _ s6 (by rw [List.length_append]; exact Nat.le_refl _) ⟨pre, post, rfl, h5⟩ S6.drop1.drop1
  match ifs, h with
  | [], h => exact wpAny_tests_nil (go true s _ h S)
  | [c], h =>
    refine wpAny_tests_one (wpAny_mono (h A s hp hv _ L v m hm ok S) (fun b s4 hx => ?_) fun z0 z0 e => e)
    refine x11 hx fun ah4 h4 S4 => ?_
    exact go b s4 ah4 h4 S4
theorem getn {α : Type} {l : List α} {k : Nat} (h : l[k]? = none) : l.drop k = [] := List.drop_of_length_le (List.getElem?_eq_none_iff.mp h)
theorem gets {α : Type} {l : List α} {k : Nat} {a : α} (h : l[k]? = some a) : k < l.length ∧ l.drop k = a :: l.drop (k + 1) := by
  obtain ⟨h1, rfl⟩ := List.getElem?_eq_some_iff.mp h
  exact ⟨h1, List.drop_eq_getElem_cons h1⟩
/-- how a comprehension stands when j items are still to come -/
structure CompI (V : Act C F) (T : List PV → Nat → List PV → AH → Prop) (it acc L : Addr) (P : Nat → Obj → Prop) (loc : Loc) (all hp : List PV) (hv : List Value) (j : Nat) (s : Shared) : Prop where
  h : ∃ k out ah m, j + k = all.length ∧ out.length ≤ k ∧ T (all.drop k) k out ah ∧ V.Sim ⟨loc, (it, .raw (P k)) :: (L, .raw (NsIs m)) :: (acc, .list out) :: ah⟩ hp hv (vw s)
theorem comp_loop {elt iter : Expr} {x : Str} {px : Pos} {ifs : List Expr} {sc : Scope} {cl : List (Str × Addr)} {pos : Pos} {it acc L : Addr} {P : Nat → Obj → Prop} {all : List PV} {keep : AH → Prop} {loc : Loc} {Qn : List PV → AH → Prop} {A : Around} {s : Shared} {py : PV} {vy : Value} {hp : List PV} {hv : List Value} {R : Result → Shared → Prop} {mm : Str → Option Value} {ah : AH}
    (ok : ∀ E, V.Ok A n E) (hx : sc.names.lookup x = some .local) (hkind : sc.kind = .function) (N : NextOk V n py vy it P all keep) (hsz : all.length ≤ 1000000)
    (h : CTurns V n sc cl x elt ifs it acc P keep loc Qn all 0 [] ah)
    (S : V.Sim ⟨loc, (it, .raw (P 0)) :: (L, .raw (NsIs mm)) :: (acc, .list []) :: ah⟩ (py :: hp) (vy :: hv) (vw s))
    (hR : ∀ s' m out ah', Qn out ah' → V.Sim ⟨loc, (L, .raw (NsIs m)) :: (acc, .list out) :: ah'⟩ (py :: hp) (vy :: hv) (vw s') → R (.ok .next) s') :
    codeAny (M C) A (.compLoop (.ListComp elt [⟨.Name x px, iter, ifs, 0⟩] sc pos) 0 (.ref it) (.ref acc) (compEnvC sc cl L V.env)) R s := by
  refine codeAny_compLoop_tests (CompI V (CTurns V n sc cl x elt ifs it acc P keep loc Qn) it acc L P loc all (py :: hp) (vy :: hv)) ?_ all.length ⟨0, [], ah, mm, rfl, Nat.le_refl _, h, S⟩
  intro j s1 hI
  refine x43 hI.h fun k out ah1 m1 e1 hout h1 S1 => ?_
  have hkeep : keep ah1 := by
    generalize all.drop k = r at h1
    cases r with
    | nil => exact h1.1
    | cons _ _ => exact h1.1
  refine N.h k A s1 hp hv _ loc _ _ (ok _) (N.mono _ _ (N.mono _ _ hkeep)) S1 (fun ha s2 S2 => ?_) (fun p ha v s2 S2 => ?_)
  · rw [getn ha] at h1
    exact hR s2 m1 out ah1 h1.2 S2
  · obtain ⟨hk, e⟩ := gets ha
    rw [e] at h1
    refine x02 (Sim.nsAt (Sim.front (pre := [_]) S2)) fun hN z0 hset => ?_
    refine wpAny_assign_Name (wpAny_storeName_local (env := compEnvC sc cl L V.env) (lookup_relabel_local hx) hN (fun h2 hn2 hs2 => ?_) (by show (sc.kind == .class || (sc.kind == .module && L != mainGlobals)) = false; rw [hkind]; rfl))
    refine comp_turn (ok _) (m := fun y => if y = x then some v else m1 y) (T := CTurns V n sc cl x elt ifs it acc P keep loc Qn (all.drop (k + 1)) (k + 1)) (if_pos rfl) (by exact (Nat.le_trans hout (Nat.le_trans (Nat.le_of_lt hk) hsz))) h1.2 (hset h2 _ hn2 hs2) fun out' ah' s' hl hT S' => ?_
    exact (i11 (j - 1) (by exact (a_j1 e1 hk)) ⟨k + 1, out', ah', _, by exact (a_j2 e1 hk), by exact (Nat.le_trans hl (Nat.succ_le_succ hout)), hT, S'⟩)
theorem newNil_at {st : St} {hp : List PV} {hv : List Value} {A : Around} {s : Shared} {E : Value → Shared → Prop} {Q : Value → Shared → Prop} (S : V.Sim st hp hv (vw s)) (h : ∀ acc s', acc ∉ st.ah.map (·.1) → V.Sim ⟨st.loc, (acc, .list []) :: st.ah⟩ hp hv (vw s') → Q (.ref acc) s') : wpAny (M C) A (newList []) Q E s := by
  refine x30 S fun m mu tl S => ?_
  exact wpAny_newList (h s.heap.objs.size _ S.fresh (Sim0.newList (h' := s.heap.push { cls := .type "list", data := .seq ([] : List Value).toArray }) (k := 0) (ps := []) (vs := []) S rfl (fun p hp => Nat.ne_of_lt (lt_of_news S.N p hp)) (S.F.push _) (News.push S.F S.N _)).drop1) (by simp)
/-- a comprehension, up to what is done with it -/
theorem comp_core {elt iter : Expr} {x : Str} {px : Pos} {ifs : List Expr} {sc : Scope} {cl : List (Str × Addr)} {pos pos' : Pos} {use : Option (Value → Sem Unit)} {Q : Value → Shared → Prop} {A : Around} {s : Shared} {E : Value → Shared → Prop} {hp : List PV} {hv : List Value}
    (hclos : closureFor sc V.env = pure cl) (hcell : ∀ y ∈ sc.names, y.2 ≠ .cell) (hkind : sc.kind = .function) (hnames : ∀ y ∈ sc.names, y.2 = .local → sc.names.lookup y.1 = some .local) (hx : sc.names.lookup x = some .local)
    (hs : ∀ v, foldedSetIterable iter V.env v = pure v) (ok : V.Ok A n E)
    (h : wpAny (M C) A (eval iter V.env) (fun v s1 => ∃ p st1, V.Sim st1 (p :: hp) (v :: hv) (vw s1) ∧ ∃ all keep, all.length ≤ 1000000 ∧ ItOf (V.on none) n p st1 all keep ∧ ∀ it P acc, acc ∉ st1.ah.map (·.1) → ∃ Qn, CTurns (V.on none) n sc cl x elt ifs it acc P keep st1.loc Qn all 0 [] st1.ah ∧
      ∀ L m out ah' s', Qn out ah' → V.Sim ⟨st1.loc, (L, .raw (NsIs m)) :: (acc, .list out) :: ah'⟩ hp hv (vw s') → compPost (M C) A E use Q (.ref acc) L (.ok .next) s') E s) :
    wpAny (M C) A (comprehension (.ListComp elt [⟨.Name x px, iter, ifs, 0⟩] sc pos) sc V.env pos' (newList []) false (eval iter V.env) use) Q E s := by
  refine wpAny_comprehension_free rfl hs hclos hkind hnames (wpAny_mono h (fun v s1 zz => x21 zz fun p st1 S1 h0 => x22 h0 fun all keep hsz hI hT => ?_) fun z0 z0 e => e)
  refine hI A s1 hp hv E v _ (ok.calm E) S1.on fun it P s2 hit N S2 => newNil_at (V := V.on none) S2 fun acc s3 hacc S3 => ?_
  refine x11 (hT it P acc fun q => hacc (List.mem_cons_of_mem _ q)) fun Qn hT1 hQ => ?_
  refine wpAny_newFunctionEnv hcell (by intro y hy; simp at hy) (fun h4 hn4 hs4 => ?_) hkind
  have SL := (Sim.raws S3 (P := fun z0 => True) { cls := .type "dict", data := .dict #[] } trivial rfl).1
  refine x45 (Sim.pickRaw (pre := []) SL) fun o m mu tl z0 S4 hget hL hn hap => ?_
  refine x33 hn4 fun o' es ep g1 g2 g3 g4 => ?_
  have S6 := Sim.reraw (P := NsIs (fun z0 => none)) S4 hL hn hap hs4.extBut g1 (i22 es ep g2 g3 (by simpa using g4))
  have S7 := Sim.front (pre := [_, _]) S6
  have loop : ∀ tk, codeAny (M C) A (.compLoop (.ListComp elt [⟨.Name x px, iter, ifs, 0⟩] sc pos) 0 (.ref it) (.ref acc) (compEnvC sc cl s3.heap.objs.size V.env))
        (compPost (M C) A E use Q (.ref acc) s3.heap.objs.size) { s3 with heap := h4, toks := tk } := by
    intro tk
    refine comp_loop (V := V.on none) (fun E => ok.calm E) hx hkind N hsz hT1 S7 fun s' mm out ah' hq S8 => ?_
    exact hQ _ _ out ah' s' hq S8.off.drop1
  exact codeAny_compStart_list (loop _) (N.self 0 A { s3 with heap := h4, toks := _ } (p :: hp) (v :: hv) _ _ _ _ S7 (loop _))
theorem Ev_comp {elt iter : Expr} {x : Str} {px : Pos} {ifs : List Expr} {sc : Scope} {cl : List (Str × Addr)} {pos : Pos} {st : St} {Q : Kon}
    (hclos : closureFor sc V.env = pure cl) (hcell : ∀ y ∈ sc.names, y.2 ≠ .cell) (hkind : sc.kind = .function) (hnames : ∀ y ∈ sc.names, y.2 = .local → sc.names.lookup y.1 = some .local) (hx : sc.names.lookup x = some .local)
    (hs : ∀ v, foldedSetIterable iter V.env v = pure v)
    (h : Ev V n iter st fun p st1 => ∃ all keep, all.length ≤ 1000000 ∧ ItOf (V.on none) n p st1 all keep ∧ ∀ it P acc, acc ∉ st1.ah.map (·.1) → CTurns (V.on none) n sc cl x elt ifs it acc P keep st1.loc (fun out ah' => Q (.ref acc) ⟨st1.loc, (acc, .list out) :: ah'⟩) all 0 [] st1.ah) :
    Ev V n (.ListComp elt [⟨.Name x px, iter, ifs, 0⟩] sc pos) st Q := by
  intro A s hp hv E ok S
  rw [eval_ListComp]
  refine comp_core (use := none) hclos hcell hkind hnames hx hs ok (wpAny_mono (h A s hp hv E ok S) (fun v s1 zz => x21 zz fun p st1 h0 S1 => x22 h0 fun all keep h1 h2 h3 => (i21 p st1 S1 (i22 all keep h1 h2 (fun it P acc ha => (i11 _ (h3 it P acc ha) (fun L m out ah' s' hq S' => ?_)))))) fun z0 z0 e => e)
  refine x02 (Sim.nsAt S') fun k1 k2 z0 => ?_
  exact (i11 m k1 (fun h' hs' => (i21 _ _ hq ((k2 h' hs').push fun z0 => .ref acc))))
/-- a comprehension kept under a name -/
theorem Ex1_asgComp {elt iter : Expr} {x y : Str} {px py : Pos} {ifs : List Expr} {sc : Scope} {cl : List (Str × Addr)} {pos spos : Pos} {st : St} {Qn : St → Prop} {Qr : Kon} {Qc : St → Prop}
    (hsw : swapsWith (.ListComp elt [⟨.Name x px, iter, ifs, 0⟩] sc pos) (some (.Name y py)) spos.line V.env = pure true)
    (hclos : closureFor sc V.env = pure cl) (hcell : ∀ y ∈ sc.names, y.2 ≠ .cell) (hkind : sc.kind = .function) (hnames : ∀ y ∈ sc.names, y.2 = .local → sc.names.lookup y.1 = some .local) (hx : sc.names.lookup x = some .local)
    (hs : ∀ v, foldedSetIterable iter V.env v = pure v)
    (h : Ev V n iter st fun p st1 => ∃ all keep, all.length ≤ 1000000 ∧ ItOf (V.on none) n p st1 all keep ∧ ∀ it P acc, acc ∉ st1.ah.map (·.1) → CTurns (V.on none) n sc cl x elt ifs it acc P keep st1.loc (fun out ah' => ∀ L m, As V n (.Name y py) (.ref acc) ⟨st1.loc, (L, .raw (NsIs m)) :: (acc, .list out) :: ah'⟩ fun st2 => ∃ ah2, st2.ah = (L, .raw (NsIs m)) :: ah2 ∧ Qn ⟨st2.loc, ah2⟩) all 0 [] st1.ah) :
    Ex1 V n (.Assign [.Name y py] (.ListComp elt [⟨.Name x px, iter, ifs, 0⟩] sc pos) spos) st Qn Qr Qc := by
  intro A s hp hv E ok S
  rw [exec_Assign_Name_used _ _ _ _ hsw]
  refine wpAny_bind (wpAny_standAt (wpAny_bind ?_))
  show wpAny _ A (do let _ ← comprehension (.ListComp elt [⟨.Name x px, iter, ifs, 0⟩] sc pos) sc V.env _ (newList []) false (eval iter V.env) (some (assign (.Name y py) V.env))) _ _ s
  refine wpAny_bind (wpAny_mono (comp_core (Q := fun z0 s' => PstF V hp hv Qn Qr Qc .next s') (use := some (assign (.Name y py) V.env)) hclos hcell hkind hnames hx hs ok (wpAny_mono (h A s hp hv E ok S) (fun v s1 zz => x21 zz fun p st1 h0 S1 => x22 h0 fun all keep h1 h2 h3 => (i21 p st1 S1 (i22 all keep h1 h2 (fun it P acc ha => (i11 _ (h3 it P acc ha) (fun L m out ah' s' hq S' => ?_)))))) fun z0 z0 e => e)) (fun z0 s' hq => wpAny_pure (wpAny_pure hq)) fun z0 z0 e => e)
  refine wpAny_mono (hq L m A s' hp hv E (.ref acc) ok (S'.push fun z0 => .ref acc)) (fun z0 s2 hx => ?_) fun z0 z0 e => e
  obtain ⟨⟨l2, a2⟩, ⟨ah2, e2, hn⟩, S2⟩ := hx
  obtain rfl : a2 = _ := e2
  refine x02 (Sim.nsAt S2) fun k1 k2 z0 => ?_
  exact (i11 m k1 (fun h' hs' => (i11 _ hn (k2 h' hs'))))

/-! ### inside a comprehension -/
theorem CEv_name {sc : Scope} {cl : List (Str × Addr)} {x : Str} {xp : Pos} {p : PV} {st : St} {Q : PV → AH → Prop} (hkind : sc.kind = .function) (hx : sc.names.lookup x = some .local) (hd : (x == ("__debug__" : Str)) = false) (h : Q p st.ah) : CEv V n sc cl x (.Name x xp) p st Q := by
  intro A s hp hv E L v m hm ok S
  refine x02 (Sim.nsAt S) fun k1 z0 z0 => ?_
  refine wpAny_Name (wpAny_loadName_local (env := compEnvC sc cl L V.env) hkind (lookup_relabel_local hx) k1 hm (i21 p _ h ?_)) hd
  refine x30 S fun m2 mu tl S => ?_
  cases S.O with
  | cons a b => exact (i30 m2 mu tl ⟨S.F, S.N, S.nd, S.H, S.nm, S.X, S.R, .cons a (.cons a b)⟩)
/-- a call of a def of the text on the comprehension's own name -/
theorem CEv_call1 {sc : Scope} {cl : List (Str × Addr)} {x g : Str} {f : Addr} {xp gp pos : Pos} {p : PV} {st : St} {Q : PV → AH → Prop} (G : GlobAt C g f) (hkind : sc.kind = .function) (hx : sc.names.lookup x = some .local) (hd : (x == ("__debug__" : Str)) = false)
    (hg : ∀ L, (compEnvC sc cl L V.env).kindOf g = some .globalImplicit) (hgd : (g == ("__debug__" : Str)) = false)
    (h : ∀ L m, Fn C n f [p] ((L, .raw (NsIs m)) :: st.ah) fun r ah' => ∃ ah2, ah' = (L, .raw (NsIs m)) :: ah2 ∧ Q r ah2) : CEv V n sc cl x (.Call (.Name g gp) [.Name x xp] [] pos) p st Q := by
  intro A s hp hv E L v m hm ok S
  refine x30 (id S) fun m0 mu0 tl0 S0 => ?_
  refine Call_Name rfl (PySem.Calls.Name_function_global (env := compEnvC sc cl L V.env) hkind (hg L) (PySem.Calls.loadGlobal_global (env := compEnvC sc cl L V.env) ((topRead_of V.T).g.keeps S0.F.keep) (mg_of V.X (topRead_of V.T).g G.at_) ?_) hgd)
  refine callWith_K (K := C.K) V.X G.keep (Calls.spliced_cons ?_) rfl rfl
  refine wpAny_mono (CEv_name (V := V) (n := n) (st := st) (Q := fun r ah' => r = p ∧ ah' = st.ah) hkind hx hd ⟨rfl, rfl⟩ A s hp hv E L v m hm ok S) (fun r s1 hx => ?_) fun z0 z0 e => e
  obtain ⟨q, ah1, ⟨eq, ea⟩, S1⟩ := hx
  subst eq ea
  refine Calls.spliced_nil ?_
  refine x30 (id S1) fun m1 mu1 tl1 S1' => ?_
  refine ⟨V.X.keeps S1'.F.keep, ?_⟩
  exact wpAny_callR (h L m _ V A s1 (q :: hp) (v :: hv) E [r] st.loc ok rfl S1) fun u s' y => x21 y fun q2 st' z S' => x11 z.2 fun ah2 e2 e3 => i21 q2 ah2 e3 (Sim.at_ S' z.1 e2)
theorem CTt_plain {sc : Scope} {cl : List (Str × Addr)} {x : Str} {e : Expr} {p : PV} {st : St} {Q : Bool → AH → Prop} (h : CEv V n sc cl x e p st fun r ah' => ∃ b, r = .bool b ∧ Q b ah')
    (he : ∀ env whole, isTrue e env whole = (do let v ← whole; standAt e.pos; holding [v] (truthy v))) : CTt V n sc cl x e p st Q := by
  intro A s hp hv E L v m hm ok S
  refine isTrue_plain (wpAny_mono (h A s hp hv E L v m hm ok S) (fun r s1 zz => x21 zz fun q ah' h0 S1 => x11 h0 fun b e h1 => ?_) fun z0 z0 e => e) (he _ _)
  subst e
  obtain rfl := S1.bool1
  exact wpAny_truthy_bool (i11 ah' h1 S1.drop1)
theorem CTt_not {sc : Scope} {cl : List (Str × Addr)} {x : Str} {e : Expr} {pos : Pos} {p : PV} {st : St} {Q : Bool → AH → Prop} (h : CTt V n sc cl x e p st fun b ah' => Q (!b) ah') : CTt V n sc cl x (.UnaryOp .Not e pos) p st Q :=
  fun A s hp hv E L v m hm ok S => isTrue_not (h A s hp hv E L v m hm ok S)
end Mine
end
section
open PySem PySem.W PyProof.Rows
set_option Elab.async false
set_option tactic.hygienic false
set_option genSizeOf false
set_option genInjectivity false
set_option maxRecDepth 100000
set_option maxHeartbeats 1000000
set_option linter.unusedVariables false
set_option linter.unusedSimpArgs false
namespace Mine
variable {C : Cx} {F : FnI} {V : Act C F} {n : Nat}

/-! ### cells -/
noncomputable def CellR (a : Addr) (o : Obj) : Prop := o.data = .cell (some (.ref a))
noncomputable def CellA (o : Obj) : Prop := ∃ v, o.data = .cell v
theorem Ev_cell {x : Str} {c a : Addr} {xp : Pos} {st : St} {Q : Kon} (hc : V.cl.lookup x = some c) (hx : V.env.kindOf x = some .cell) (hd : (x == ("__debug__" : Str)) = false) (hm : (c, AObj.raw (CellR a)) ∈ st.ah) (h : Q (.ref a) st) : Ev V n (.Name x xp) st Q := by
  intro A s hp hv E ok S
  refine x30 (id S) fun m mu tl S0 => ?_
  refine x11 (S0.H.raw hm) fun o hmu hP => ?_
  exact nameX_C S0.N hc (List.mem_append_left _ hmu) hP (i21 _ st h (S.push fun z0 => .ref a)) F.hk hx hd
theorem store_cell {x : Str} {c a : Addr} {P : Obj → Prop} {st : St} {ah' : AH} {A : Around} {s : Shared} {hp : List PV} {hv : List Value} {E : Value → Shared → Prop} {Q : Unit → Shared → Prop} (hc : V.cl.lookup x = some c) (hx : V.env.kindOf x = some .cell) (hP : ∀ o, P o → CellA o)
    (U : UpdH c (.raw P) (.raw (CellR a)) st.ah ah') (S : V.Sim st (.ref a :: hp) (.ref a :: hv) (vw s)) (h : ∀ s', V.Sim ⟨st.loc, ah'⟩ hp hv (vw s') → Q () s') : wpAny (M C) A (storeName V.env x (.ref a)) Q E s := by
  refine x23 (S.setRaw U) fun o tl hget hPo hO back => ?_
  obtain ⟨v, hv'⟩ := hP o hPo
  refine wpAny_storeName_cell F.hk hx hc (i11 o hget hv') fun h' zz hs => x11 zz fun o' g1 g2 => h { s with heap := h' } ?_
  exact back o' h' g2 hs g1 hp hv hO.tl'
theorem Ex1_asgCell {x : Str} {c : Addr} {xp : Pos} {P : Obj → Prop} {e : Expr} {pos : Pos} {st : St} {Qn : St → Prop} {Qr : Kon} {Qc : St → Prop} (hc : V.cl.lookup x = some c) (hx : V.env.kindOf x = some .cell) (hP : ∀ o, P o → CellA o)
    (h : Ev V n e st fun p st1 => ∃ a ah', p = .ref a ∧ UpdH c (.raw P) (.raw (CellR a)) st1.ah ah' ∧ Qn ⟨st1.loc, ah'⟩) (hs : swapsWith e (some (.Name x xp)) pos.line V.env = pure false) : Ex1 V n (.Assign [.Name x xp] e pos) st Qn Qr Qc := by
  intro A s hp hv E ok S
  refine wpAny_Assign_Name (wpAny_mono (h A s hp hv E ok S) (fun v s1 zz => x21 zz fun p st1 h0 S1 => x22 h0 fun a ah' ep U h1 => ?_) fun z0 z0 e => e) hs
  subst ep
  obtain rfl := S1.ref1
  exact store_cell hc hx hP U S1 fun s' S' => (i11 _ h1 S')
/-! ### a list's first items -/
/-! ### texts joined -/
theorem strs_of {tl : Led} : ∀ {ts : List (List Nat)} {vs : List Value}, VsRel tl (ts.map .str) vs → ∃ l : List (Str × Tok), vs = strValues l ∧ l.map (·.1.cps.toList) = ts
  | [], _, h => (i11 [] h.none rfl)
  | t :: ts, vs, h => by
    refine x22 (VsRel.open h) fun v vs ez0 a b => ?_
    obtain rfl := ez0
    refine x21 a.str_inv fun x tk ez0 e => ?_
    obtain rfl := ez0
    refine x11 (strs_of b) fun l ez0 e2 => ?_
    obtain rfl := ez0
    exact (i11 ((x, tk) :: l) rfl (by rw [List.map_cons, e2, e]))
theorem join_fold {x : Str} (hx : x.cps.toList = []) : ∀ (r : List Str) (acc : Array Nat), (r.foldl (fun acc p => acc ++ x.cps ++ p.cps) acc).toList = acc.toList ++ (r.map (·.cps.toList)).flatten
  | [], acc => (List.append_nil _).symm
  | y :: r, acc => by
    show (r.foldl (fun acc p => acc ++ x.cps ++ p.cps) (acc ++ x.cps ++ y.cps)).toList = _
    rw [join_fold hx r, Array.toList_append, Array.toList_append, hx, List.append_nil, List.append_assoc]
    rfl
theorem join_nil {x : Str} (hx : x.cps.toList = []) : ∀ ts : List Str, (Txt.join x ts).cps.toList = (ts.map (·.cps.toList)).flatten
  | [] => rfl
  | y :: r => join_fold hx r y.cps
theorem meth_join : MethAt "join" "str" "str.join" := ⟨PySem.F.plainAttrs_str, PySem.F.slot_str_join, PySem.F.type_str_join⟩
theorem Ca_join {a : Addr} {ts : List (List Nat)} {st : St} {Q : Kon} (hm : (a, AObj.list (ts.map .str)) ∈ st.ah) (hs : (ts.map (·.length)).sum ≤ 1000000) (h : Q (.str ts.flatten) st) : Ca V n (.builtin "str.join") [.str [], .ref a] st Q := by
  intro A s hp hv E vs ok hl S
  · refine x20 (len2 hl) fun v u e2 => ?_
    subst e2
    refine x21 (Sim.str1 S) fun x t ez0 hx => ?_
    obtain rfl := ez0
    obtain rfl := Sim.ref1 (Sim.drop1 S)
    have S' := Sim.drop1 (Sim.drop1 S)
    refine x52 (Sim.list S' hm) fun vs k m mu tl S1 hmu r => ?_
    refine x11 (strs_of r) fun l ez0 hl2 => ?_
    obtain rfl := ez0
    have e0 : ∀ y : Str, y.length = y.cps.toList.length := fun y => by rw [len_eq]
    refine SC.join (S1.N.isList (List.mem_append_left _ hmu)) rfl (joinOk_of ?_) fun t' k' => (i21 _ st h (S'.str_push ?_))
    · have e1 : x.length = 0 := by rw [e0, hx]; rfl
      have e2 : (l.map (·.1)).map (·.length) = ts.map (·.length) := by rw [← hl2, List.map_map, List.map_map]; exact List.map_congr_left fun p z0 => e0 _
      rw [e1, e2]; lia
    · rw [join_nil hx, List.map_map, ← hl2]; rfl
end Mine
end
section
open PySem PySem.W PyProof.Rows
set_option Elab.async false
set_option tactic.hygienic false
set_option genSizeOf false
set_option genInjectivity false
set_option maxRecDepth 100000
set_option maxHeartbeats 1000000
set_option linter.unusedVariables false
set_option linter.unusedSimpArgs false
namespace Mine
variable {C : Cx} {F : FnI} {V : Act C F} {n : Nat}

/-! ### expressions inside a comprehension -/
inductive Held (p : PV) (v : Value) : List PV → List Value → Prop
  | here {ps vs} : Held p v (p :: ps) (v :: vs)
  | next {q u ps vs} : Held p v ps vs → Held p v (q :: ps) (u :: vs)
theorem Held.rel {tl : Led} {p : PV} {v : Value} {ps : List PV} {vs : List Value} (h : Held p v ps vs) (r : VsRel tl ps vs) : VRel tl p v := by
  induction h with
  | here => exact r.hd
  | next _ ih => exact ih r.tl'
noncomputable def Iv (V : Act C F) (n : Nat) (env : Env) (p : PV) (v : Value) (e : Expr) (st : St) (Q : Kon) : Prop :=
  ∀ A s hp hv E, V.Ok A n E → Held p v hp hv → V.Sim st hp hv (vw s) → wpAny (M C) A (eval e env) (Pst V hp hv Q) E s
section
variable {env : Env} {p : PV} {v : Value} {st : St} {Q : Kon}
theorem Iv_own {x : Str} {xp : Pos} {m : Str → Option Value} (hk : env.scope.kind = .function) (hx : env.kindOf x = some .local) (hd : (x == ("__debug__" : Str)) = false) (hm : (env.locals, AObj.raw (NsIs m)) ∈ st.ah) (hv : m x = some v) (h : Q p st) : Iv V n env p v (.Name x xp) st Q := by
  intro A s hp hvs E ok hh S
  refine x30 S fun m0 mu tl S0 => ?_
  obtain ⟨o, hmu, es, ep, g1, g2, g3⟩ := S0.H.raw hm
  exact wpAny_Name (wpAny_loadName_local hk hx (i33 o es ep (S0.N.get (List.mem_append_left _ hmu)) g1 g2 g3) hv (i21 p st h (i30 m0 mu tl ⟨S0.F, S0.N, S0.nd, S0.H, S0.nm, S0.X, S0.R, .cons (hh.rel S0.O) S0.O⟩))) hd
theorem Iv_cell {x : Str} {c a : Addr} {xp : Pos} (hk : env.scope.kind = .function) (hx : env.kindOf x = some .cell) (hc : env.cells.lookup x = some c) (hd : (x == ("__debug__" : Str)) = false) (hm : (c, AObj.raw (CellR a)) ∈ st.ah) (h : Q (.ref a) st) : Iv V n env p v (.Name x xp) st Q := by
  intro A s hp hvs E ok hh S
  refine x30 (id S) fun m0 mu tl S0 => ?_
  refine x11 (S0.H.raw hm) fun o hmu hP => ?_
  exact wpAny_Name (wpAny_loadName_cell hk hx hc (i11 o (S0.N.get (List.mem_append_left _ hmu)) hP) (i21 _ st h (S.push fun z0 => .ref a))) hd
theorem Iv_int {i : Int} {k : Nat} {pos : Pos} (h : Q (.int i) st) : Iv V n env p v (.Constant (.int i) k pos) st Q :=
  fun A s hp hv E ok hh S => wpAny_Constant_int (i21 _ st h (S.push fun z0 => .int _ _))
theorem Iv_str {l : List Nat} {k : Nat} {pos : Pos} (h : Q (.str l) st) : Iv V n env p v (.Constant (.str ⟨l.toArray⟩) k pos) st Q :=
  fun A s hp hv E ok hh S => wpAny_Constant_str (i21 _ st h (S.str_push rfl))
theorem Iv_item {value i : Expr} {pos : Pos} (h : Iv V n env p v value st fun x st1 => Iv V n env p v i st1 fun j st2 => Gi V n x j st2 Q)
    (hs : ∀ o v, subscripted i false o v = operate [o, v] (getItem o v)) : Iv V n env p v (.Subscript value i pos) st Q := by
  intro A s hp hv E ok hh S
  refine Subscript_ (wpAny_mono (h A s hp hv E ok hh S) (fun vx s1 hx => ?_) fun z0 z0 e => e)
  refine x21 hx fun x st1 h1 S1 => ?_
  refine wpAny_mono (h1 A s1 _ _ E ok hh.next S1) (fun vi s2 hx => ?_) fun z0 z0 e => e
  refine x21 hx fun j st2 h2 S2 => ?_
  exact h2 A s2 hp hv E vx vi value i ok S2 hs
theorem Iv_bin {l r : Expr} {op : Operator} {pos : Pos} (h : Iv V n env p v l st fun x st1 => Iv V n env p v r st1 fun y st2 => Bo V n op x y st2 Q) : Iv V n env p v (.BinOp l op r pos) st Q := by
  intro A s hp hv E ok hh S
  refine wpAny_BinOp (wpAny_mono (h A s hp hv E ok hh S) (fun u s1 hx => ?_) fun z0 z0 e => e)
  refine x21 hx fun x st1 h1 S1 => ?_
  exact wpAny_mono (h1 A s1 _ _ E ok hh.next S1) (fun u s2 zz => x21 zz fun y st2 h2 S2 => h2 A s2 _ _ E _ _ ok S2) fun z0 z0 e => e
/-- what the comprehension's frame sees of the module -/
structure Sees (C : Cx) (env : Env) (g : Str) : Prop where
  k : env.scope.kind = .function
  gl : env.globals = mainGlobals
  b : env.builtins = builtinsNs
  x : env.kindOf g = some .globalImplicit
  d : (g == ("__debug__" : Str)) = false
theorem Iv_len {lp pos : Pos} {e : Expr} (G : BiAt C "len" (.builtin "len")) (W : Sees C env "len") (he : starEach [e] env = (false, eval e env) :: starEach [] env) (h : Iv V n env p v e st fun q st1 => Ca V n (.builtin "len") [q] st1 Q) : Iv V n env p v (.Call (.Name "len" lp) [e] [] pos) st Q := by
  intro A s hp hv E ok hh S
  refine x30 (id S) fun m mu tl S₀ => ?_
  have T := topRead_of V.T
  have hg := T.g.keeps S₀.F.keep
  have hb := T.b.keeps S₀.F.keep
  refine Call_Name rfl (Calls.Name_function_global W.k W.x (Calls.loadGlobal_builtin (by rw [W.gl]; exact hg) (mg_none_of V.X T.g G.miss) (by rw [W.b]; exact hb) ((T.builtins _ G.ne).trans G.boot) ?_) W.d)
  rw [he]
  refine Calls.callWith_builtin rfl (Calls.evalArgs_plain (Calls.spliced_cons (wpAny_mono (h A s hp hv E ok hh S) (fun u s1 hx => ?_) fun z0 z0 e => e)))
  refine x21 hx fun q st1 h1 S1 => ?_
  exact Calls.spliced_nil (h1 A s1 hp hv E [u] ok rfl S1)
theorem Iv_call2 {g : Str} {f : Addr} {gp pos : Pos} {e1 e2 : Expr} (G : GlobAt C g f) (W : Sees C env g) (he1 : starEach [e1, e2] env = (false, eval e1 env) :: starEach [e2] env) (he2 : starEach [e2] env = (false, eval e2 env) :: starEach [] env)
    (h : Iv V n env p v e1 st fun q1 st1 => Iv V n env p v e2 st1 fun q2 st2 => Fn C n f [q1, q2] st2.ah fun r ah' => Q r ⟨st2.loc, ah'⟩) : Iv V n env p v (.Call (.Name g gp) [e1, e2] [] pos) st Q := by
  intro A s hp hv E ok hh S
  refine x30 (id S) fun m mu tl S₀ => ?_
  have T := topRead_of V.T
  refine Call_Name rfl (Calls.Name_function_global W.k W.x (Calls.loadGlobal_global (by rw [W.gl]; exact T.g.keeps S₀.F.keep) (mg_of V.X T.g G.at_) ?_) W.d)
  refine callWith_K (K := C.K) V.X G.keep (spliced_more (wpAny_mono (h A s hp hv E ok hh S) (fun u s1 hx => ?_) fun z0 z0 e => e) he1) he1 (by rw [he2]; rfl)
  refine x21 hx fun q1 st1 h1 S1 => ?_
  refine spliced_more (wpAny_mono (h1 A s1 _ _ E ok hh.next S1) (fun u2 s2 hx => ?_) fun z0 z0 e => e) he2
  refine x21 hx fun q2 st2 h2 S2 => ?_
  refine Calls.spliced_nil ?_
  refine x30 (id S2) fun m2 mu2 tl2 S2' => ?_
  refine ⟨V.X.keeps S2'.F.keep, ?_⟩
  have S3 : V.Sim st2 ([q1, q2] ++ hp) ([u, u2] ++ hv) (vw s2) := by
    cases S2'.O with
    | cons a b => cases b with
      | cons b c => exact (i30 m2 mu2 tl2 ⟨S2'.F, S2'.N, S2'.nd, S2'.H, S2'.nm, S2'.X, S2'.R, .cons b (.cons a c)⟩)
  exact wpAny_callR (h2 _ V A s2 hp hv E [u, u2] st2.loc ok rfl S3) fun v s' y => x21 y fun p st' z S' => i21 p ⟨_, st'.ah⟩ z.2 (Sim.at_ S' z.1 rfl)
end
theorem CEv_of {sc : Scope} {cl : List (Str × Addr)} {x : Str} {e : Expr} {p : PV} {st : St} {Q : PV → AH → Prop}
    (h : ∀ L v m, m x = some v → Iv V n (compEnvC sc cl L V.env) p v e ⟨st.loc, (L, .raw (NsIs m)) :: st.ah⟩ fun q st' => ∃ ah', st' = ⟨st.loc, (L, .raw (NsIs m)) :: ah'⟩ ∧ Q q ah') : CEv V n sc cl x e p st Q := by
  intro A s hp hv E L v m hm ok S
  refine wpAny_mono (h L v m hm A s _ _ E ok .here S) (fun r s1 zz => x21 zz fun q st1 h0 S1 => x11 h0 fun ah' e h1 => ?_) fun z0 z0 e => e
  subst e
  exact (i21 q ah' h1 S1)
theorem CTt_cmp {sc : Scope} {cl : List (Str × Addr)} {x : Str} {l r : Expr} {op : CmpOp} {pos : Pos} {p : PV} {st : St} {Q : Bool → AH → Prop} (hm : behindInMarks op r = false)
    (h : ∀ L v m, m x = some v → Iv V n (compEnvC sc cl L V.env) p v l ⟨st.loc, (L, .raw (NsIs m)) :: st.ah⟩ fun y st1 => Iv V n (compEnvC sc cl L V.env) p v r st1 fun z st2 => Co V n op y z st2 fun b st' => ∃ ah', st' = ⟨st.loc, (L, .raw (NsIs m)) :: ah'⟩ ∧ Q b ah') : CTt V n sc cl x (.Compare l [op] [r] pos) p st Q := by
  intro A s hp hv E L v m hmx ok S
  refine wpAny_isTrue_Compare1 (wpAny_mono (h L v m hmx A s _ _ E ok .here S) (fun u s1 zz => x21 zz fun y st1 h1 S1 => ?_) fun z0 z0 e => e) hm
  refine wpAny_mono (h1 A s1 _ _ E ok (.next .here) S1) (fun u2 s2 hx => ?_) fun z0 z0 e => e
  refine x21 hx fun z st2 h2 S2 => ?_
  refine wpAny_mono (h2 A s2 _ _ E _ _ ok S2) (fun u3 s3 hx => ?_) fun z0 z0 e => e
  obtain ⟨b, e, st3, ⟨ah', e2, h3⟩, S3⟩ := hx
  subst e e2
  exact wpAny_truthy_bool (i11 ah' h3 S3)
end Mine
end
section
open PySem PySem.W PyProof.Rows
set_option Elab.async false
set_option tactic.hygienic false
set_option genSizeOf false
set_option genInjectivity false
set_option maxRecDepth 100000
set_option maxHeartbeats 1000000
set_option linter.unusedVariables false
set_option linter.unusedSimpArgs false
namespace Mine

/-! ### super() in an exception's own __init__ -/
theorem sup_init : Slot "super" "__init__" "super.__init__" := .of (owner := "super") (n := "__init__") (by rw [typeLookup_type, builtinLookup_eq_fast]; kernel_rfl) (by decide +kernel) (by decide +kernel) (by decide +kernel) (by first | exact .inl (by decide +kernel) | exact .inr (by decide +kernel)) (by rw [isSubtype_type]; kernel_rfl)
theorem sup_mro : mroOf (.type "super") = pure [.type "super", .type "object"] := by rw [mroOf_type]; kernel_rfl
theorem sup_called : TypeCalled "super" "super.__new__" "super.__init__" :=
  ⟨by decide +kernel, by decide +kernel, (i20 _ _ sup_mro), madeBy_type sup_mro (by rw [typeLookup_type, builtinLookup_eq_fast]; kernel_rfl) (by decide +kernel), by decide +kernel, by rw [isSubtype_type]; kernel_rfl, sup_init⟩
theorem sup_new_entry : entryFor table "super.__new__" = some Builtin.«super.__new__» := entryFor_of_tree (by kernel_rfl)
theorem sup_init_entry : entryFor table "super.__init__" = some Builtin.«super.__init__» := entryFor_of_tree (by kernel_rfl)
theorem sup_new_args (a b : Value) : checkBuiltinCall "super.__new__" ⟨[.type "super", a, b], []⟩ = pure () := by kernel_rfl
theorem sup_init_args (o a b : Value) : argsOk "super.__init__" ⟨[o, a, b], []⟩ := by unfold argsOk; kernel_rfl

section
variable {prog : Program} {w : World} {M : Model} {A : Around} {E : Value → Shared → Prop} {h : Heap} {g : Array GenState} {d : Drawn} {t : Nat} {os : OsState}
theorem isType_cls {D : Addr} {oD : Obj} {cd : ClassData} {Q : Bool → Shared → Prop} (hD : h.get? D = some oD) (hd : oD.data = .cls cd) (hq : Q true ⟨h, g, d, t, os⟩) : wpAny M A (isType (.ref D)) Q E ⟨h, g, d, t, os⟩ := by
  unfold isType loadHead
  refine wpAny_bind (wpAny_loadPart_at hD ?_)
  rw [hd]
  exact wpAny_pure hq
theorem isType_fields {x : Addr} {ox : Obj} {vs : Array Value} {Q : Bool → Shared → Prop} (hx : h.get? x = some ox) (hd : ox.data = .fields vs) (hq : Q false ⟨h, g, d, t, os⟩) : wpAny M A (isType (.ref x)) Q E ⟨h, g, d, t, os⟩ := by
  unfold isType loadHead
  refine wpAny_bind (wpAny_loadPart_at hx ?_)
  rw [hd]
  exact wpAny_pure hq
theorem sup_new {a b : Value} {Q : Value → Shared → Prop} (hq : Q (.ref h.objs.size) ⟨h.push { cls := .type "super", data := .fields #[.none, .none, .none] }, g, d, t, os⟩) :
    codeAny (model prog w) A (.call (.builtin "super.__new__") ⟨[.type "super", a, b], []⟩) (wants Q E) ⟨h, g, d, t, os⟩ := by
  refine codeAny_call_builtin (by decide +kernel) sup_new_entry (wpAny_of_eq (sup_new_args a b) ?_)
  unfold Builtin.«super.__new__» newFields
  repeat (first | (with_reducible refine wpAny_newObj_type ?_ (by size_fits)) | wp_step)
  exact hq
variable {nm q : Str} {C N : Addr} {bs bm : List Value} {hdct : Bool} {sn : List Str} {sub : List Value} {ab : Bool} {col : Option Bool} {dd : Option Addr} {k0 k1 k2 k3 k5 : Option Value} {newId : String}
noncomputable abbrev supObj (D x C : Value) : Obj := { cls := .type "super", data := .fields #[D, x, C] }
/-- super(C, x), x an exception of the class C -/
theorem sup_call {x : Addr} {ox : Obj} {vs : Array Value} {Q : Value → Shared → Prop} (hC : h.get? C = some (excClassObj nm q C N bs bm hdct sn sub ab col dd k0 k1 k2 k3 k5 newId))
    (hx : h.get? x = some ox) (hxc : ox.cls = .ref C) (hxd : ox.data = .fields vs)
    (hq : ∀ h', h'.get? h.objs.size = some (supObj (.ref C) (.ref x) (.ref C)) → (∀ y o, h.get? y = some o → h'.get? y = some o) → Q (.ref h.objs.size) ⟨h', g, d, t, os⟩) :
    wpAny (model prog w) A (call (.type "super") [.ref C, .ref x]) Q E ⟨h, g, d, t, os⟩ := by
  have ft := sup_called
  refine x20 ft.mro fun c tl hmro => ?_
  have hmade := ft.made
  have hsub := ft.sub
  refine wpAny_call (codeAny_of_tree ?_)
  show wpAny _ _ (callAny (.type "super") _) _ _ _
  refine wpAny_pure ⟨Code.quiet_builtin _ (by decide +kernel), codeAny_builtin F.entry_type_call ?_⟩
  rw [Around.under_plain (weight_type_call_type "super" _ []) rfl]
  have h1 := ft.notType
  have h2 := ft.canCreate
  have hct : ∀ {M : Model} {A : Around} {Q : Unit → Shared → Prop} {E : Value → Shared → Prop}, Q () ⟨h, g, d, t, os⟩ → wpAny M A (checkTypeCall "super" ⟨[.ref C, .ref x], []⟩) Q E ⟨h, g, d, t, os⟩ := fun hq => by
    unfold checkTypeCall
    repeat (first | (with_reducible refine isType_cls hC rfl ?_) | wp_step)
    all_goals exact hq
  repeat (any_goals (first | assumption | (with_reducible refine hct ?_) | wp_step))
  refine codeAny_mono (sup_new (E := E) (Q := fun v s => v = .ref h.objs.size ∧ s = ⟨h.push { cls := .type "super", data := .fields #[.none, .none, .none] }, g, d, t, os⟩) ⟨rfl, rfl⟩) fun r s₁ hr => ?_
  cases r with
  | error e => exact hr
  | ok f => cases f with
    | ret v =>
      refine x01 hr fun e1 e2 => ?_
      subst e1 e2
      have hso : (h.push { cls := .type "super", data := .fields #[.none, .none, .none] }).get? h.objs.size = some { cls := .type "super", data := .fields #[.none, .none, .none] } := Heap.get?_push_at rfl rfl
      have hC' := Heap.get?_push_of_some { cls := .type "super", data := .fields #[.none, .none, .none] } hC
      have hx' := Heap.get?_push_of_some { cls := .type "super", data := .fields #[.none, .none, .none] } hx
      have hT : (⟨h.push { cls := .type "super", data := .fields #[.none, .none, .none] }, g, d, t, os⟩ : Shared).TypeIs (.ref h.objs.size) "super" := (i11 _ hso rfl)
      have hli := ft.init.lookup
      have hbi := ft.init.bind (.ref h.objs.size)
      have hcC : (Value.ref C :: bm).contains (.ref C) = true := by simp
      repeat (any_goals (first | assumption | wp_step))
      refine codeAny_call_builtin ft.init.plain sup_init_entry (ft.init.check _ _ _ _ _ _ _ _ hT (sup_init_args _ _ _) ?_)
      unfold Builtin.«super.__init__» noKeywords
      repeat (first | (with_reducible refine isType_cls hC' rfl ?_) | (with_reducible refine isType_fields hx' hxd ?_) | (with_reducible refine wpAny_isSubtype_exc hC' ?_; rw [hcC]) | (with_reducible refine wpAny_loadPart_at hx' ?_; rw [hxc]) | wp_step)
      have e1 := Heap.get?_update_self (Obj.mapFields fun l => l.setIfInBounds 0 (Value.ref C)) hso rfl
      have e2 := Heap.get?_update_self (Obj.mapFields fun l => l.setIfInBounds 1 (Value.ref x)) e1 rfl
      have e3 := Heap.get?_update_self (Obj.mapFields fun l => l.setIfInBounds 2 (Value.ref C)) e2 rfl
      refine hq _ e3 fun y o ey => ?_
      have hne : h.objs.size ≠ y := Nat.ne_of_gt (Heap.lt_size ey)
      rw [Heap.get?_update_other _ _ hne, Heap.get?_update_other _ _ hne, Heap.get?_update_other _ _ hne]
      exact Heap.get?_push_of_some _ ey
    | _ => exact hr
/-! ### its attribute __init__ : the base's own, bound -/
theorem sup_ga : Slot "super" "__getattribute__" "super.__getattribute__" := .of (owner := "super") (n := "__getattribute__") (by rw [typeLookup_type, builtinLookup_eq_fast]; kernel_rfl) (by decide +kernel) (by decide +kernel) (by decide +kernel) (by first | exact .inl (by decide +kernel) | exact .inr (by decide +kernel)) (by rw [isSubtype_type]; kernel_rfl)
theorem sup_ga_entry : entryFor table "super.__getattribute__" = some Builtin.«super.__getattribute__» := entryFor_of_tree (by kernel_rfl)
theorem sup_ga_args (o a : Value) : argsOk "super.__getattribute__" ⟨[o, a], []⟩ := by unfold argsOk; kernel_rfl
theorem sup_ga_canon : (Manifest.canonical "super.__getattribute__" != "object.__getattribute__") = true := by decide +kernel
theorem wd_get : Slot "wrapper_descriptor" "__get__" "wrapper_descriptor.__get__" := .of (owner := "wrapper_descriptor") (n := "__get__") (by rw [typeLookup_type, builtinLookup_eq_fast]; kernel_rfl) (by decide +kernel) (by decide +kernel) (by decide +kernel) (by first | exact .inl (by decide +kernel) | exact .inr (by decide +kernel)) (by rw [isSubtype_type]; kernel_rfl)
theorem wd_get_entry : entryFor table "wrapper_descriptor.__get__" = some Builtin.«wrapper_descriptor.__get__» := entryFor_of_tree (by kernel_rfl)
theorem wd_get_args (a b c : Value) : argsOk "wrapper_descriptor.__get__" ⟨[a, b, c], []⟩ := by unfold argsOk; kernel_rfl
theorem exc_own_init : classOwn (.type "Exception") "__init__" = pure (some (.builtin "Exception.__init__")) := by kernel_rfl
theorem exc_init_type : typeOf (.builtin "Exception.__init__") = pure (.type "wrapper_descriptor") := by show builtinType _ = _; rw [builtinType_eq_fast]; kernel_rfl
noncomputable abbrev mwObj (x : Value) : Obj := { cls := .type "method-wrapper", data := .fields #[.builtin "Exception.__init__", x] }
theorem notOpaque {what how : String} {Q : Unit → Shared → Prop} (ho : Looks M h (opaqueClassAbove (.ref C)) none) (hq : Q () ⟨h, g, d, t, os⟩) : wpAny M A (notOfAnOpaqueClass what how (.ref C)) Q E ⟨h, g, d, t, os⟩ := by
  unfold notOfAnOpaqueClass
  refine wpAny_bind (Looks.at ho ?_)
  repeat wp_step
  all_goals exact hq
theorem wd_bound {x : Addr} {ox : Obj} {Q : Fin → Shared → Prop} (hC : h.get? C = some (excClassObj nm q C N bs excBm hdct sn sub ab col dd k0 k1 k2 k3 k5 newId)) (hx : h.get? x = some ox) (hxc : ox.cls = .ref C)
    (hq : Q (.done (.ret (.ref h.objs.size))) ⟨h.push (mwObj (.ref x)), g, d, t, os⟩) :
    wpAny (model prog w) A (Builtin.«wrapper_descriptor.__get__» ⟨[.builtin "Exception.__init__", .ref x, .ref C], []⟩) Q E ⟨h, g, d, t, os⟩ := by
  have hcC : (Value.ref C :: excBm).contains (.type "Exception") = true := by rw [List.contains_cons, PySem.F.excBase_Exception.hasB, Bool.or_true]
  unfold Builtin.«wrapper_descriptor.__get__»
  repeat (first | (with_reducible refine wpAny_isSubtype_exc hC ?_; rw [hcC]) | (with_reducible refine wpAny_loadPart_at hx ?_; rw [hxc]) | wp_step)
  rw [show ".".intercalate ("Exception.__init__".cutAt '.').dropLast = "Exception" by decide +kernel]
  refine wpAny_isSubtype_exc hC ?_
  rw [hcC]
  unfold newFields
  repeat (first | (with_reducible refine wpAny_newObj_type ?_ (by size_fits)) | wp_step)
  all_goals exact hq
theorem sup_ga_init {so x : Addr} {ox : Obj} {tk : Tok} {Q : Fin → Shared → Prop} (hC : h.get? C = some (excClassObj nm q C N bs excBm hdct sn sub ab col dd k0 k1 k2 k3 k5 newId)) (hx : h.get? x = some ox) (hxc : ox.cls = .ref C)
    (hso : h.get? so = some (supObj (.ref C) (.ref x) (.ref C))) (hno : Looks (model prog w) h (opaqueClassAbove (.ref C)) none) (hxC : x ≠ C)
    (hq : Q (.done (.ret (.ref h.objs.size))) ⟨h.push (mwObj (.ref x)), g, d, t, os⟩) :
    wpAny (model prog w) A (Builtin.«super.__getattribute__» ⟨[.ref so, .str "__init__" tk], []⟩) Q E ⟨h, g, d, t, os⟩ := by
  have hne : (Value.ref x == Value.ref C) = false := by simp [hxC]
  have hlk := wd_get.lookup
  have hdt : (supObj (.ref C) (.ref x) (.ref C)).data = .fields #[.ref C, .ref x, .ref C] := rfl
  have f0 : (#[.ref C, .ref x, .ref C] : Array Value)[0]? = some (.ref C) := rfl
  have f1 : (#[.ref C, .ref x, .ref C] : Array Value)[1]? = some (.ref x) := rfl
  have f2 : (#[.ref C, .ref x, .ref C] : Array Value)[2]? = some (.ref C) := rfl
  have ht : (⟨h, g, d, t, os⟩ : Shared).TypeIs (.builtin "Exception.__init__") "wrapper_descriptor" := exc_init_type
  have hl : ((Value.ref C :: excBm).dropWhile (· != Value.ref C)).drop 1 = excBm := by simp [List.dropWhile]
  unfold Builtin.«super.__getattribute__»
  repeat (first
    | (with_reducible refine wpAny_field hso hdt f0 ?_) | (with_reducible refine wpAny_field hso hdt f1 ?_) | (with_reducible refine wpAny_field hso hdt f2 ?_)
    | (with_reducible refine notOpaque hno ?_)
    | (with_reducible refine wpAny_mroOf_exc hC ?_; rw [hl])
    | (with_reducible refine wpAny_of_eq exc_own_init ?_)
    | (with_reducible refine wpAny_typeOf ht ?_)
    | (with_reducible refine wpAny_call_entry wd_get ht wd_get_entry ?_ (wd_get_args _ _ _))
    | (with_reducible refine wd_bound hC hx hxc ?_)
    | (simp only [hne, Bool.false_eq_true, if_false])
    | wp_step)
  exact (i11 _ rfl (wpAny_pure (wpAny_pure (wpAny_pure hq))))
theorem sup_method {so x : Addr} {ox : Obj} {pl : Sem Bool} {Q : Value × List Value → Shared → Prop} (hC : h.get? C = some (excClassObj nm q C N bs excBm hdct sn sub ab col dd k0 k1 k2 k3 k5 newId)) (hx : h.get? x = some ox) (hxc : ox.cls = .ref C)
    (hso : h.get? so = some (supObj (.ref C) (.ref x) (.ref C))) (hno : Looks (model prog w) h (opaqueClassAbove (.ref C)) none) (hxC : x ≠ C)
    (hq : Q (.ref h.objs.size, []) ⟨h.push (mwObj (.ref x)), g, d, t + 1, os⟩) : wpAny (model prog w) A (getMethod (.ref so) "__init__" pl) Q E ⟨h, g, d, t, os⟩ := by
  have hlk := sup_ga.lookup
  have hcan := sup_ga_canon
  have hT : ∀ t', (⟨h, g, d, t', os⟩ : Shared).TypeIs (.ref so) "super" := fun z0 => (i11 _ hso rfl)
  unfold getMethod
  refine wpAny_bind (wpAny_specialOf (hT _) hlk ?_)
  show wpAny _ _ (if (Manifest.canonical "super.__getattribute__" != "object.__getattribute__") = true then _ else _) _ _ _
  rw [if_pos hcan]
  unfold getAttr getAttrBy
  refine wpAny_bind (wpAny_bind (wpAny_mkText (wpAny_holding (wpAny_bind (wpAny_typeOf (hT _) (wpAny_bind (wpAny_of_eq hlk ?_)))))))
  show wpAny _ _ (getAttrByItsOwn (.ref so) (.str "__init__" t) (.type "super") (.builtin "super.__getattribute__") true false) _ _ _
  unfold getAttrByItsOwn hookBefore callGetattribute boundAndCalled
  refine wpAny_bind (wpAny_of_eq (show (if onTheHeap (.type "super") then typeLookup (.type "super") "__getattr__" else pure none) = pure none from rfl) ?_)
  refine wpAny_bind (wpAny_attempt (wpAny_holding ?_))
  show wpAny _ _ (bindSpecial (.builtin "super.__getattribute__") (.ref so) >>= _) _ _ _
  refine wpAny_bind (wpAny_of_eq (sup_ga.bind _) ?_)
  refine wpAny_mono (Q := fun v s' => v = .ref h.objs.size ∧ s' = ⟨h.push (mwObj (.ref x)), g, d, t + 1, os⟩) (E := fun z0 z0 => False)
    (wpAny_call_entry sup_ga (hT _) sup_ga_entry (sup_ga_init hC hx hxc hso hno hxC (i12 _ rfl rfl rfl)) (sup_ga_args _ _)) (fun v s' hv => ?_) fun z0 z0 z => z.elim
  obtain ⟨rfl, rfl⟩ := hv
  exact wpAny_pure (wpAny_pure hq)
noncomputable abbrev excO (C : Addr) (dd : Option Addr) (t0 : Value) : Obj := { cls := .ref C, dict := dd, data := .fields #[t0, .none, .none, .none, .bool false, .none] }
theorem mw_call {b x ta : Addr} {dx : Option Addr} {v : Value} {Q : Value → Shared → Prop} (hC : h.get? C = some (excClassObj nm q C N bs excBm hdct sn sub ab col dd k0 k1 k2 k3 k5 newId)) (hx : h.get? x = some (excO C dx (.ref ta)))
    (hb : h.get? b = some (mwObj (.ref x)))
    (hq : ∀ h' t1, h'.get? x = some (excO C dx t1) → (∀ y o, y ≠ x → h.get? y = some o → h'.get? y = some o) → Q .none ⟨h', g, d, t, os⟩) :
    wpAny (model prog w) A (call (.ref b) [v]) Q E ⟨h, g, d, t, os⟩ := by
  have F := PySem.F.excBase_Exception
  refine wpAny_call (codeAny_of_tree ?_)
  show wpAny _ _ (callAny (.ref b) _) _ _ _
  unfold callAny
  refine wpAny_bind (wpAny_load hb ?_)
  simp only []
  have hcC : (Value.ref C :: excBm).contains (.type "Exception") = true := by rw [List.contains_cons, PySem.F.excBase_Exception.hasB, Bool.or_true]
  unfold checkBoundCall
  repeat (first | (with_reducible refine wpAny_isSubtype_exc hC ?_; rw [hcC]) | (with_reducible refine wpAny_loadPart_at hx ?_) | wp_step)
  refine ⟨Code.quiet_builtin _ (by decide +kernel), codeAny_builtin F.initEntry ?_⟩
  unfold Builtin.«BaseException.__init__» Builtin.BaseException.bexcPut
  repeat (first | (with_reducible refine wpAny_loadPart_at hx ?_) | wp_step)
  have e1 := Heap.get?_update_self (Obj.mapFields fun l => l.setIfInBounds 0 (Value.ref h.objs.size)) (Heap.get?_push_of_some { cls := .type "tuple", data := .seq #[v] } hx) rfl
  refine hq _ _ e1 fun y o hne ey => ?_
  rw [Heap.get?_update_other _ _ (Ne.symm hne)]
  exact Heap.get?_push_of_some _ ey
end
end Mine
end
section
open PySem PySem.W
set_option Elab.async false
set_option tactic.hygienic false
set_option genSizeOf false
set_option genInjectivity false
set_option maxRecDepth 100000
set_option maxHeartbeats 1000000
set_option linter.unusedVariables false
set_option linter.unusedSimpArgs false
namespace Mine
section
variable {prog : Program} {w : World} {A : Around} {E : Value → Shared → Prop} {s : Shared} {env : Env}
/-- in a def's own frame no comprehension stands around -/
theorem noComps {M : Model} {body : List Stmt} {Q : List Env → Shared → Prop} (h : Q [] s) : wpAt M A (.func body env) comprehensionsAround Q E s := by
  unfold comprehensionsAround callersCodes
  refine wpAt_bind (wpAt_bind (wpAt_stack fun p below => ?_))
  dsimp only
  have e : pastTheWaiting ((.func body env, p) :: below) = (.func body env, p) :: pastTheWaiting.go false (some (.func body env)) below := rfl
  rw [e]
  split
  · rename_i hc
    exact absurd (show (some env.frame != some env.frame) = true from hc) (by simp)
  · exact wpAt_of_wpAny (wpAny_pure (wpAt_of_wpAny (wpAny_pure h)))
/-- `super().attr`: up to the call of super -/
theorem sup_node {body : List Stmt} {p0 p1 : Pos} {attr : Str} {whole : Sem Value} {f cc : Addr} {of oc : Obj} {fd : FuncData} {ar : Arg} {vs : Array Value} {file : Str} {tf : Tok} {Q : Value → Shared → Prop}
    (hks : env.kindOf "super" = some .globalImplicit) (hkc : env.kindOf "__class__" = some .free) (hat : (attr == ("__class__" : Str)) = false) (hfu : env.func = some f) (hf : s.heap.get? f = some of) (hfd : of.data = .func fd)
    (hp : (fd.params.posonlyargs ++ fd.params.args).head? = some ar) (hco : env.code = .ref cc) (hcc : s.heap.get? cc = some oc) (hoc : oc.data = .fields vs) (hvs : vs[2]? = some (.str file tf))
    (hfile : ((prog.main.file : Str) == file) = true) (htop : (prog.main.scope.names.lookup ("super" : Str)).isSome = false)
    (h : wpAny (model prog w) A (loadName env "super") (fun g s₁ => g = .type "super" ∧ wpAny (model prog w) A (loadName env "__class__") (fun cls s₂ => wpAny (model prog w) A (loadName env ar.arg) (fun self s₃ =>
      wpAny (model prog w) A (isType cls) (fun b s₄ => b = true ∧ wpAny (model prog w) A (call (.type "super") [cls, self]) Q E s₄) E s₃) E s₂) E s₁) E s) :
    wpAt (model prog w) A (.func body env) (attributeBase (.Call (.Name "super" p0) [] [] p1) attr env whole) Q E s := by
  unfold attributeBase
  simp only [bne_self_eq_false, hat, hks, hkc, hfu, hco, Bool.or_false, Bool.or_self, Bool.false_eq_true, if_false, Option.isSome_some, if_true, pure_bind]
  unfold funcData
  refine wpAt_bind (wpAt_of_wpAny (wpAny_bind (wpAny_load hf ?_)))
  rw [hfd]
  refine wpAny_pure ?_
  simp only [hp]
  refine wpAt_bind (wpAt_of_wpAny (wpAny_askSetting (wpAt_bind (wpAt_of_wpAny (wpAny_field hcc hoc hvs ?_)))))
  have hfile' : ((model prog w).prog.main.file == file) = true := hfile
  have htop' : (List.lookup (Str.ofString "super") (model prog w).prog.main.scope.names).isSome = false := htop
  simp only [hfile', htop', if_true, Bool.false_eq_true, if_false]
  refine wpAt_bind (wpAt_of_wpAny (wpAny_rule (wpAt_bind (wpAt_of_wpAny (wpAny_standAt (wpAt_bind (wpAt_of_wpAny (wpAny_mono h (fun g s₁ h₁ => ?_) fun z0 z0 z => z))))))))
  obtain ⟨rfl, h₁⟩ := h₁
  refine wpAt_bind (wpAt_of_wpAny (wpAny_mono h₁ (fun cls s₂ h₂ => wpAt_bind (noComps ?_)) fun z0 z0 z => z))
  show wpAt _ _ _ (loadName env ar.arg >>= _) _ _ _
  refine wpAt_bind (wpAt_of_wpAny (wpAny_mono h₂ (fun self s₃ h₃ => wpAt_bind (wpAt_of_wpAny (wpAny_mono h₃ (fun b s₄ h₄ => ?_) fun z0 z0 z => z))) fun z0 z0 z => z))
  obtain ⟨rfl, h₄⟩ := h₄
  exact wpAt_of_wpAny h₄
end
end Mine
end
section
open PySem PySem.W
set_option Elab.async false
set_option tactic.hygienic false
set_option genSizeOf false
set_option genInjectivity false
set_option maxRecDepth 100000
set_option maxHeartbeats 1000000
set_option linter.unusedVariables false
set_option linter.unusedSimpArgs false
namespace Mine
section
variable {prog : Program} {w : World} {A : Around} {E : Value → Shared → Prop} {s : Shared} {env : Env} {c : Code}
/-- a first statement that asks for the frame's own code, then the rest -/
theorem at_cons {st : Stmt} {rest : List Stmt} {Q : Flow → Shared → Prop} (h : wpAt (model prog w) A c (exec st env) (fun f s' => f = .next ∧ wpAny (model prog w) A (execs rest env) Q E s') E s) :
    wpAt (model prog w) A c (execs (st :: rest) env) Q E s := fun Γ p hc hΓ => by
  rw [execs_cons, Sem.wp_bind']
  refine Sem.wp_mono _ Γ _ (fun f p' s' h' => ?_) (fun z0 z0 z0 h' => h') _ _ (h Γ p hc hΓ)
  obtain ⟨rfl, h2⟩ := h'
  exact h2 Γ p' hΓ
theorem at_expr {e : Expr} {pos : Pos} {Q : Flow → Shared → Prop} (h : wpAt (model prog w) A c (eval e env) (fun z0 => Q .next) E s)
    (hi : interactive env = false) (hs : swapsWith e none pos.line env = pure false) : wpAt (model prog w) A c (exec (.Expr e pos) env) Q E s := by
  rw [exec_Expr env e pos hi hs]
  exact wpAt_bind (wpAt_of_wpAny (wpAny_standAt (wpAt_bind (wpAt_mono h (fun v s' h' => wpAt_of_wpAny (wpAny_dropValue h')) fun z0 z0 x => x))))
theorem at_meth {o : Expr} {name : Str} {apos pos : Pos} {args : List Expr} {pl : Sem Bool} {Q : Value → Shared → Prop}
    (h : wpAt (model prog w) A c (attributeBase o name env (eval o env)) (fun ov s₁ => wpAny (model prog w) A (getMethod ov name pl) (fun fx s₂ => wpAny (model prog w) A (callWith pos fx.1 fx.2 (backTo pos (starEach args env)) []) Q E s₂) E s₁) E s)
    (he : eval (.Call (.Attribute o name apos) args [] pos) env = (do
      let ov ← attributeBase o name env (eval o env)
      standAt apos.atName
      let (f, first) ← holding [ov] (getMethod ov name pl)
      callWith pos f first (backTo pos (starEach args env)) [])) :
    wpAt (model prog w) A c (eval (.Call (.Attribute o name apos) args [] pos) env) Q E s := by
  rw [he]
  exact wpAt_bind (wpAt_mono h (fun ov s₁ h₁ => wpAt_of_wpAny (wpAny_bind (wpAny_standAt (wpAny_bind (wpAny_holding (wpAny_mono h₁ (fun fx s₂ h₂ => h₂) fun z0 z0 x => x)))))) fun z0 z0 x => x)
/-- a frame whose body asks for its own code -/
theorem at_func {body : List Stmt} {R : Result → Shared → Prop}
    (h : wpAt (model prog w) (A.deeper env) (.func body env) (execs body env) (fun f s' => R (.ok (.ret (match f with | .ret v => v | _ => .none))) s')
      (fun e s' => wpAny (model prog w) (A.deeper env) (leaving env e) (fun z0 s'' => R (.error e) s'') (fun e' s'' => R (.error e') s'') s') s) : codeAny (model prog w) A (.func body env) R s := by
  refine codeAny_of_treeAt ?_
  show wpAt _ (A.deeper env) _ (do point; match ← (execs body env).onRaise (leaving env) with | .ret v => ret v | _ => ret .none) _ _ s
  refine wpAt_bind (wpAt_of_wpAny (wpAny_point (wpAt_bind ?_)))
  intro Γ p hc hΓ
  rw [Sem.wp_onRaise]
  refine Sem.wp_mono _ Γ _ (fun f p' s' h' => ?_) (fun e p' s' h' => h' Γ p' hΓ) p s (h Γ p hc hΓ)
  cases f <;> exact wpAt_of_wpAny (wpAny_pure h')
end
section
variable {prog : Program} {w : World} {A : Around} {E : Value → Shared → Prop} {g : Array GenState} {dr : Drawn} {tk : Nat} {os : OsState}
variable {nm q : Str} {C N : Addr} {bs : List Value} {sn : List Str} {sub : List Value} {ab : Bool} {col : Option Bool} {dd : Option Addr} {k0 k1 k2 k3 k5 : Option Value} {newId : String}
/-- what the body of the exception's own __init__ is run from -/
structure InitAt (prog : Program) (w : World) (env : Env) (C x cc f cda : Addr) (vc vt : Value) (h : Heap) (m : Str → Option Value) (ar : Arg) : Prop where
  ns : h.Ns env.locals m
  hk : env.scope.kind = .function
  self : env.kindOf "self" = some .local ∧ m "self" = some (.ref x)
  code : env.kindOf "code" = some .local ∧ m "code" = some vc
  told : env.kindOf "told" = some .local ∧ m "told" = some vt
  sup : env.kindOf "super" = some .globalImplicit
  free : env.kindOf "__class__" = some .free
  cells : env.cells.lookup ("__class__" : Str) = some cc
  func : env.func = some f
  fdat : ∃ of fd, h.get? f = some of ∧ of.data = .func fd ∧ (fd.params.posonlyargs ++ fd.params.args).head? = some ar ∧ ar.arg = "self"
  cod : env.code = .ref cda
  cdat : ∃ oc vs file tf, h.get? cda = some oc ∧ oc.data = .fields vs ∧ vs[2]? = some (.str file tf) ∧ ((prog.main.file : Str) == file) = true
  top : (prog.main.scope.names.lookup ("super" : Str)).isSome = false
  cell : ∃ oc, h.get? cc = some oc ∧ oc.data = .cell (some (.ref C))
  opq : Looks (model prog w) h (opaqueClassAbove (.ref C)) none
  glob : ∀ {M : Model} {A : Around} {E : Value → Shared → Prop} {s : Shared} {Q : Value → Shared → Prop}, s.heap = h → Q (.type "super") s → wpAny M A (loadGlobal env "super") Q E s
theorem load_glob {M : Model} {A : Around} {E : Value → Shared → Prop} {s : Shared} {env : Env} {x : Str} {Q : Value → Shared → Prop} (hk : env.scope.kind = .function) (hx : env.kindOf x = some .globalImplicit) (h : wpAny M A (loadGlobal env x) Q E s) : wpAny M A (loadName env x) Q E s := by
  unfold loadName
  simp only [Env.blockKind, hk, hx, ScopeKind.isAnnotationScope, Bool.false_and, Bool.false_eq_true, if_false]
  exact h
theorem init_first {env : Env} {x cc f cda ta : Addr} {vc vt : Value} {h : Heap} {m : Str → Option Value} {ar : Arg} {body : List Stmt} {p0 p1 p2 p3 p4 p5 : Pos} {Q : Flow → Shared → Prop}
    {pl : Sem Bool}
    (he : eval (.Call (.Attribute (.Call (.Name "super" p0) [] [] p1) "__init__" p2) [.Name "code" p3] [] p4) env = (do
      let ov ← attributeBase (.Call (.Name "super" p0) [] [] p1) "__init__" env (eval (.Call (.Name "super" p0) [] [] p1) env)
      standAt p2.atName
      let (f, first) ← holding [ov] (getMethod ov "__init__" pl)
      callWith p4 f first (backTo p4 (starEach [.Name "code" p3] env)) []))
    (hi : interactive env = false) (hs : swapsWith (.Call (.Attribute (.Call (.Name "super" p0) [] [] p1) "__init__" p2) [.Name "code" p3] [] p4) none p5.line env = pure false)
    (I : InitAt prog w env C x cc f cda vc vt h m ar) (hC : h.get? C = some (excClassObj nm q C N bs excBm true sn sub ab col dd k0 k1 k2 k3 k5 newId)) (hx : h.get? x = some (excO C none (.ref ta))) (hxC : x ≠ C)
    (hq : ∀ h' t1 tk', h'.get? x = some (excO C none t1) → (∀ y o, y ≠ x → h.get? y = some o → h'.get? y = some o) → Q .next ⟨h', g, dr, tk', os⟩) :
    wpAt (model prog w) A (.func body env) (exec (.Expr (.Call (.Attribute (.Call (.Name "super" p0) [] [] p1) "__init__" p2) [.Name "code" p3] [] p4) p5) env) Q E ⟨h, g, dr, tk, os⟩ := by
  refine x23 I.fdat fun of fd hf hfd hp har => ?_
  refine x43 I.cdat fun oc vs file tf hcc hoc hvs hfile => ?_
  refine x11 I.cell fun oce hce hced => ?_
  refine at_expr (at_meth (sup_node I.sup I.free (by decide +kernel) I.func hf hfd hp I.cod hcc hoc hvs hfile I.top ?_) he) hi hs
  refine load_glob I.hk I.sup (I.glob rfl ⟨rfl, ?_⟩)
  refine wpAny_loadName_free I.hk I.free I.cells (i11 _ hce hced) ?_
  rw [har]
  refine wpAny_loadName_local I.hk I.self.1 I.ns I.self.2 ?_
  refine isType_cls hC rfl ⟨rfl, ?_⟩
  refine sup_call hC hx rfl rfl fun h1 e1 k1 => ?_
  refine sup_method (k1 _ _ hC) (k1 _ _ hx) rfl e1 (I.opq.keeps k1) hxC ?_
  have up : ∀ y o, h.get? y = some o → (h1.push (mwObj (.ref x))).get? y = some o := fun y o e => Heap.get?_push_of_some _ (k1 _ _ e)
  have hmw : (h1.push (mwObj (.ref x))).get? h1.objs.size = some (mwObj (.ref x)) := Heap.get?_push_at rfl rfl
  have hns : (h1.push (mwObj (.ref x))).Ns env.locals m := let ⟨o, es, ep, e, r⟩ := I.ns; (i31 o es ep (up _ _ e) r)
  unfold callWith
  refine wpAny_bind (wpAny_holding ?_)
  refine PySem.Calls.evalArgs_plain (PySem.Calls.spliced_cons (wpAny_Name (wpAny_loadName_local I.hk I.code.1 hns I.code.2 ?_) (by decide +kernel)))
  refine PySem.Calls.spliced_nil ?_
  refine wpAny_bind (wpAny_standAt ?_)
  have hany : ((backTo p4 (starEach [Expr.Name (Str.ofString "code") p3] env)).any fun x => x.fst) = false := rfl
  simp only [hany, List.any_nil, Bool.or_false, List.nil_append]
  refine wpAny_bind (wpAny_mono (Q := fun k s' => k = .machine ∧ s' = ⟨h1.push (mwObj (.ref x)), g, dr, tk + 1, os⟩) ?_ (fun k s' hk => ?_) fun z0 z0 e => e)
  · unfold keeperOf
    exact wpAny_bind (wpAny_load hmw (wpAny_pure ⟨rfl, rfl⟩))
  · obtain ⟨rfl, rfl⟩ := hk
    refine wpAny_bind (mw_call (up _ _ hC) (up _ _ hx) hmw fun h' t1 e2 k2 => ?_)
    refine wpAny_bind (wpAny_holding (wpAny_point (wpAny_pure (hq h' t1 _ e2 fun y o hy e => k2 y o hy (up _ _ e)))))
theorem ns_but {h h' : Heap} {L x : Addr} {m : Str → Option Value} {o : Obj} {vs : Array Value} (n : h.Ns L m) (hx : h.get? x = some o) (hd : o.data = .fields vs) (k : ∀ y o, y ≠ x → h.get? y = some o → h'.get? y = some o) : h'.Ns L m := by
  refine x32 n fun oL es ep e r r2 => ?_
  refine (i32 oL es ep (k _ _ (fun q => ?_) e) r r2)
  rw [q, hx] at e
  cases e
  rw [hd] at r; cases r
theorem exc_no_code : typeLookup (.type "Exception") "code" = pure none := by rw [typeLookup_type, builtinLookup_eq_fast]; kernel_rfl
theorem exc_no_told : typeLookup (.type "Exception") "told" = pure none := by rw [typeLookup_type, builtinLookup_eq_fast]; kernel_rfl
open Builtin Builtin.ObjectAttr in
/-- the first store on an exception makes its dict, at the heap's end -/
theorem first_entry {B sa owner : String} {bm : List Value} {x : Addr} {v t1 : Value} {name : Str} {tn : Tok} {h : Heap} {mN : Str → Option Value} {Q : PySem.Fin → Shared → Prop} (SF : StoreFacts B bm sa owner)
    (hC : h.get? C = some (excClassObj nm q C N bs bm true sn sub ab col dd k0 k1 k2 k3 k5 newId)) (hN : h.Ns N mN) (n2 : mN name = none) (hB : typeLookup (.type B) name = pure none)
    (hx : h.get? x = some (excO C none t1))
    (hq : ∀ h' tk', h'.get? x = some (excO C (some h.objs.size) t1) → h'.Ns1 h.objs.size (fun y => if y = name then some v else none) → (∀ y o, y ≠ x → h.get? y = some o → h'.get? y = some o) → Q (.done (.ret .none)) ⟨h', g, dr, tk', os⟩) :
    wpAny (model prog w) A (Builtin.«object.__setattr__» ⟨[.ref x, .str name tn, v], []⟩) Q E ⟨h, g, dr, tk, os⟩ := by
  have hpass := SF.passes (.ref x)
  have hxs : x ≠ h.objs.size := Nat.ne_of_lt (Heap.lt_size hx)
  have hx₁ : (h.push { cls := .type "dict", data := .dict #[] }).get? x = some (excO C none t1) := Heap.get?_push_of_some _ hx
  have hgd : ((h.push { cls := .type "dict", data := .dict #[] }).update x fun o => { cls := o.cls, dict := some h.objs.size, data := o.data, slots := o.slots }).get? h.objs.size = some { cls := .type "dict", data := .dict #[] } :=
    (Heap.get?_update_ne _ _ _ _ hxs.symm).trans (Heap.get?_push_at rfl rfl)
  have hnd : ((h.push { cls := .type "dict", data := .dict #[] }).update x fun o => { cls := o.cls, dict := some h.objs.size, data := o.data, slots := o.slots }).Ns h.objs.size (fun z0 => none) :=
    (i33 _ (#[]) _ hgd rfl (fun e he => absurd he (by simp)) (fun z0 => rfl))
  unfold Builtin.«object.__setattr__»
  repeat (first | (with_reducible refine wpAny_nsSet1 (Heap.Ns1.of_empty hnd) fun h' hn' hs => ?_) | rw [refuse_eq] | (rw [refuseLoop_ref, hpass]) | (with_reducible refine wpAny_loadPart_at hx ?_) | with_reducible refine wpAny_mroOf_exc hC ?_ | (with_reducible refine wpAny_typeLookup_exc hC hN SF.mro hB ?_; rw [n2]) | wp_step)
  refine x32 (hn'.count (Within.cons name v Within.nil)) fun oD esD epD hoD hdD hcD => ?_
  refine wpAny_loadPart hoD ?_
  rw [hdD, show (Data.dict esD epD).pastItsLine = none from pastItsLine_dict (Nat.le_trans hcD (by rw [List.length_cons, List.length_nil, sizeLine_eq]; omega))]
  refine wpAny_pure (wpAny_pure (hq h' _ ?_ hn' fun y o hy e => ?_))
  · exact (hs.2 x hxs).trans (Heap.get?_update_self _ hx₁ rfl)
  · exact (hs.2 y (Nat.ne_of_lt (Heap.lt_size e))).trans ((Heap.get?_update_ne _ _ _ _ hy).trans (Heap.get?_push_of_some _ e))
theorem first_attr {B sa owner : String} {bm : List Value} {x : Addr} {v t1 : Value} {name : Str} {h : Heap} {mN : Str → Option Value} {Q : Unit → Shared → Prop} (SF : StoreFacts B bm sa owner)
    (hC : h.get? C = some (excClassObj nm q C N bs bm true sn sub ab col dd k0 k1 k2 k3 k5 newId)) (hN : h.Ns N mN) (n1 : mN "__setattr__" = none) (n2 : mN name = none) (hB : typeLookup (.type B) name = pure none)
    (hx : h.get? x = some (excO C none t1))
    (hq : ∀ h' tk', h'.get? x = some (excO C (some h.objs.size) t1) → h'.Ns1 h.objs.size (fun y => if y = name then some v else none) → (∀ y o, y ≠ x → h.get? y = some o → h'.get? y = some o) → Q () ⟨h', g, dr, tk', os⟩) :
    wpAny (model prog w) A (setAttr (.ref x) name v) Q E ⟨h, g, dr, tk, os⟩ := by
  have f3 := SF.slot.bind (.ref x)
  have hc : (excO C none t1).cls = .ref C := rfl
  unfold setAttr callSpecial? specialOf
  repeat (any_goals (first | assumption | (with_reducible refine wpAny_loadPart_at hx ?_; rw [hc]) | (with_reducible refine wpAny_typeLookup_exc hC hN SF.mro SF.slot.lookup ?_; rw [n1]) | wp_step))
  refine codeAny_call_builtin SF.slot.plain SF.entry (wpAny_check_sa SF hC hx rfl (first_entry SF hC hN n2 hB hx fun h' tk' e1 e2 e3 => ?_))
  repeat (any_goals (first | assumption | wp_step))
  exact hq h' tk' e1 e2 e3
/-- the exception when its __init__ has run -/
structure MadeAt (C x : Addr) (vc vt : Value) (h h' : Heap) : Prop where
  inst : ∃ t1 d, h'.get? x = some (excO C (some d) t1) ∧ h.objs.size ≤ d ∧ h'.Ns1 d (fun y => if y = "told" then some vt else if y = "code" then some vc else none)
  keep : ∀ y o, y ≠ x → h.get? y = some o → h'.get? y = some o
theorem init_rest {env : Env} {x : Addr} {vc vt t1 : Value} {h : Heap} {m mN : Str → Option Value} {a0 a1 a2 a3 b0 b1 b2 b3 : Pos} {Q : Flow → Shared → Prop}
    (hk : env.scope.kind = .function) (h1 : env.kindOf "self" = some .local ∧ m "self" = some (.ref x)) (h2 : env.kindOf "code" = some .local ∧ m "code" = some vc) (h3 : env.kindOf "told" = some .local ∧ m "told" = some vt)
    (hs1 : swapsWith (.Name "code" a2) (some (.Attribute (.Name "self" a0) "code" a1)) a3.line env = pure false) (hs2 : swapsWith (.Name "told" b2) (some (.Attribute (.Name "self" b0) "told" b1)) b3.line env = pure false)
    (hns : h.Ns env.locals m) (hC : h.get? C = some (excClassObj nm q C N bs excBm true sn sub ab col dd k0 k1 k2 k3 k5 newId)) (hN : h.Ns N mN) (n1 : mN "__setattr__" = none) (n2 : mN "code" = none) (n3 : mN "told" = none)
    (hx : h.get? x = some (excO C none t1)) (hxC : x ≠ C) (hq : ∀ h' tk', MadeAt C x vc vt h h' → Q .next ⟨h', g, dr, tk', os⟩) :
    wpAny (model prog w) A (execs [.Assign [.Attribute (.Name "self" a0) "code" a1] (.Name "code" a2) a3, .Assign [.Attribute (.Name "self" b0) "told" b1] (.Name "told" b2) b3] env) Q E ⟨h, g, dr, tk, os⟩ := by
  refine wpAny_execs_cons (plainObj_wpAny_Assign_Attribute ?_ hs1)
  refine wpAny_Name (wpAny_loadName_local hk h2.1 hns h2.2 ?_) (by decide +kernel)
  refine wpAny_Name (wpAny_loadName_local hk h1.1 hns h1.2 ?_) (by decide +kernel)
  refine first_attr PySem.F.store_Exception hC hN n1 n2 exc_no_code hx fun h1' tk1 e1 hnd kb => ?_
  have ns1 := ns_but hns hx rfl kb
  refine wpAny_execs_cons (plainObj_wpAny_Assign_Attribute ?_ hs2)
  refine wpAny_Name (wpAny_loadName_local hk h3.1 ns1 h3.2 ?_) (by decide +kernel)
  refine wpAny_Name (wpAny_loadName_local hk h1.1 ns1 h1.2 ?_) (by decide +kernel)
  have hdx : h.objs.size ≠ x := Nat.ne_of_gt (Heap.lt_size hx)
  have I1 : h1'.Inst x C (fun y => if y = "code" then some vc else none) := (i13 _ e1 rfl (fun c e => by cases e) (.inr (i12 _ rfl hdx hnd)))
  refine store_attr PySem.F.store_Exception (kb _ _ (Ne.symm hxC) hC) (ns_but hN hx rfl kb) n1 n3 exc_no_told hxC I1 (fun h2' tk2 I2 k2 o2 => ?_) (ns := ["code"]) (fun y hy => ?_) (by decide)
  · refine x14 (o2 _ e1) fun o2' e2 c2 d2 s2 dk2 => ?_
    refine x13 (id I2) fun oj ej cj nj dj => ?_
    obtain rfl : o2' = oj := Option.some.inj (e2.symm.trans ej)
    have hd2 : o2'.dict = some h.objs.size := dk2 _ rfl
    refine wpAny_execs_nil (hq h2' tk2 ⟨(i22 t1 h.objs.size ?_ (Nat.le_refl _) ?_), fun y o hy e => ?_⟩)
    · obtain ⟨c, dc, dt, sl⟩ := o2'
      cases c2; cases d2; cases s2; cases hd2
      exact e2
    · rcases dj with ⟨q, _⟩ | ⟨dd, q, _, q2⟩
      · rw [hd2] at q; cases q
      · rw [hd2] at q; cases q; exact q2
    · exact k2 y o hy (fun o₀ dx e0 ed => by rw [e1] at e0; cases e0; cases ed; exact Nat.ne_of_lt (Heap.lt_size e)) (kb y o hy e)
  · by_cases q : y = "code"
    · rw [q]; exact .head _
    · rw [if_neg q] at hy; exact (hy rfl).elim
end
end Mine
end
section
open PySem PySem.W
set_option Elab.async false
set_option tactic.hygienic false
set_option genSizeOf false
set_option genInjectivity false
set_option maxRecDepth 100000
set_option maxHeartbeats 1000000
set_option linter.unusedVariables false
set_option linter.unusedSimpArgs false
namespace Mine
section
variable {prog : Program} {w : World} {A : Around} {R : Result → Shared → Prop} {s : Shared}
/-- a def is called whose first statement asks for its own code -/
theorem call_at {a : Addr} {o : Obj} {fd : FuncData} {body : List Stmt} {args : Args} {binds : List (Str × Value)}
    (hroom : A.depth < recursionLimit) (ho : s.heap.get? a = some o) (hdata : o.data = .func fd) (hlim : s.heap.NoLimit) (hcd : s.heap.CodeRec fd.code fd.qualname) (hbody : fd.body = .stmts body) (hbind : BindsTo s fd args binds)
    (hcell : ∀ x ∈ fd.scope.names, x.2 ≠ .cell) (hloc : ∀ x ∈ binds, fd.scope.names.lookup x.1 = some .local)
    (h : ∀ h₁, h₁.Ns s.heap.objs.size (fun x => binds.reverse.lookup x) → (∀ b o, s.heap.get? b = some o → h₁.get? b = some o) →
      wpAt (model prog w) (A.deeper (callEnv fd s.heap.objs.size a)) (.func body (callEnv fd s.heap.objs.size a)) (execs body (callEnv fd s.heap.objs.size a)) (fun f s' => R (.ok (.ret (match f with | .ret v => v | _ => .none))) s')
        (fun e s' => wpAny (model prog w) (A.deeper (callEnv fd s.heap.objs.size a)) (leaving (callEnv fd s.heap.objs.size a) e) (fun z0 s'' => R (.error e) s'') (fun e' s'' => R (.error e') s'') s')
        { s with heap := h₁, toks := s.toks + binds.length })
    (hco : fd.scope.isCoroutine = false) (hgen : fd.scope.isGenerator = false) (hk : fd.scope.kind = .function) : codeAny (model prog w) A (.call (.ref a) args) R s := by
  refine codeAny_call_function hroom ho hdata hco hgen hbody hcd (hbind _ _ _ _ ?_)
  refine wpAny_newFunctionEnv hcell hloc (fun h₁ hns hsb => ⟨hlim.fresh _ hsb, at_func (h h₁ hns fun b o e => ?_)⟩) hk
  exact hsb.extBut b o (Nat.ne_of_lt (Heap.lt_size e)) (Heap.get?_push_of_some _ e)
end
end Mine
end
section
open PySem PySem.W PyProof.Rows
set_option Elab.async false
set_option tactic.hygienic false
set_option genSizeOf false
set_option genInjectivity false
set_option maxRecDepth 100000
set_option maxHeartbeats 1000000
set_option linter.unusedVariables false
set_option linter.unusedSimpArgs false
namespace Mine
/-- what a class object holds beside its own addresses -/
structure ExR where
  nm : Str
  q : Str
  bs : List Value
  sn : List Str
  sub : List Value
  ab : Bool
  col : Option Bool
  dd : Option Addr
  k0 : Option Value
  k1 : Option Value
  k2 : Option Value
  k3 : Option Value
  k5 : Option Value
noncomputable abbrev ExR.obj (r : ExR) (C N : Addr) : Obj := excClassObj r.nm r.q C N r.bs excBm true r.sn r.sub r.ab r.col r.dd r.k0 r.k1 r.k2 r.k3 r.k5 "Exception.__new__"
/-- what stands behind the exception's class -/
structure ExD where
  r : ExR
  N : Addr
  fI : Addr
  cc : Addr
  cda : Addr
  mN : Str → Option Value
  of : Obj
  name : Str
  doc : Value
  pm : Value
  an : Option Addr
  ct : Value
  dt : Addr
  od : Obj
  n : Nat
  tk : Tok
  oc : Obj
  vs : Array Value
  file : Str
  tf : Tok
  occ : Obj
/-- the exception's class, as a heap has it -/
structure ExAt (C : Cx) (P : Parts) (D : ExD) (cl : Addr) (h : Heap) : Prop where
  obj : h.get? cl = some (D.r.obj cl D.N)
  ns : h.Ns D.N D.mN
  init : D.mN "__init__" = some (.ref D.fI)
  no : ∀ x ∈ (["__setattr__", "__getattribute__", "__getattr__", "code", "told"] : List Str), D.mN x = none
  fn : h.get? D.fI = some D.of
  fc : D.of.cls = .type "function"
  fd : D.of.data = .func (fnX D.name P.qual P.params P.body P.scope [("__class__", D.cc)] (.ref D.dt) .none D.doc D.pm D.an (.ref D.cda) D.ct)
  od : h.get? D.dt = some D.od
  odd : D.od.data = .seq #[.str "" D.tk] D.n
  code : h.CodeRec (.ref D.cda) P.qual
  co : h.get? D.cda = some D.oc
  cof : D.oc.data = .fields D.vs
  cov : D.vs[2]? = some (.str D.file D.tf)
  com : ((C.prog.main.file : Str) == D.file) = true
  cell : h.get? D.cc = some D.occ
  celld : D.occ.data = .cell (some (.ref cl))
  opq : Looks (M C) h (opaqueClassAbove (.ref cl)) none
set_option tactic.hygienic true in
theorem es_some {K : Frag} {a : Addr} {e : DictEntry} (h : e ∈ esIn K a) : ∃ o ep, K.lookup a = some o ∧ o.data = .dict (esIn K a) ep := by
  unfold esIn at h ⊢
  split at h
  · rename_i c d es ep sl q; rw [q]; exact (i21 _ ep rfl rfl)
  · simp at h
theorem cell_some {K : Frag} {a : Addr} {v : Value} (h : cellIn K a = some v) : ∃ o, K.lookup a = some o ∧ o.data = .cell (some v) := by
  unfold cellIn at h
  split at h
  · rename_i q; subst h; exact (i11 _ q rfl)
  · cases h
theorem seq_some {K : Frag} {a : Addr} {l : List Value} (h : (seqIn K a).toList = l) (hl : l ≠ []) : ∃ o n, K.lookup a = some o ∧ o.data = .seq l.toArray n := by
  unfold seqIn at h
  split at h
  · rename_i q; subst h; exact (i21 _ _ q rfl)
  · exact absurd h.symm hl
set_option tactic.hygienic true in
theorem fields_some {K : Frag} {a : Addr} {i : Nat} {v : Value} (h : (fieldsIn K a).toList[i]? = some v) : ∃ o, K.lookup a = some o ∧ o.data = .fields (fieldsIn K a) := by
  unfold fieldsIn at h ⊢
  split at h
  · rename_i c d vs sl q; rw [q]; exact (i11 _ rfl rfl)
  · simp at h
theorem isStrV_inv {v : Value} (h : isStrV v = true) : ∃ s t, v = .str s t := by
  cases v <;> first | exact (i20 _ _ rfl) | cases h
theorem six_of {α : Type} : ∀ {l : List α}, l.length = 6 → ∃ a b c d e f, l = [a, b, c, d, e, f]
  | [a, b, c, d, e, f], _ => (i60 a b c d e f rfl)
set_option tactic.hygienic true in
theorem head_some {K : Frag} {C : Addr} (h : headOk K C = true) : ∃ r : ExR, K.lookup C = some (r.obj C (exN K C)) := by
  unfold headOk at h
  unfold exN clsIn
  split at h
  · rename_i tc dd cd sl q
    rw [q]
    simp only [Bool.and_eq_true, beq_iff_eq, Bool.not_eq_true'] at h
    obtain ⟨⟨h1, h2⟩, h3, h4, h5, h6⟩ := h
    obtain ⟨l⟩ := sl
    refine x60 (six_of h5) fun k0 k1 k2 k3 k4 k5 ez0 => ?_
    obtain rfl := ez0
    have e : k4 = some (.builtin "Exception.__new__") := by simpa using h6
    subst e h1
    obtain ⟨nm, bs, mro, ns, qn, hd, sn, sub, ab, col, del⟩ := cd
    dsimp only at h2 h3 h4
    subst h2 h3 h4
    exact ⟨⟨nm, qn, bs, sn, sub, ab, col, dd, k0, k1, k2, k3, k5⟩, rfl⟩
  · cases h
theorem fnData_some {K : Frag} {a : Addr} {fd : FuncData} (h : fnData K a = some fd) : ∃ o, K.lookup a = some o ∧ o.data = .func fd := by
  unfold fnData at h
  split at h
  · rename_i q; cases h; exact (i11 _ q rfl)
  · cases h
theorem opq_none {M : Model} {K : Frag} {h : Heap} {C : Addr} (X : K.In h) (e : nsIn K cStatics "thirdparty.any" = some none) : Looks M h (opaqueClassAbove (.ref C)) none := by
  show Looks M h (anyOpaqueLoaded >>= fun b => if (!b) = true then pure none else _) none
  exact Looks.andThen (a := false) ((looks_nsIn X e).andThen .now) .now
theorem exAt_of {C : Cx} {ss : List Stmt} {fns bs fields : List Str} (G : Good C ss fns bs fields) {P : Parts} (hP : valE ss = (true, some P)) (hok : P.ok = true) :
    ∃ D : ExD, ∀ h, C.K.In h → ExAt C P D (adr C.K "BasicError") h := by
  have e := G.exc.trans hP
  unfold obsE at e
  have e1 := congrArg Prod.fst e
  have e2 := congrArg Prod.snd e
  simp only [Bool.and_eq_true, beq_iff_eq] at e1
  dsimp only at e2
  obtain ⟨⟨⟨⟨g1, g2⟩, g3⟩, g4⟩, -⟩ := e1
  obtain ⟨r, hC⟩ := head_some g2
  unfold nsOk at g3
  simp only [Bool.and_eq_true, beq_iff_eq, List.all_eq_true] at g3
  obtain ⟨⟨n1, n2, n3⟩, n4⟩ := g3
  unfold partsE at e2
  refine x11 (Option.map_eq_some_iff.mp e2) fun fd hfd e3 => ?_
  have e4 : fnOk C.K (adr C.K "BasicError") C.prog.main.file fd = P.ok := congrArg Parts.ok e3
  rw [hok] at e4
  unfold fnOk at e4
  simp only [Bool.and_eq_true, beq_iff_eq, List.all_eq_true] at e4
  obtain ⟨⟨⟨⟨⟨⟨a1, a2⟩, a3, a4⟩, a5, a6⟩, a7, a8, a9⟩, a10, a11, a12⟩, a13⟩ := e4
  refine x11 (fnData_some hfd) fun oI hI hId => ?_
  refine x11 (cell_some a6) fun oc hc hcd => ?_
  have hf2 : ∃ file tf, (fieldsIn C.K (refOf fd.code)).toList[2]? = some (.str file tf) ∧ file = C.prog.main.file := by
    refine x20 (isStrV_inv a11) fun s t es => ?_
    rw [List.getD_eq_getElem?_getD] at es
    cases hq : (fieldsIn C.K (refOf fd.code)).toList[2]? with
    | none => rw [hq] at es; cases es
    | some v =>
      rw [hq] at es a12
      have es : v = .str s t := es
      subst es
      exact (i21 s t rfl a12)
  refine x21 hf2 fun file tf hf2 hfile => ?_
  refine x11 (fields_some hf2) fun ocd hcd1 hcd2 => ?_
  have hdt : ∃ tk, (seqIn C.K (refOf fd.defaults)).toList = [.str "" tk] := by
    have hl := congrArg List.length a8
    rw [List.length_map] at hl
    obtain ⟨v, hv⟩ := len1 hl
    rw [hv] at a8 a9
    refine x20 (isStrV_inv (a9 v (.head _))) fun s t ez0 => ?_
    obtain rfl := ez0
    have : s = Str.ofString "" := by simpa [strOf] using a8
    exact ⟨t, by rw [hv, this]⟩
  obtain ⟨tk, hdt⟩ := hdt
  refine x21 (seq_some hdt (by simp)) fun odt ndt hdt1 hdt2 => ?_
  have hns : ∃ ons ep, C.K.lookup (exN C.K (adr C.K "BasicError")) = some ons ∧ ons.data = .dict (esIn C.K (exN C.K (adr C.K "BasicError"))) ep := by
    have hx : ∃ e, e ∈ esIn C.K (exN C.K (adr C.K "BasicError")) := by
      refine Classical.byContradiction fun hno => ?_
      have : esIn C.K (exN C.K (adr C.K "BasicError")) = #[] := Array.eq_empty_of_size_eq_zero (by
        rcases Nat.eq_zero_or_pos (esIn C.K (exN C.K (adr C.K "BasicError"))).size with h | h
        · exact h
        · exact absurd ⟨_, Array.getElem_mem h⟩ hno)
      rw [this] at n2
      cases n2
    exact hx.elim fun e he => es_some he
  refine x21 hns fun ons ep hns1 hns2 => ?_
  have ty : oI.cls = .type "function" := by
    have n3 : Option.map (fun x => x.cls) (C.K.lookup (exI C.K (adr C.K "BasicError"))) = some (.type "function") := n3
    rw [hI] at n3
    exact Option.some.inj n3
  refine ⟨⟨r, exN C.K (adr C.K "BasicError"), exI C.K (adr C.K "BasicError"), (fd.closure.headD default).2, refOf fd.code, nsFind (esIn C.K (exN C.K (adr C.K "BasicError"))), oI, fd.name, fd.doc, fd.pyModule, fd.annotations, fd.closureTuple, refOf fd.defaults, odt, ndt, tk, ocd, _, file, tf, oc⟩, fun h X =>
    ⟨X _ _ hC, (i33 ons _ ep (X _ _ hns1) hns2 (fun e he => isStrV_inv (n1 e (by simpa using he))) (fun z0 => rfl)), n2, fun x hx => n4 x hx, X _ _ hI, ty, ?_, X _ _ hdt1, hdt2, ?_, X _ _ hcd1, hcd2, by rw [← Array.getElem?_toList]; exact hf2, by rw [hfile]; simp, X _ _ hc, hcd, opq_none X g4⟩⟩
  · obtain ⟨name, qual, params, fb, scope, gl, cl, dV, kV, doc, pm, an, code, ct, bu⟩ := fd
    dsimp only at a1 a2 a5 a7 a10 a13 a4 e3
    rw [hId, ← e3]
    cases fb with
    | stmts l =>
      dsimp only [bodyOf]
      rw [← a7, ← a5, ← a4, a1, a2, a10]
    | _ => cases a13
  · have h1 := codeRec_of X a3
    rw [a4] at h1
    rw [← e3]
    exact h1
end Mine
end
section
open PySem PySem.W PyProof.Rows
set_option Elab.async false
set_option tactic.hygienic false
set_option genSizeOf false
set_option genInjectivity false
set_option maxRecDepth 100000
set_option maxHeartbeats 1000000
set_option linter.unusedVariables false
set_option linter.unusedSimpArgs false
namespace Mine
/-- the exception's own __init__ in the text -/
structure InitP (P : Parts) : Prop where
  body : ∃ p0 p1 p2 p3 p4 p5 a0 a1 a2 a3 b0 b1 b2 b3 : Pos, P.body = [.Expr (.Call (.Attribute (.Call (.Name "super" p0) [] [] p1) "__init__" p2) [.Name "code" p3] [] p4) p5,
    .Assign [.Attribute (.Name "self" a0) "code" a1] (.Name "code" a2) a3, .Assign [.Attribute (.Name "self" b0) "told" b1] (.Name "told" b2) b3] ∧ (p2.endLine == p4.line) = true
  par : ∃ ar, (P.params.posonlyargs ++ P.params.args).head? = some ar ∧ ar.arg = "self"
  kself : P.scope.names.lookup ("self" : Str) = some .local
  kcode : P.scope.names.lookup ("code" : Str) = some .local
  ktold : P.scope.names.lookup ("told" : Str) = some .local
  ksup : P.scope.names.lookup ("super" : Str) = some .globalImplicit
  kcls : P.scope.names.lookup ("__class__" : Str) = some .free
  cell : ∀ x ∈ P.scope.names, x.2 ≠ .cell
  co : P.scope.isCoroutine = false
  gen : P.scope.isGenerator = false
  kind : P.scope.kind = .function
  bind : ∀ name cl dV doc pm an code ct (a b : Value) (tk : Tok), ∃ k, bindArgs (fnX name P.qual P.params P.body P.scope cl dV .none doc pm an code ct) ⟨[a, b], []⟩ = (seqItems? dV >>= k) ∧ k (some #[.str "" tk]) = pure [(Str.ofString "self", a), (Str.ofString "code", b), (Str.ofString "told", .str "" tk)]
theorem super_eval {env : Env} {p0 p1 p2 p3 p4 : Pos} (hl : (p2.endLine == p4.line) = true) : eval (.Call (.Attribute (.Call (.Name "super" p0) [] [] p1) "__init__" p2) [.Name "code" p3] [] p4) env = (do
      let ov ← attributeBase (.Call (.Name "super" p0) [] [] p1) "__init__" env (eval (.Call (.Name "super" p0) [] [] p1) env)
      standAt p2.atName
      let (f, first) ← holding [ov] (getMethod ov "__init__" (do return (← importBound (.Call (.Name "super" p0) [] [] p1) env).getD true))
      callWith p4 f first (backTo p4 (starEach [.Name "code" p3] env)) []) := by
  have hpos : methodCallPos true (.Call (.Name "super" p0) [] [] p1) env p2 p4 = pure p4 := by unfold methodCallPos; simp [hl]
  rw [arm_eval_Call]
  unfold methodCall
  have hform : methodCallForm ([Expr.Name (Str.ofString "code") p3].length + ([] : List Keyword).length) (backTo p4 (starEach [.Name "code" p3] env)) (backToKw p4 (keywordEach [] env)) = true := rfl
  rw [hform, hpos]
  simp only [pure_bind]
  rfl
theorem bo_super : bootBuiltins "super" = some (.type "super") := by kernel_rfl
section
variable {C : Cx} {P : Parts} {D : ExD} {cl : Addr}
theorem exc_new (IP : InitP P) {h : Heap} (X : C.K.In h) (EX : ∀ h, C.K.In h → ExAt C P D cl h) (T : TopRead C.p C.loose C.mg C.mb h) (hs : nsIn C.K mainGlobals "super" = some none) (hsup : (C.prog.main.scope.names.lookup ("super" : Str)).isSome = false) {A : Around} (hA : A.depth + 2 < 1000)
    {g : Array GenState} {dr : Drawn} {tk : Nat} {os : OsState} {v : Value} {Q : Value → Shared → Prop} {E : Value → Shared → Prop}
    (hq : ∀ h' x t1 d w tk', (∀ y o, h.get? y = some o → h'.get? y = some o) → h.get? x = none → h.get? d = none → h'.get? x = some (flyO cl d t1 .none) → h'.Ns d (fun y => if y = "told" then some w else if y = "code" then some v else none) → Q (.ref x) ⟨h', g, dr, tk', os⟩) :
    wpAny (M C) A (call (.ref cl) [v]) Q E ⟨h, g, dr, tk, os⟩ := by
  have E1 := EX h X
  refine wpAny_call_exc_init PySem.F.excBase_Exception E1.obj E1.ns E1.init E1.fn E1.fc (fun h1 e hm => ?_) (by rw [sizeLine_eq]; show (1 : Nat) ≤ 16777216; decide)
  have X1 := X.keeps hm.keeps
  have hf1 := hm.keeps _ _ E1.fn
  refine x12 hm.there fun ta he hta z0 => ?_
  refine x141 IP.body fun p0 p1 p2 p3 p4 p5 a0 a1 a2 a3 b0 b1 b2 b3 hbody hline => ?_
  refine x11 IP.par fun ar har hars => ?_
  refine x11 (IP.bind D.name [(Str.ofString "__class__", D.cc)] (.ref D.dt) D.doc D.pm D.an (.ref D.cda) D.ct (.ref e) v D.tk) fun k hb1 hb2 => ?_
  refine wpAny_call (call_at (binds := [(Str.ofString "self", .ref e), (Str.ofString "code", v), (Str.ofString "told", .str "" D.tk)]) ?_ hf1 E1.fd (T.nolimit.keeps hm.keeps) (EX _ X1).code (congrArg FuncBody.stmts hbody) (BindsTo.of_defaults rfl (hm.keeps _ _ E1.od) E1.odd hb1 hb2) IP.cell ?_ (fun h2 hns2 k2 => ?_) IP.co IP.gen IP.kind)
  · unfold Around.under; dsimp only; rw [tc_weight]; simp only [recursionLimit]; lia
  · intro x hx
    simp only [List.mem_cons, List.not_mem_nil, or_false] at hx
    rcases hx with rfl | rfl | rfl
    · exact IP.kself
    · exact IP.kcode
    · exact IP.ktold
  have X2 := X1.keeps k2
  have E2 := EX h2 X2
  have hx2 := k2 _ _ he
  have T2 := (T.keeps hm.keeps).keeps k2
  have hxC : e ≠ cl := fun q => by rw [q] at hm; have := hm.new; rw [E1.obj] at this; cases this
  refine at_cons (init_first (C := cl) (x := e) (ta := ta) (ar := ar) (vc := v) (vt := .str "" D.tk) (super_eval hline) ?_ rfl ⟨hns2, IP.kind, ⟨IP.kself, rfl⟩, ⟨IP.kcode, rfl⟩, ⟨IP.ktold, rfl⟩, IP.ksup, IP.kcls, rfl, rfl, (i23 D.of _ E2.fn E2.fd har hars), rfl, (i43 D.oc D.vs D.file D.tf E2.co E2.cof E2.cov E2.com), hsup, (i11 D.occ E2.cell E2.celld), E2.opq, ?_⟩ E2.obj hx2 hxC fun h3 t1 tk3 e3 k3 => ⟨rfl, ?_⟩)
  · unfold interactive
    show (P.scope.kind == _ && _) = false
    rw [IP.kind]; rfl
  · intro M' A' E' s' Q' es hq'
    subst es
    exact PySem.Calls.loadGlobal_builtin (mg := C.mg) (mb := C.mb) T2.g (mg_none_of X2 T2.g hs) T2.b ((T2.builtins _ (by decide +kernel)).trans bo_super) hq'
  have hN3 := ns_but E2.ns hx2 rfl k3
  refine init_rest IP.kind ⟨IP.kself, rfl⟩ ⟨IP.kcode, rfl⟩ ⟨IP.ktold, rfl⟩ rfl rfl (ns_but hns2 hx2 rfl k3) (k3 _ _ (Ne.symm hxC) E2.obj) hN3 (E1.no _ (by simp)) (E1.no _ (by simp)) (E1.no _ (by simp)) e3 hxC fun h4 tk4 M4 => ⟨rfl, ?_⟩
  refine x22 M4.inst fun t4 d m1 m2 m3 => ?_
  have up : ∀ y o, h.get? y = some o → y ≠ e ∧ h3.get? y = some o := fun y o ey => by
    have hy : y ≠ e := fun q => by rw [q, hm.new] at ey; cases ey
    exact ⟨hy, k3 y o hy (k2 y o (hm.keeps y o ey))⟩
  have hd : h.get? d = none := by
    cases q : h.get? d with
    | none => rfl
    | some o => exact absurd (Heap.lt_size (up d o q).2) (Nat.not_lt.mpr m2)
  exact hq h4 e t4 d (.str "" D.tk) tk4 (fun y o ey => M4.keep y o (up y o ey).1 (up y o ey).2) hm.new hd m1 m3.ns
end
end Mine
end
section
open PySem PySem.W PyProof.Rows
set_option Elab.async false
set_option tactic.hygienic false
set_option genSizeOf false
set_option genInjectivity false
set_option maxRecDepth 100000
set_option maxHeartbeats 1000000
set_option linter.unusedVariables false
set_option linter.unusedSimpArgs false
namespace Mine
section
variable {M : Model} {A : Around} {E : Value → Shared → Prop}
variable {cl : Addr}
theorem raise_fly {s : Shared} {env : Env} {x : Sem Value} {Q : Flow → Shared → Prop} (hh : A.handled = none)
    (h : wpAny M A x (fun v s₁ => ∃ e t d N, ∃ r : ExR, v = .ref e ∧ s₁.heap.get? cl = some (r.obj cl N) ∧ s₁.heap.get? e = some (flyO cl d t .none) ∧ E (.ref e) s₁) E s) :
    wpAny M A (raiseStmt env (some x) none) Q E s := by
  unfold raiseStmt
  refine wpAny_bind (wpAny_mono h (fun v s₁ h₁ => ?_) fun z0 z0 x => x)
  refine x53 h₁ fun e t d N r ez0 hC he hE => ?_
  obtain rfl := ez0
  have hcB : (Value.ref cl :: excBm).contains (.type "BaseException") = true := by rw [List.contains_cons, PySem.F.excBase_Exception.hasBase, Bool.or_true]
  obtain ⟨hp, g, dr, tk, os⟩ := s₁
  repeat (first | with_reducible refine wpAny_loadPart_at he ?_ | with_reducible refine wpAny_loadPart_at hC ?_ | (with_reducible refine wpAny_isSubtype_exc hC ?_; rw [hcB]) | wp_step)
  exact wpAny_raiseNew_none hh hE
end
section
variable {C : Cx} {F : FnI} {V : Act C F} {n : Nat} {ss : List Stmt} {fns bs fields : List Str}
noncomputable abbrev exA (C : Cx) : Addr := adr C.K "BasicError"
theorem Good.exGlob (G : Good C ss fns bs fields) {P : Parts} (hP : valE ss = (true, some P)) : GlobAt C "BasicError" (exA C) := by
  have e1 := congrArg Prod.fst (G.exc.trans hP)
  unfold obsE at e1
  simp only [Bool.and_eq_true, beq_iff_eq] at e1
  exact globAt_of e1.1.1.1.1
theorem Sim0.frames {h : HS} {locs : List Str} {st : St} {hp : List PV} {hv : List Value} {m : Str → Option Value} {mu tl : Led} (S : Sim0 C V.h₀ V.L locs st hp hv h m mu tl) : h.heap.FunFrames V.base (V.env :: V.outer) := by
  have hL : V.base.get? V.L = none := by
    cases hq : V.base.get? V.L with
    | none => rfl
    | some o => exact absurd (Nat.lt_of_lt_of_le (Heap.lt_size (V.B.stays _ o hq)) S.F.above) (Nat.lt_irrefl _)
  refine Heap.FunFrames.cons (L := V.L) (m := m) (by show F.scope.kind ≠ _; rw [F.hk]; decide) rfl S.F.ns hL ?_
  exact V.B.frames.of_keeps fun b o ho z0 => (i11 o (S.F.keep _ _ ho) rfl)
theorem Ex1_raise (G : Good C ss fns bs fields) {P : Parts} (hP : valE ss = (true, some P)) (hok : P.ok = true) (IP : InitP P) {code : List Nat} (hC : C.er = some (exA C, code)) (hsup : bs.contains (Str.ofString "super") = true) (hg : Str.ofString "BasicError" ∈ F.gls)
    {np cp cpos pos : Pos} {kk : Nat} {st : St} {Qn : St → Prop} {Qr : Kon} {Qc : St → Prop} : Ex1 V (n + 5) (.Raise (some (.Call (.Name (Str.ofString "BasicError") np) [.Constant (.str ⟨code.toArray⟩) kk cp] [] cpos)) none pos) st Qn Qr Qc := by
  intro A s hp hv E ok S
  refine x30 (id S) fun m mu tl S0 => ?_
  obtain ⟨D, EX⟩ := exAt_of G hP hok
  have GA := G.exGlob hP
  rw [arm_exec_Raise]
  refine wpAny_bind (wpAny_standAt (raise_fly (cl := exA C) ok.hd ?_))
  refine wpAny_bind (wpAny_mono (Call_Name rfl (nameX_K S0.F V.X (topRead_of V.T) GA.at_ ?_ F.hk (F.hg _ hg).1 (F.hg _ hg).2)) (fun v s3 h3 => wpAny_bind (wpAny_standAt (wpAny_pure h3))) fun z0 z0 x => x)
  have he : ∀ env, starEach [.Constant (.str ⟨code.toArray⟩) kk cp] env = (false, eval (.Constant (.str ⟨code.toArray⟩) kk cp) env) :: starEach [] env := fun z0 => rfl
  refine callWith_K (K := C.K) V.X GA.keep ?_ (he _) rfl
  refine wpAny_mono (Es_one (V := V) (n := n + 5) (Q := fun ps st1 => ps = [.str code]) (fun A s hp hv E ok S => wpAny_Constant_str (i21 _ st rfl (Sim.str_push S (l := code) rfl))) (he _) A s hp hv E cpos ok S) (fun vs s1 hx => ?_) fun z0 z0 e => e
  refine x22 hx fun ps st1 ez0 hl S1 => ?_
  obtain rfl := ez0
  obtain ⟨v, rfl⟩ := len1 hl
  refine x21 S1.str1 fun c tk ez0 hcode => ?_
  obtain rfl := ez0
  refine x30 (id S1) fun m1 mu1 tl1 S2 => ?_
  have X1 := V.X.keeps S2.F.keep
  have T1 := (topRead_of V.T).keeps S2.F.keep
  refine ⟨X1, ?_⟩
  have hdp := ok.dp
  obtain ⟨h1, g1, dr1, tk1, os1⟩ := s1
  refine exc_new IP X1 EX T1 (G.builtin (mem_of hsup)) G.sup (by lia) fun h2 x t1 d w tk2 hk hx hd e1 e2 => ?_
  refine (i53 x t1 d D.N D.r rfl ((EX h2 (X1.keeps hk)).obj) e1 (ok.er _ _ ⟨(i44 _ _ x .none hC rfl (.inl rfl) ?_ S2.X), m1, S2.F.ns.at fun o e => hk _ _ e⟩))
  have st0 : V.base.StaysIn h1 := fun b o e => S2.F.keep _ _ (V.B.stays _ _ e)
  have fr := S2.frames
  refine ⟨fun b o e => hk _ _ (st0 _ _ e), ?_, fr.of_keeps fun b o ho z0 => (i11 o (hk _ _ ho) rfl), Heap.UpToSlots.of_keeps fun b o e => hk _ _ (S2.F.keep _ _ e), t1, .none, d, _, c, tk, e1, rfl, fun env he hf => ?_, e2, ?_, hcode⟩
  · cases q : V.base.get? x with
    | none => rfl
    | some o => have := st0 _ _ q; rw [hx] at this; cases this
  · obtain ⟨-, o, ho, -⟩ := fr.mem (List.mem_filterMap.mpr (i11 env he hf))
    rw [hd] at ho; cases ho
  · have : ¬ (("code" : Str) = ("told" : Str)) := by decide +kernel
    show (if _ then _ else _) = _
    rw [if_neg this, if_pos rfl]
end
end Mine
end
section
open PySem PySem.W PyProof.Rows
set_option Elab.async false
set_option tactic.hygienic false
set_option genSizeOf false
set_option genInjectivity false
set_option maxRecDepth 100000
set_option maxHeartbeats 1000000
set_option linter.unusedVariables false
set_option linter.unusedSimpArgs false
namespace Mine
section
variable {prog : Program} {w : World} {A : Around} {E : Value → Shared → Prop} {h : Heap} {g : Array GenState} {dr : Drawn} {tk : Nat} {os : OsState}
variable {nm q : Str} {C N : Addr} {bs : List Value} {sn : List Str} {sub : List Value} {ab : Bool} {col : Option Bool} {dd : Option Addr} {k0 k1 k2 k3 k5 : Option Value} {newId : String} {mN m : Str → Option Value}
open Builtin Builtin.ObjectAttr in
/-- `e.code` of the exception -/
theorem code_entry {x d : Addr} {t tb v : Value} {tn : Tok} {Q : PySem.Fin → Shared → Prop} (hC : h.get? C = some (excClassObj nm q C N bs excBm true sn sub ab col dd k0 k1 k2 k3 k5 newId)) (hN : h.Ns N mN) (n3 : mN "code" = none)
    (hx : h.get? x = some (flyO C d t tb)) (hd : h.Ns d m) (hv : m "code" = some v) (hq : Q (.done (.ret v)) ⟨h, g, dr, tk, os⟩) : wpAny (model prog w) A (Builtin.«object.__getattribute__» ⟨[.ref x, .str "code" tn], []⟩) Q E ⟨h, g, dr, tk, os⟩ := by
  have hc : (flyO C d t tb).cls = .ref C := rfl
  unfold Builtin.«object.__getattribute__»
  repeat (any_goals (first | assumption | (with_reducible refine wpAny_loadPart_at hx ?_) | (with_reducible refine wpAny_loadPart_at hC ?_) | (with_reducible refine wpAny_typeLookup_exc hC hN PySem.F.attrBase_Exception.mro exc_no_code ?_; rw [n3]) | (with_reducible refine wpAny_nsGet hd ?_; rw [hv]) | wp_step))

theorem check_ga {M : Model} {x d : Addr} {t tb nameV : Value} {Q : Unit → Shared → Prop} (hC : h.get? C = some (excClassObj nm q C N bs excBm true sn sub ab col dd k0 k1 k2 k3 k5 newId)) (hx : h.get? x = some (flyO C d t tb)) (hq : Q () ⟨h, g, dr, tk, os⟩) :
    wpAny M A (checkBuiltinCall "BaseException.__getattribute__" ⟨[.ref x, nameV], []⟩) Q E ⟨h, g, dr, tk, os⟩ := by
  have hk : builtinKind "BaseException.__getattribute__" = some .slot := by decide +kernel
  have hsplit : splitId "BaseException.__getattribute__" = some ("BaseException", "__getattribute__") := by decide +kernel
  have hcB : (Value.ref C :: excBm).contains (.type "BaseException") = true := by rw [List.contains_cons, PySem.F.excBase_Exception.hasBase, Bool.or_true]
  have ha := PySem.F.args_bexc_ga (.ref x) nameV
  have hc : (flyO C d t tb).cls = .ref C := rfl
  simp only [checkBuiltinCall, hk, hsplit]
  refine wpAny_bind ?_
  · unfold isInstance
    repeat (first | (with_reducible refine wpAny_loadPart_at hx ?_; rw [hc]) | (with_reducible refine wpAny_isSubtype_exc hC ?_; rw [hcB]) | wp_step)
    exact hq
theorem code_attr {x d : Addr} {t tb v : Value} {expr : Bool} {Q : Value → Shared → Prop} (hC : h.get? C = some (excClassObj nm q C N bs excBm true sn sub ab col dd k0 k1 k2 k3 k5 newId)) (hN : h.Ns N mN) (n1 : mN "__getattribute__" = none) (n2 : mN "__getattr__" = none) (n3 : mN "code" = none)
    (hx : h.get? x = some (flyO C d t tb)) (hd : h.Ns d m) (hv : m "code" = some v) (hh : handedOut v = pure v) (hq : ∀ tk', Q v ⟨h, g, dr, tk', os⟩) : wpAny (model prog w) A (getAttr (.ref x) "code" expr) Q E ⟨h, g, dr, tk, os⟩ := by
  have hc : (flyO C d t tb).cls = .ref C := rfl
  have FB := PySem.F.attrBase_Exception
  have f3 := FB.ga.bind (.ref x)
  have hx0 : (expr && onTheHeap (Value.builtin "BaseException.__getattribute__")) = false := by cases expr <;> rfl
  have hx2 : (Value.builtin "BaseException.__getattribute__" == Value.builtin "object.__getattribute__") = false := by decide +kernel
  have hx1 : (onTheHeap (Value.ref C) && Value.builtin "BaseException.__getattribute__" == Value.builtin "object.__getattribute__") = false := by rw [hx2]; rfl
  unfold getAttr getAttrBy
  repeat (any_goals (first | assumption | (with_reducible refine wpAny_loadPart_at hx ?_; rw [hc]) | (with_reducible refine wpAny_typeLookup_exc hC hN FB.mro FB.ga.lookup ?_; rw [n1]) | (with_reducible refine wpAny_typeLookup_exc hC hN FB.mro FB.noGetattr ?_; rw [n2]) | wp_step))
  refine codeAny_call_builtin FB.ga.plain PySem.F.entry_bexc_ga (check_ga hC hx (code_entry hC hN n3 hx hd hv ?_))
  repeat (any_goals (first | assumption | (rw [hh]) | wp_step))
  exact hq _
end
end Mine
end
section
open PySem PySem.W PyProof.Rows
set_option Elab.async false
set_option tactic.hygienic false
set_option maxRecDepth 100000
set_option linter.unusedVariables false
set_option linter.unusedSimpArgs false
namespace Mine
noncomputable def fns : List Str := [Str.ofString "figures_of", Str.ofString "rounded_by", Str.ofString "begins_number", Str.ofString "read_ahead", Str.ofString "read_places", Str.ofString "read_picture", Str.ofString "read_pieces", Str.ofString "piece_at", Str.ofString "padded_figures", Str.ofString "scaled", Str.ofString "grouped", Str.ofString "split_figures", Str.ofString "with_exponent", Str.ofString "lead_of", Str.ofString "tail_of", Str.ofString "number_by", Str.ofString "value_by", Str.ofString "is_plain", Str.ofString "using_text", Str.ofString "_law_draw", Str.ofString "_law_field", Str.ofString "_law_near", Str.ofString "_law_lifted", Str.ofString "_law_figures", Str.ofString "_law_places", Str.ofString "_law_by_power", Str.ofString "_law_grouped", Str.ofString "_law_shown", Str.ofString "_law_drawn", Str.ofString "_law_value", Str.ofString "_law_put", Str.ofString "_law_due", Str.ofString "_law_heard"]
noncomputable def bs : List Str := ["abs", "len", "isinstance", "max", "tuple", "str", "range", "enumerate", "super"]
noncomputable def fields : List Str := ["left", "right", "has_point", "has_star", "has_dollar", "has_comma", "has_exponent", "sign"]
noncomputable def ss : List Stmt := PySem.Challenge.pw_pq0175_01.main.body
noncomputable def prt (i : Nat) : Parts := match ss[i]? with
  | some (.FunctionDef name params body _ _ _ scope _ _ _) => ⟨name, params, body, scope, true⟩
  | _ => default
variable {C : Cx}

noncomputable def F_figures_of (K : Frag) : FnI where
  qual := "figures_of"
  scope := (prt 2).scope
  a := adr K "figures_of"
  cd := cdOf K (adr K "figures_of")
  locs := ["number", "many", "bound"]
  gls := []
  hk := by kernel_rfl
  hnd := by decide +kernel
  hl := by decide +kernel
  hg := by decide +kernel
theorem b_figures_of (name : Str) (doc pm : Value) (an : Option Addr) (ct code a : Value) : bindArgs (fnOf name (prt 2).qual (prt 2).params (prt 2).body (prt 2).scope .none .none doc pm an code ct) ⟨[a], []⟩ = pure (List.zip [Str.ofString "number"] [a]) := rfl
theorem D_figures_of (G : Good C ss fns bs fields) : DefAt C (F_figures_of C.K) ["number"] ["many", "bound"] (prt 2).body := by
  have e1 : defIn ss "figures_of" = some (prt 2) := by kernel_rfl
  have e2 : (prt 2).ok = true := by kernel_rfl
  have e3 : (prt 2).qual = "figures_of" := by kernel_rfl
  have e4 : ∀ x ∈ (prt 2).scope.names, x.2 ≠ .cell := by decide +kernel
  have e5 : (prt 2).scope.isCoroutine = false := by kernel_rfl
  have e6 : (prt 2).scope.isGenerator = false := by kernel_rfl
  refine defAt_of (P := prt 2) ((G.parts (g := "figures_of") (by decide +kernel)).trans e1) e2 rfl e3.symm rfl ?_ rfl e4 e5 e6
  intro name doc pm an ct code vs h
  obtain ⟨a, rfl⟩ := len1 h
  exact b_figures_of ..

noncomputable def F_rounded_by (K : Frag) : FnI where
  qual := "rounded_by"
  scope := (prt 3).scope
  a := adr K "rounded_by"
  cd := cdOf K (adr K "rounded_by")
  locs := ["number", "places", "unit", "found", "rest"]
  gls := ["figures_of"]
  hk := by kernel_rfl
  hnd := by decide +kernel
  hl := by decide +kernel
  hg := by decide +kernel
theorem b_rounded_by (name : Str) (doc pm : Value) (an : Option Addr) (ct code a b : Value) : bindArgs (fnOf name (prt 3).qual (prt 3).params (prt 3).body (prt 3).scope .none .none doc pm an code ct) ⟨[a, b], []⟩ = pure (List.zip [Str.ofString "number", Str.ofString "places"] [a, b]) := rfl
theorem D_rounded_by (G : Good C ss fns bs fields) : DefAt C (F_rounded_by C.K) ["number", "places"] ["unit", "found", "rest"] (prt 3).body := by
  have e1 : defIn ss "rounded_by" = some (prt 3) := by kernel_rfl
  have e2 : (prt 3).ok = true := by kernel_rfl
  have e3 : (prt 3).qual = "rounded_by" := by kernel_rfl
  have e4 : ∀ x ∈ (prt 3).scope.names, x.2 ≠ .cell := by decide +kernel
  have e5 : (prt 3).scope.isCoroutine = false := by kernel_rfl
  have e6 : (prt 3).scope.isGenerator = false := by kernel_rfl
  refine defAt_of (P := prt 3) ((G.parts (g := "rounded_by") (by decide +kernel)).trans e1) e2 rfl e3.symm rfl ?_ rfl e4 e5 e6
  intro name doc pm an ct code vs h
  refine x20 (len2 h) fun a b ez0 => ?_
  obtain rfl := ez0
  exact b_rounded_by ..

noncomputable def F_begins_number (K : Frag) : FnI where
  qual := "begins_number"
  scope := (prt 6).scope
  a := adr K "begins_number"
  cd := cdOf K (adr K "begins_number")
  locs := ["text", "at"]
  gls := []
  hk := by kernel_rfl
  hnd := by decide +kernel
  hl := by decide +kernel
  hg := by decide +kernel
theorem b_begins_number (name : Str) (doc pm : Value) (an : Option Addr) (ct code a b : Value) : bindArgs (fnOf name (prt 6).qual (prt 6).params (prt 6).body (prt 6).scope .none .none doc pm an code ct) ⟨[a, b], []⟩ = pure (List.zip [Str.ofString "text", Str.ofString "at"] [a, b]) := rfl
theorem D_begins_number (G : Good C ss fns bs fields) : DefAt C (F_begins_number C.K) ["text", "at"] [] (prt 6).body := by
  have e1 : defIn ss "begins_number" = some (prt 6) := by kernel_rfl
  have e2 : (prt 6).ok = true := by kernel_rfl
  have e3 : (prt 6).qual = "begins_number" := by kernel_rfl
  have e4 : ∀ x ∈ (prt 6).scope.names, x.2 ≠ .cell := by decide +kernel
  have e5 : (prt 6).scope.isCoroutine = false := by kernel_rfl
  have e6 : (prt 6).scope.isGenerator = false := by kernel_rfl
  refine defAt_of (P := prt 6) ((G.parts (g := "begins_number") (by decide +kernel)).trans e1) e2 rfl e3.symm rfl ?_ rfl e4 e5 e6
  intro name doc pm an ct code vs h
  refine x20 (len2 h) fun a b ez0 => ?_
  obtain rfl := ez0
  exact b_begins_number ..

noncomputable def F_read_ahead (K : Frag) : FnI where
  qual := "read_ahead"
  scope := (prt 7).scope
  a := adr K "read_ahead"
  cd := cdOf K (adr K "read_ahead")
  locs := ["picture", "text", "at"]
  gls := []
  hk := by kernel_rfl
  hnd := by decide +kernel
  hl := by decide +kernel
  hg := by decide +kernel
theorem b_read_ahead (name : Str) (doc pm : Value) (an : Option Addr) (ct code a b c : Value) : bindArgs (fnOf name (prt 7).qual (prt 7).params (prt 7).body (prt 7).scope .none .none doc pm an code ct) ⟨[a, b, c], []⟩ = pure (List.zip [Str.ofString "picture", Str.ofString "text", Str.ofString "at"] [a, b, c]) := rfl
theorem D_read_ahead (G : Good C ss fns bs fields) : DefAt C (F_read_ahead C.K) ["picture", "text", "at"] [] (prt 7).body := by
  have e1 : defIn ss "read_ahead" = some (prt 7) := by kernel_rfl
  have e2 : (prt 7).ok = true := by kernel_rfl
  have e3 : (prt 7).qual = "read_ahead" := by kernel_rfl
  have e4 : ∀ x ∈ (prt 7).scope.names, x.2 ≠ .cell := by decide +kernel
  have e5 : (prt 7).scope.isCoroutine = false := by kernel_rfl
  have e6 : (prt 7).scope.isGenerator = false := by kernel_rfl
  refine defAt_of (P := prt 7) ((G.parts (g := "read_ahead") (by decide +kernel)).trans e1) e2 rfl e3.symm rfl ?_ rfl e4 e5 e6
  intro name doc pm an ct code vs h
  refine x30 (len3 h) fun a b c ez0 => ?_
  obtain rfl := ez0
  exact b_read_ahead ..

noncomputable def F_read_places (K : Frag) : FnI where
  qual := "read_places"
  scope := (prt 8).scope
  a := adr K "read_places"
  cd := cdOf K (adr K "read_places")
  locs := ["picture", "text", "at"]
  gls := ["len"]
  hk := by kernel_rfl
  hnd := by decide +kernel
  hl := by decide +kernel
  hg := by decide +kernel
theorem b_read_places (name : Str) (doc pm : Value) (an : Option Addr) (ct code a b c : Value) : bindArgs (fnOf name (prt 8).qual (prt 8).params (prt 8).body (prt 8).scope .none .none doc pm an code ct) ⟨[a, b, c], []⟩ = pure (List.zip [Str.ofString "picture", Str.ofString "text", Str.ofString "at"] [a, b, c]) := rfl
theorem D_read_places (G : Good C ss fns bs fields) : DefAt C (F_read_places C.K) ["picture", "text", "at"] [] (prt 8).body := by
  have e1 : defIn ss "read_places" = some (prt 8) := by kernel_rfl
  have e2 : (prt 8).ok = true := by kernel_rfl
  have e3 : (prt 8).qual = "read_places" := by kernel_rfl
  have e4 : ∀ x ∈ (prt 8).scope.names, x.2 ≠ .cell := by decide +kernel
  have e5 : (prt 8).scope.isCoroutine = false := by kernel_rfl
  have e6 : (prt 8).scope.isGenerator = false := by kernel_rfl
  refine defAt_of (P := prt 8) ((G.parts (g := "read_places") (by decide +kernel)).trans e1) e2 rfl e3.symm rfl ?_ rfl e4 e5 e6
  intro name doc pm an ct code vs h
  refine x30 (len3 h) fun a b c ez0 => ?_
  obtain rfl := ez0
  exact b_read_places ..

noncomputable def F_read_picture (K : Frag) : FnI where
  qual := "read_picture"
  scope := (prt 9).scope
  a := adr K "read_picture"
  cd := cdOf K (adr K "read_picture")
  locs := ["text", "at", "picture"]
  gls := ["Picture", "read_places", "read_ahead", "len"]
  hk := by kernel_rfl
  hnd := by decide +kernel
  hl := by decide +kernel
  hg := by decide +kernel
theorem b_read_picture (name : Str) (doc pm : Value) (an : Option Addr) (ct code a b : Value) : bindArgs (fnOf name (prt 9).qual (prt 9).params (prt 9).body (prt 9).scope .none .none doc pm an code ct) ⟨[a, b], []⟩ = pure (List.zip [Str.ofString "text", Str.ofString "at"] [a, b]) := rfl
theorem D_read_picture (G : Good C ss fns bs fields) : DefAt C (F_read_picture C.K) ["text", "at"] ["picture"] (prt 9).body := by
  have e1 : defIn ss "read_picture" = some (prt 9) := by kernel_rfl
  have e2 : (prt 9).ok = true := by kernel_rfl
  have e3 : (prt 9).qual = "read_picture" := by kernel_rfl
  have e4 : ∀ x ∈ (prt 9).scope.names, x.2 ≠ .cell := by decide +kernel
  have e5 : (prt 9).scope.isCoroutine = false := by kernel_rfl
  have e6 : (prt 9).scope.isGenerator = false := by kernel_rfl
  refine defAt_of (P := prt 9) ((G.parts (g := "read_picture") (by decide +kernel)).trans e1) e2 rfl e3.symm rfl ?_ rfl e4 e5 e6
  intro name doc pm an ct code vs h
  refine x20 (len2 h) fun a b ez0 => ?_
  obtain rfl := ez0
  exact b_read_picture ..

noncomputable def F_read_pieces (K : Frag) : FnI where
  qual := "read_pieces"
  scope := (prt 10).scope
  a := adr K "read_pieces"
  cd := cdOf K (adr K "read_pieces")
  locs := ["text", "found", "plain", "at", "piece", "end"]
  gls := ["len", "piece_at"]
  hk := by kernel_rfl
  hnd := by decide +kernel
  hl := by decide +kernel
  hg := by decide +kernel
theorem b_read_pieces (name : Str) (doc pm : Value) (an : Option Addr) (ct code a : Value) : bindArgs (fnOf name (prt 10).qual (prt 10).params (prt 10).body (prt 10).scope .none .none doc pm an code ct) ⟨[a], []⟩ = pure (List.zip [Str.ofString "text"] [a]) := rfl
theorem D_read_pieces (G : Good C ss fns bs fields) : DefAt C (F_read_pieces C.K) ["text"] ["found", "plain", "at", "piece", "end"] (prt 10).body := by
  have e1 : defIn ss "read_pieces" = some (prt 10) := by kernel_rfl
  have e2 : (prt 10).ok = true := by kernel_rfl
  have e3 : (prt 10).qual = "read_pieces" := by kernel_rfl
  have e4 : ∀ x ∈ (prt 10).scope.names, x.2 ≠ .cell := by decide +kernel
  have e5 : (prt 10).scope.isCoroutine = false := by kernel_rfl
  have e6 : (prt 10).scope.isGenerator = false := by kernel_rfl
  refine defAt_of (P := prt 10) ((G.parts (g := "read_pieces") (by decide +kernel)).trans e1) e2 rfl e3.symm rfl ?_ rfl e4 e5 e6
  intro name doc pm an ct code vs h
  obtain ⟨a, rfl⟩ := len1 h
  exact b_read_pieces ..

noncomputable def F_piece_at (K : Frag) : FnI where
  qual := "piece_at"
  scope := (prt 11).scope
  a := adr K "piece_at"
  cd := cdOf K (adr K "piece_at")
  locs := ["text", "at", "sign", "end"]
  gls := ["begins_number", "read_picture", "len"]
  hk := by kernel_rfl
  hnd := by decide +kernel
  hl := by decide +kernel
  hg := by decide +kernel
theorem b_piece_at (name : Str) (doc pm : Value) (an : Option Addr) (ct code a b : Value) : bindArgs (fnOf name (prt 11).qual (prt 11).params (prt 11).body (prt 11).scope .none .none doc pm an code ct) ⟨[a, b], []⟩ = pure (List.zip [Str.ofString "text", Str.ofString "at"] [a, b]) := rfl
theorem D_piece_at (G : Good C ss fns bs fields) : DefAt C (F_piece_at C.K) ["text", "at"] ["sign", "end"] (prt 11).body := by
  have e1 : defIn ss "piece_at" = some (prt 11) := by kernel_rfl
  have e2 : (prt 11).ok = true := by kernel_rfl
  have e3 : (prt 11).qual = "piece_at" := by kernel_rfl
  have e4 : ∀ x ∈ (prt 11).scope.names, x.2 ≠ .cell := by decide +kernel
  have e5 : (prt 11).scope.isCoroutine = false := by kernel_rfl
  have e6 : (prt 11).scope.isGenerator = false := by kernel_rfl
  refine defAt_of (P := prt 11) ((G.parts (g := "piece_at") (by decide +kernel)).trans e1) e2 rfl e3.symm rfl ?_ rfl e4 e5 e6
  intro name doc pm an ct code vs h
  refine x20 (len2 h) fun a b ez0 => ?_
  obtain rfl := ez0
  exact b_piece_at ..

noncomputable def F_padded_figures (K : Frag) : FnI where
  qual := "padded_figures"
  scope := (prt 12).scope
  a := adr K "padded_figures"
  cd := cdOf K (adr K "padded_figures")
  locs := ["number", "many", "found"]
  gls := ["len"]
  hk := by kernel_rfl
  hnd := by decide +kernel
  hl := by decide +kernel
  hg := by decide +kernel
theorem b_padded_figures (name : Str) (doc pm : Value) (an : Option Addr) (ct code a b : Value) : bindArgs (fnOf name (prt 12).qual (prt 12).params (prt 12).body (prt 12).scope .none .none doc pm an code ct) ⟨[a, b], []⟩ = pure (List.zip [Str.ofString "number", Str.ofString "many"] [a, b]) := rfl
theorem D_padded_figures (G : Good C ss fns bs fields) : DefAt C (F_padded_figures C.K) ["number", "many"] ["found"] (prt 12).body := by
  have e1 : defIn ss "padded_figures" = some (prt 12) := by kernel_rfl
  have e2 : (prt 12).ok = true := by kernel_rfl
  have e3 : (prt 12).qual = "padded_figures" := by kernel_rfl
  have e4 : ∀ x ∈ (prt 12).scope.names, x.2 ≠ .cell := by decide +kernel
  have e5 : (prt 12).scope.isCoroutine = false := by kernel_rfl
  have e6 : (prt 12).scope.isGenerator = false := by kernel_rfl
  refine defAt_of (P := prt 12) ((G.parts (g := "padded_figures") (by decide +kernel)).trans e1) e2 rfl e3.symm rfl ?_ rfl e4 e5 e6
  intro name doc pm an ct code vs h
  refine x20 (len2 h) fun a b ez0 => ?_
  obtain rfl := ez0
  exact b_padded_figures ..

noncomputable def F_scaled (K : Frag) : FnI where
  qual := "scaled"
  scope := (prt 13).scope
  a := adr K "scaled"
  cd := cdOf K (adr K "scaled")
  locs := ["size", "exponent", "places"]
  gls := ["rounded_by"]
  hk := by kernel_rfl
  hnd := by decide +kernel
  hl := by decide +kernel
  hg := by decide +kernel
theorem b_scaled (name : Str) (doc pm : Value) (an : Option Addr) (ct code a b c : Value) : bindArgs (fnOf name (prt 13).qual (prt 13).params (prt 13).body (prt 13).scope .none .none doc pm an code ct) ⟨[a, b, c], []⟩ = pure (List.zip [Str.ofString "size", Str.ofString "exponent", Str.ofString "places"] [a, b, c]) := rfl
theorem D_scaled (G : Good C ss fns bs fields) : DefAt C (F_scaled C.K) ["size", "exponent", "places"] [] (prt 13).body := by
  have e1 : defIn ss "scaled" = some (prt 13) := by kernel_rfl
  have e2 : (prt 13).ok = true := by kernel_rfl
  have e3 : (prt 13).qual = "scaled" := by kernel_rfl
  have e4 : ∀ x ∈ (prt 13).scope.names, x.2 ≠ .cell := by decide +kernel
  have e5 : (prt 13).scope.isCoroutine = false := by kernel_rfl
  have e6 : (prt 13).scope.isGenerator = false := by kernel_rfl
  refine defAt_of (P := prt 13) ((G.parts (g := "scaled") (by decide +kernel)).trans e1) e2 rfl e3.symm rfl ?_ rfl e4 e5 e6
  intro name doc pm an ct code vs h
  refine x30 (len3 h) fun a b c ez0 => ?_
  obtain rfl := ez0
  exact b_scaled ..

noncomputable def F_grouped (K : Frag) : FnI where
  qual := "grouped"
  scope := (prt 14).scope
  a := adr K "grouped"
  cd := cdOf K (adr K "grouped")
  locs := ["figures", "found"]
  gls := ["len"]
  hk := by kernel_rfl
  hnd := by decide +kernel
  hl := by decide +kernel
  hg := by decide +kernel
theorem b_grouped (name : Str) (doc pm : Value) (an : Option Addr) (ct code a : Value) : bindArgs (fnOf name (prt 14).qual (prt 14).params (prt 14).body (prt 14).scope .none .none doc pm an code ct) ⟨[a], []⟩ = pure (List.zip [Str.ofString "figures"] [a]) := rfl
theorem D_grouped (G : Good C ss fns bs fields) : DefAt C (F_grouped C.K) ["figures"] ["found"] (prt 14).body := by
  have e1 : defIn ss "grouped" = some (prt 14) := by kernel_rfl
  have e2 : (prt 14).ok = true := by kernel_rfl
  have e3 : (prt 14).qual = "grouped" := by kernel_rfl
  have e4 : ∀ x ∈ (prt 14).scope.names, x.2 ≠ .cell := by decide +kernel
  have e5 : (prt 14).scope.isCoroutine = false := by kernel_rfl
  have e6 : (prt 14).scope.isGenerator = false := by kernel_rfl
  refine defAt_of (P := prt 14) ((G.parts (g := "grouped") (by decide +kernel)).trans e1) e2 rfl e3.symm rfl ?_ rfl e4 e5 e6
  intro name doc pm an ct code vs h
  obtain ⟨a, rfl⟩ := len1 h
  exact b_grouped ..

noncomputable def F_split_figures (K : Frag) : FnI where
  qual := "split_figures"
  scope := (prt 15).scope
  a := adr K "split_figures"
  cd := cdOf K (adr K "split_figures")
  locs := ["units", "places", "figures"]
  gls := ["padded_figures", "len"]
  hk := by kernel_rfl
  hnd := by decide +kernel
  hl := by decide +kernel
  hg := by decide +kernel
theorem b_split_figures (name : Str) (doc pm : Value) (an : Option Addr) (ct code a b : Value) : bindArgs (fnOf name (prt 15).qual (prt 15).params (prt 15).body (prt 15).scope .none .none doc pm an code ct) ⟨[a, b], []⟩ = pure (List.zip [Str.ofString "units", Str.ofString "places"] [a, b]) := rfl
theorem D_split_figures (G : Good C ss fns bs fields) : DefAt C (F_split_figures C.K) ["units", "places"] ["figures"] (prt 15).body := by
  have e1 : defIn ss "split_figures" = some (prt 15) := by kernel_rfl
  have e2 : (prt 15).ok = true := by kernel_rfl
  have e3 : (prt 15).qual = "split_figures" := by kernel_rfl
  have e4 : ∀ x ∈ (prt 15).scope.names, x.2 ≠ .cell := by decide +kernel
  have e5 : (prt 15).scope.isCoroutine = false := by kernel_rfl
  have e6 : (prt 15).scope.isGenerator = false := by kernel_rfl
  refine defAt_of (P := prt 15) ((G.parts (g := "split_figures") (by decide +kernel)).trans e1) e2 rfl e3.symm rfl ?_ rfl e4 e5 e6
  intro name doc pm an ct code vs h
  refine x20 (len2 h) fun a b ez0 => ?_
  obtain rfl := ez0
  exact b_split_figures ..

noncomputable def F_with_exponent (K : Frag) : FnI where
  qual := "with_exponent"
  scope := (prt 16).scope
  a := adr K "with_exponent"
  cd := cdOf K (adr K "with_exponent")
  locs := ["picture", "size", "exponent", "places", "many", "lift", "units", "figures", "told"]
  gls := ["max", "figures_of", "scaled", "padded_figures", "abs"]
  hk := by kernel_rfl
  hnd := by decide +kernel
  hl := by decide +kernel
  hg := by decide +kernel
theorem b_with_exponent (name : Str) (doc pm : Value) (an : Option Addr) (ct code a b c : Value) : bindArgs (fnOf name (prt 16).qual (prt 16).params (prt 16).body (prt 16).scope .none .none doc pm an code ct) ⟨[a, b, c], []⟩ = pure (List.zip [Str.ofString "picture", Str.ofString "size", Str.ofString "exponent"] [a, b, c]) := rfl
theorem D_with_exponent (G : Good C ss fns bs fields) : DefAt C (F_with_exponent C.K) ["picture", "size", "exponent"] ["places", "many", "lift", "units", "figures", "told"] (prt 16).body := by
  have e1 : defIn ss "with_exponent" = some (prt 16) := by kernel_rfl
  have e2 : (prt 16).ok = true := by kernel_rfl
  have e3 : (prt 16).qual = "with_exponent" := by kernel_rfl
  have e4 : ∀ x ∈ (prt 16).scope.names, x.2 ≠ .cell := by decide +kernel
  have e5 : (prt 16).scope.isCoroutine = false := by kernel_rfl
  have e6 : (prt 16).scope.isGenerator = false := by kernel_rfl
  refine defAt_of (P := prt 16) ((G.parts (g := "with_exponent") (by decide +kernel)).trans e1) e2 rfl e3.symm rfl ?_ rfl e4 e5 e6
  intro name doc pm an ct code vs h
  refine x30 (len3 h) fun a b c ez0 => ?_
  obtain rfl := ez0
  exact b_with_exponent ..

noncomputable def F_lead_of (K : Frag) : FnI where
  qual := "lead_of"
  scope := (prt 17).scope
  a := adr K "lead_of"
  cd := cdOf K (adr K "lead_of")
  locs := ["picture", "is_below"]
  gls := []
  hk := by kernel_rfl
  hnd := by decide +kernel
  hl := by decide +kernel
  hg := by decide +kernel
theorem b_lead_of (name : Str) (doc pm : Value) (an : Option Addr) (ct code a b : Value) : bindArgs (fnOf name (prt 17).qual (prt 17).params (prt 17).body (prt 17).scope .none .none doc pm an code ct) ⟨[a, b], []⟩ = pure (List.zip [Str.ofString "picture", Str.ofString "is_below"] [a, b]) := rfl
theorem D_lead_of (G : Good C ss fns bs fields) : DefAt C (F_lead_of C.K) ["picture", "is_below"] [] (prt 17).body := by
  have e1 : defIn ss "lead_of" = some (prt 17) := by kernel_rfl
  have e2 : (prt 17).ok = true := by kernel_rfl
  have e3 : (prt 17).qual = "lead_of" := by kernel_rfl
  have e4 : ∀ x ∈ (prt 17).scope.names, x.2 ≠ .cell := by decide +kernel
  have e5 : (prt 17).scope.isCoroutine = false := by kernel_rfl
  have e6 : (prt 17).scope.isGenerator = false := by kernel_rfl
  refine defAt_of (P := prt 17) ((G.parts (g := "lead_of") (by decide +kernel)).trans e1) e2 rfl e3.symm rfl ?_ rfl e4 e5 e6
  intro name doc pm an ct code vs h
  refine x20 (len2 h) fun a b ez0 => ?_
  obtain rfl := ez0
  exact b_lead_of ..

noncomputable def F_tail_of (K : Frag) : FnI where
  qual := "tail_of"
  scope := (prt 18).scope
  a := adr K "tail_of"
  cd := cdOf K (adr K "tail_of")
  locs := ["picture", "is_below"]
  gls := []
  hk := by kernel_rfl
  hnd := by decide +kernel
  hl := by decide +kernel
  hg := by decide +kernel
theorem b_tail_of (name : Str) (doc pm : Value) (an : Option Addr) (ct code a b : Value) : bindArgs (fnOf name (prt 18).qual (prt 18).params (prt 18).body (prt 18).scope .none .none doc pm an code ct) ⟨[a, b], []⟩ = pure (List.zip [Str.ofString "picture", Str.ofString "is_below"] [a, b]) := rfl
theorem D_tail_of (G : Good C ss fns bs fields) : DefAt C (F_tail_of C.K) ["picture", "is_below"] [] (prt 18).body := by
  have e1 : defIn ss "tail_of" = some (prt 18) := by kernel_rfl
  have e2 : (prt 18).ok = true := by kernel_rfl
  have e3 : (prt 18).qual = "tail_of" := by kernel_rfl
  have e4 : ∀ x ∈ (prt 18).scope.names, x.2 ≠ .cell := by decide +kernel
  have e5 : (prt 18).scope.isCoroutine = false := by kernel_rfl
  have e6 : (prt 18).scope.isGenerator = false := by kernel_rfl
  refine defAt_of (P := prt 18) ((G.parts (g := "tail_of") (by decide +kernel)).trans e1) e2 rfl e3.symm rfl ?_ rfl e4 e5 e6
  intro name doc pm an ct code vs h
  refine x20 (len2 h) fun a b ez0 => ?_
  obtain rfl := ez0
  exact b_tail_of ..

noncomputable def F_number_by (K : Frag) : FnI where
  qual := "number_by"
  scope := (prt 19).scope
  a := adr K "number_by"
  cd := cdOf K (adr K "number_by")
  locs := ["picture", "value", "coefficient", "exponent", "size", "is_below", "told", "ahead", "behind", "lead", "width", "room", "filled", "whole"]
  gls := ["isinstance", "tuple", "abs", "with_exponent", "split_figures", "scaled", "grouped", "lead_of", "len", "tail_of"]
  hk := by kernel_rfl
  hnd := by decide +kernel
  hl := by decide +kernel
  hg := by decide +kernel
theorem b_number_by (name : Str) (doc pm : Value) (an : Option Addr) (ct code a b : Value) : bindArgs (fnOf name (prt 19).qual (prt 19).params (prt 19).body (prt 19).scope .none .none doc pm an code ct) ⟨[a, b], []⟩ = pure (List.zip [Str.ofString "picture", Str.ofString "value"] [a, b]) := rfl
theorem D_number_by (G : Good C ss fns bs fields) : DefAt C (F_number_by C.K) ["picture", "value"] ["coefficient", "exponent", "size", "is_below", "told", "ahead", "behind", "lead", "width", "room", "filled", "whole"] (prt 19).body := by
  have e1 : defIn ss "number_by" = some (prt 19) := by kernel_rfl
  have e2 : (prt 19).ok = true := by kernel_rfl
  have e3 : (prt 19).qual = "number_by" := by kernel_rfl
  have e4 : ∀ x ∈ (prt 19).scope.names, x.2 ≠ .cell := by decide +kernel
  have e5 : (prt 19).scope.isCoroutine = false := by kernel_rfl
  have e6 : (prt 19).scope.isGenerator = false := by kernel_rfl
  refine defAt_of (P := prt 19) ((G.parts (g := "number_by") (by decide +kernel)).trans e1) e2 rfl e3.symm rfl ?_ rfl e4 e5 e6
  intro name doc pm an ct code vs h
  refine x20 (len2 h) fun a b ez0 => ?_
  obtain rfl := ez0
  exact b_number_by ..

noncomputable def F_value_by (K : Frag) : FnI where
  qual := "value_by"
  scope := (prt 20).scope
  a := adr K "value_by"
  cd := cdOf K (adr K "value_by")
  locs := ["piece", "value"]
  gls := ["isinstance", "Picture", "str", "BasicError", "number_by"]
  hk := by kernel_rfl
  hnd := by decide +kernel
  hl := by decide +kernel
  hg := by decide +kernel
theorem b_value_by (name : Str) (doc pm : Value) (an : Option Addr) (ct code a b : Value) : bindArgs (fnOf name (prt 20).qual (prt 20).params (prt 20).body (prt 20).scope .none .none doc pm an code ct) ⟨[a, b], []⟩ = pure (List.zip [Str.ofString "piece", Str.ofString "value"] [a, b]) := rfl
theorem D_value_by (G : Good C ss fns bs fields) : DefAt C (F_value_by C.K) ["piece", "value"] [] (prt 20).body := by
  have e1 : defIn ss "value_by" = some (prt 20) := by kernel_rfl
  have e2 : (prt 20).ok = true := by kernel_rfl
  have e3 : (prt 20).qual = "value_by" := by kernel_rfl
  have e4 : ∀ x ∈ (prt 20).scope.names, x.2 ≠ .cell := by decide +kernel
  have e5 : (prt 20).scope.isCoroutine = false := by kernel_rfl
  have e6 : (prt 20).scope.isGenerator = false := by kernel_rfl
  refine defAt_of (P := prt 20) ((G.parts (g := "value_by") (by decide +kernel)).trans e1) e2 rfl e3.symm rfl ?_ rfl e4 e5 e6
  intro name doc pm an ct code vs h
  refine x20 (len2 h) fun a b ez0 => ?_
  obtain rfl := ez0
  exact b_value_by ..

noncomputable def F_is_plain (K : Frag) : FnI where
  qual := "is_plain"
  scope := (prt 21).scope
  a := adr K "is_plain"
  cd := cdOf K (adr K "is_plain")
  locs := ["piece"]
  gls := ["isinstance", "tuple"]
  hk := by kernel_rfl
  hnd := by decide +kernel
  hl := by decide +kernel
  hg := by decide +kernel
theorem b_is_plain (name : Str) (doc pm : Value) (an : Option Addr) (ct code a : Value) : bindArgs (fnOf name (prt 21).qual (prt 21).params (prt 21).body (prt 21).scope .none .none doc pm an code ct) ⟨[a], []⟩ = pure (List.zip [Str.ofString "piece"] [a]) := rfl
theorem D_is_plain (G : Good C ss fns bs fields) : DefAt C (F_is_plain C.K) ["piece"] [] (prt 21).body := by
  have e1 : defIn ss "is_plain" = some (prt 21) := by kernel_rfl
  have e2 : (prt 21).ok = true := by kernel_rfl
  have e3 : (prt 21).qual = "is_plain" := by kernel_rfl
  have e4 : ∀ x ∈ (prt 21).scope.names, x.2 ≠ .cell := by decide +kernel
  have e5 : (prt 21).scope.isCoroutine = false := by kernel_rfl
  have e6 : (prt 21).scope.isGenerator = false := by kernel_rfl
  refine defAt_of (P := prt 21) ((G.parts (g := "is_plain") (by decide +kernel)).trans e1) e2 rfl e3.symm rfl ?_ rfl e4 e5 e6
  intro name doc pm an ct code vs h
  obtain ⟨a, rfl⟩ := len1 h
  exact b_is_plain ..

noncomputable def F_using_text (K : Frag) : FnI where
  qual := "using_text"
  scope := (prt 22).scope
  a := adr K "using_text"
  cd := cdOf K (adr K "using_text")
  locs := ["text", "values", "pieces", "found", "at", "piece"]
  gls := ["read_pieces", "len", "is_plain", "BasicError", "value_by"]
  hk := by kernel_rfl
  hnd := by decide +kernel
  hl := by decide +kernel
  hg := by decide +kernel
theorem b_using_text (name : Str) (doc pm : Value) (an : Option Addr) (ct code a b : Value) : bindArgs (fnOf name (prt 22).qual (prt 22).params (prt 22).body (prt 22).scope .none .none doc pm an code ct) ⟨[a, b], []⟩ = pure (List.zip [Str.ofString "text", Str.ofString "values"] [a, b]) := rfl
theorem D_using_text (G : Good C ss fns bs fields) : DefAt C (F_using_text C.K) ["text", "values"] ["pieces", "found", "at", "piece"] (prt 22).body := by
  have e1 : defIn ss "using_text" = some (prt 22) := by kernel_rfl
  have e2 : (prt 22).ok = true := by kernel_rfl
  have e3 : (prt 22).qual = "using_text" := by kernel_rfl
  have e4 : ∀ x ∈ (prt 22).scope.names, x.2 ≠ .cell := by decide +kernel
  have e5 : (prt 22).scope.isCoroutine = false := by kernel_rfl
  have e6 : (prt 22).scope.isGenerator = false := by kernel_rfl
  refine defAt_of (P := prt 22) ((G.parts (g := "using_text") (by decide +kernel)).trans e1) e2 rfl e3.symm rfl ?_ rfl e4 e5 e6
  intro name doc pm an ct code vs h
  refine x20 (len2 h) fun a b ez0 => ?_
  obtain rfl := ez0
  exact b_using_text ..

noncomputable def F_law_draw (K : Frag) : FnI where
  qual := "_law_draw"
  scope := (prt 24).scope
  a := adr K "_law_draw"
  cd := cdOf K (adr K "_law_draw")
  locs := ["purse", "many", "here"]
  gls := ["len", "abs"]
  hk := by kernel_rfl
  hnd := by decide +kernel
  hl := by decide +kernel
  hg := by decide +kernel
theorem b_law_draw (name : Str) (doc pm : Value) (an : Option Addr) (ct code a b : Value) : bindArgs (fnOf name (prt 24).qual (prt 24).params (prt 24).body (prt 24).scope .none .none doc pm an code ct) ⟨[a, b], []⟩ = pure (List.zip [Str.ofString "purse", Str.ofString "many"] [a, b]) := rfl
theorem D_law_draw (G : Good C ss fns bs fields) : DefAt C (F_law_draw C.K) ["purse", "many"] ["here"] (prt 24).body := by
  have e1 : defIn ss "_law_draw" = some (prt 24) := by kernel_rfl
  have e2 : (prt 24).ok = true := by kernel_rfl
  have e3 : (prt 24).qual = "_law_draw" := by kernel_rfl
  have e4 : ∀ x ∈ (prt 24).scope.names, x.2 ≠ .cell := by decide +kernel
  have e5 : (prt 24).scope.isCoroutine = false := by kernel_rfl
  have e6 : (prt 24).scope.isGenerator = false := by kernel_rfl
  refine defAt_of (P := prt 24) ((G.parts (g := "_law_draw") (by decide +kernel)).trans e1) e2 rfl e3.symm rfl ?_ rfl e4 e5 e6
  intro name doc pm an ct code vs h
  refine x20 (len2 h) fun a b ez0 => ?_
  obtain rfl := ez0
  exact b_law_draw ..

noncomputable def F_law_field (K : Frag) : FnI where
  qual := "_law_field"
  scope := (prt 25).scope
  a := adr K "_law_field"
  cd := cdOf K (adr K "_law_field")
  locs := ["purse", "spec", "text"]
  gls := ["_law_draw"]
  hk := by kernel_rfl
  hnd := by decide +kernel
  hl := by decide +kernel
  hg := by decide +kernel
theorem b_law_field (name : Str) (doc pm : Value) (an : Option Addr) (ct code a : Value) : bindArgs (fnOf name (prt 25).qual (prt 25).params (prt 25).body (prt 25).scope .none .none doc pm an code ct) ⟨[a], []⟩ = pure (List.zip [Str.ofString "purse"] [a]) := rfl
theorem D_law_field (G : Good C ss fns bs fields) : DefAt C (F_law_field C.K) ["purse"] ["spec", "text"] (prt 25).body := by
  have e1 : defIn ss "_law_field" = some (prt 25) := by kernel_rfl
  have e2 : (prt 25).ok = true := by kernel_rfl
  have e3 : (prt 25).qual = "_law_field" := by kernel_rfl
  have e4 : ∀ x ∈ (prt 25).scope.names, x.2 ≠ .cell := by decide +kernel
  have e5 : (prt 25).scope.isCoroutine = false := by kernel_rfl
  have e6 : (prt 25).scope.isGenerator = false := by kernel_rfl
  refine defAt_of (P := prt 25) ((G.parts (g := "_law_field") (by decide +kernel)).trans e1) e2 rfl e3.symm rfl ?_ rfl e4 e5 e6
  intro name doc pm an ct code vs h
  obtain ⟨a, rfl⟩ := len1 h
  exact b_law_field ..

noncomputable def F_law_near (K : Frag) : FnI where
  qual := "_law_near"
  scope := (prt 26).scope
  a := adr K "_law_near"
  cd := cdOf K (adr K "_law_near")
  locs := ["pair", "above", "below", "found", "rest"]
  gls := []
  hk := by kernel_rfl
  hnd := by decide +kernel
  hl := by decide +kernel
  hg := by decide +kernel
theorem b_law_near (name : Str) (doc pm : Value) (an : Option Addr) (ct code a : Value) : bindArgs (fnOf name (prt 26).qual (prt 26).params (prt 26).body (prt 26).scope .none .none doc pm an code ct) ⟨[a], []⟩ = pure (List.zip [Str.ofString "pair"] [a]) := rfl
theorem D_law_near (G : Good C ss fns bs fields) : DefAt C (F_law_near C.K) ["pair"] ["above", "below", "found", "rest"] (prt 26).body := by
  have e1 : defIn ss "_law_near" = some (prt 26) := by kernel_rfl
  have e2 : (prt 26).ok = true := by kernel_rfl
  have e3 : (prt 26).qual = "_law_near" := by kernel_rfl
  have e4 : ∀ x ∈ (prt 26).scope.names, x.2 ≠ .cell := by decide +kernel
  have e5 : (prt 26).scope.isCoroutine = false := by kernel_rfl
  have e6 : (prt 26).scope.isGenerator = false := by kernel_rfl
  refine defAt_of (P := prt 26) ((G.parts (g := "_law_near") (by decide +kernel)).trans e1) e2 rfl e3.symm rfl ?_ rfl e4 e5 e6
  intro name doc pm an ct code vs h
  obtain ⟨a, rfl⟩ := len1 h
  exact b_law_near ..

noncomputable def F_law_lifted (K : Frag) : FnI where
  qual := "_law_lifted"
  scope := (prt 27).scope
  a := adr K "_law_lifted"
  cd := cdOf K (adr K "_law_lifted")
  locs := ["size", "power"]
  gls := ["max"]
  hk := by kernel_rfl
  hnd := by decide +kernel
  hl := by decide +kernel
  hg := by decide +kernel
theorem b_law_lifted (name : Str) (doc pm : Value) (an : Option Addr) (ct code a b : Value) : bindArgs (fnOf name (prt 27).qual (prt 27).params (prt 27).body (prt 27).scope .none .none doc pm an code ct) ⟨[a, b], []⟩ = pure (List.zip [Str.ofString "size", Str.ofString "power"] [a, b]) := rfl
theorem D_law_lifted (G : Good C ss fns bs fields) : DefAt C (F_law_lifted C.K) ["size", "power"] [] (prt 27).body := by
  have e1 : defIn ss "_law_lifted" = some (prt 27) := by kernel_rfl
  have e2 : (prt 27).ok = true := by kernel_rfl
  have e3 : (prt 27).qual = "_law_lifted" := by kernel_rfl
  have e4 : ∀ x ∈ (prt 27).scope.names, x.2 ≠ .cell := by decide +kernel
  have e5 : (prt 27).scope.isCoroutine = false := by kernel_rfl
  have e6 : (prt 27).scope.isGenerator = false := by kernel_rfl
  refine defAt_of (P := prt 27) ((G.parts (g := "_law_lifted") (by decide +kernel)).trans e1) e2 rfl e3.symm rfl ?_ rfl e4 e5 e6
  intro name doc pm an ct code vs h
  refine x20 (len2 h) fun a b ez0 => ?_
  obtain rfl := ez0
  exact b_law_lifted ..

noncomputable def F_law_figures (K : Frag) : FnI where
  qual := "_law_figures"
  scope := (prt 28).scope
  a := adr K "_law_figures"
  cd := cdOf K (adr K "_law_figures")
  locs := ["units", "many", "text"]
  gls := ["str", "len"]
  hk := by kernel_rfl
  hnd := by decide +kernel
  hl := by decide +kernel
  hg := by decide +kernel
theorem b_law_figures (name : Str) (doc pm : Value) (an : Option Addr) (ct code a b : Value) : bindArgs (fnOf name (prt 28).qual (prt 28).params (prt 28).body (prt 28).scope .none .none doc pm an code ct) ⟨[a, b], []⟩ = pure (List.zip [Str.ofString "units", Str.ofString "many"] [a, b]) := rfl
theorem D_law_figures (G : Good C ss fns bs fields) : DefAt C (F_law_figures C.K) ["units", "many"] ["text"] (prt 28).body := by
  have e1 : defIn ss "_law_figures" = some (prt 28) := by kernel_rfl
  have e2 : (prt 28).ok = true := by kernel_rfl
  have e3 : (prt 28).qual = "_law_figures" := by kernel_rfl
  have e4 : ∀ x ∈ (prt 28).scope.names, x.2 ≠ .cell := by decide +kernel
  have e5 : (prt 28).scope.isCoroutine = false := by kernel_rfl
  have e6 : (prt 28).scope.isGenerator = false := by kernel_rfl
  refine defAt_of (P := prt 28) ((G.parts (g := "_law_figures") (by decide +kernel)).trans e1) e2 rfl e3.symm rfl ?_ rfl e4 e5 e6
  intro name doc pm an ct code vs h
  refine x20 (len2 h) fun a b ez0 => ?_
  obtain rfl := ez0
  exact b_law_figures ..

noncomputable def F_law_places (K : Frag) : FnI where
  qual := "_law_places"
  scope := (prt 29).scope
  a := adr K "_law_places"
  cd := cdOf K (adr K "_law_places")
  locs := ["spec"]
  gls := ["len"]
  hk := by kernel_rfl
  hnd := by decide +kernel
  hl := by decide +kernel
  hg := by decide +kernel
theorem b_law_places (name : Str) (doc pm : Value) (an : Option Addr) (ct code a : Value) : bindArgs (fnOf name (prt 29).qual (prt 29).params (prt 29).body (prt 29).scope .none .none doc pm an code ct) ⟨[a], []⟩ = pure (List.zip [Str.ofString "spec"] [a]) := rfl
theorem D_law_places (G : Good C ss fns bs fields) : DefAt C (F_law_places C.K) ["spec"] [] (prt 29).body := by
  have e1 : defIn ss "_law_places" = some (prt 29) := by kernel_rfl
  have e2 : (prt 29).ok = true := by kernel_rfl
  have e3 : (prt 29).qual = "_law_places" := by kernel_rfl
  have e4 : ∀ x ∈ (prt 29).scope.names, x.2 ≠ .cell := by decide +kernel
  have e5 : (prt 29).scope.isCoroutine = false := by kernel_rfl
  have e6 : (prt 29).scope.isGenerator = false := by kernel_rfl
  refine defAt_of (P := prt 29) ((G.parts (g := "_law_places") (by decide +kernel)).trans e1) e2 rfl e3.symm rfl ?_ rfl e4 e5 e6
  intro name doc pm an ct code vs h
  obtain ⟨a, rfl⟩ := len1 h
  exact b_law_places ..

noncomputable def F_law_by_power (K : Frag) : FnI where
  qual := "_law_by_power"
  scope := (prt 30).scope
  a := adr K "_law_by_power"
  cd := cdOf K (adr K "_law_by_power")
  locs := ["spec", "size", "power", "room", "lift", "units", "told"]
  gls := ["_law_places", "len", "str", "_law_near", "_law_lifted", "_law_figures", "abs"]
  hk := by kernel_rfl
  hnd := by decide +kernel
  hl := by decide +kernel
  hg := by decide +kernel
theorem b_law_by_power (name : Str) (doc pm : Value) (an : Option Addr) (ct code a b c : Value) : bindArgs (fnOf name (prt 30).qual (prt 30).params (prt 30).body (prt 30).scope .none .none doc pm an code ct) ⟨[a, b, c], []⟩ = pure (List.zip [Str.ofString "spec", Str.ofString "size", Str.ofString "power"] [a, b, c]) := rfl
theorem D_law_by_power (G : Good C ss fns bs fields) : DefAt C (F_law_by_power C.K) ["spec", "size", "power"] ["room", "lift", "units", "told"] (prt 30).body := by
  have e1 : defIn ss "_law_by_power" = some (prt 30) := by kernel_rfl
  have e2 : (prt 30).ok = true := by kernel_rfl
  have e3 : (prt 30).qual = "_law_by_power" := by kernel_rfl
  have e4 : ∀ x ∈ (prt 30).scope.names, x.2 ≠ .cell := by decide +kernel
  have e5 : (prt 30).scope.isCoroutine = false := by kernel_rfl
  have e6 : (prt 30).scope.isGenerator = false := by kernel_rfl
  refine defAt_of (P := prt 30) ((G.parts (g := "_law_by_power") (by decide +kernel)).trans e1) e2 rfl e3.symm rfl ?_ rfl e4 e5 e6
  intro name doc pm an ct code vs h
  refine x30 (len3 h) fun a b c ez0 => ?_
  obtain rfl := ez0
  exact b_law_by_power ..

noncomputable def F_law_grouped (K : Frag) : FnI where
  qual := "_law_grouped"
  scope := (prt 31).scope
  a := adr K "_law_grouped"
  cd := cdOf K (adr K "_law_grouped")
  locs := ["figures", "found", "at", "sign", "left"]
  gls := ["enumerate", "len"]
  hk := by kernel_rfl
  hnd := by decide +kernel
  hl := by decide +kernel
  hg := by decide +kernel
theorem b_law_grouped (name : Str) (doc pm : Value) (an : Option Addr) (ct code a : Value) : bindArgs (fnOf name (prt 31).qual (prt 31).params (prt 31).body (prt 31).scope .none .none doc pm an code ct) ⟨[a], []⟩ = pure (List.zip [Str.ofString "figures"] [a]) := rfl
theorem D_law_grouped (G : Good C ss fns bs fields) : DefAt C (F_law_grouped C.K) ["figures"] ["found", "at", "sign", "left"] (prt 31).body := by
  have e1 : defIn ss "_law_grouped" = some (prt 31) := by kernel_rfl
  have e2 : (prt 31).ok = true := by kernel_rfl
  have e3 : (prt 31).qual = "_law_grouped" := by kernel_rfl
  have e4 : ∀ x ∈ (prt 31).scope.names, x.2 ≠ .cell := by decide +kernel
  have e5 : (prt 31).scope.isCoroutine = false := by kernel_rfl
  have e6 : (prt 31).scope.isGenerator = false := by kernel_rfl
  refine defAt_of (P := prt 31) ((G.parts (g := "_law_grouped") (by decide +kernel)).trans e1) e2 rfl e3.symm rfl ?_ rfl e4 e5 e6
  intro name doc pm an ct code vs h
  obtain ⟨a, rfl⟩ := len1 h
  exact b_law_grouped ..

noncomputable def F_law_shown (K : Frag) : FnI where
  qual := "_law_shown"
  scope := (prt 32).scope
  a := adr K "_law_shown"
  cd := cdOf K (adr K "_law_shown")
  locs := ["spec", "value", "size", "power", "is_below", "figures", "told", "room", "ahead", "behind", "sign", "width", "is_wide", "fill", "end"]
  gls := ["isinstance", "tuple", "abs", "_law_by_power", "_law_figures", "_law_near", "_law_lifted", "len", "_law_grouped", "_law_places"]
  hk := by kernel_rfl
  hnd := by decide +kernel
  hl := by decide +kernel
  hg := by decide +kernel
theorem b_law_shown (name : Str) (doc pm : Value) (an : Option Addr) (ct code a b : Value) : bindArgs (fnOf name (prt 32).qual (prt 32).params (prt 32).body (prt 32).scope .none .none doc pm an code ct) ⟨[a, b], []⟩ = pure (List.zip [Str.ofString "spec", Str.ofString "value"] [a, b]) := rfl
theorem D_law_shown (G : Good C ss fns bs fields) : DefAt C (F_law_shown C.K) ["spec", "value"] ["size", "power", "is_below", "figures", "told", "room", "ahead", "behind", "sign", "width", "is_wide", "fill", "end"] (prt 32).body := by
  have e1 : defIn ss "_law_shown" = some (prt 32) := by kernel_rfl
  have e2 : (prt 32).ok = true := by kernel_rfl
  have e3 : (prt 32).qual = "_law_shown" := by kernel_rfl
  have e4 : ∀ x ∈ (prt 32).scope.names, x.2 ≠ .cell := by decide +kernel
  have e5 : (prt 32).scope.isCoroutine = false := by kernel_rfl
  have e6 : (prt 32).scope.isGenerator = false := by kernel_rfl
  refine defAt_of (P := prt 32) ((G.parts (g := "_law_shown") (by decide +kernel)).trans e1) e2 rfl e3.symm rfl ?_ rfl e4 e5 e6
  intro name doc pm an ct code vs h
  refine x20 (len2 h) fun a b ez0 => ?_
  obtain rfl := ez0
  exact b_law_shown ..

noncomputable def F_law_drawn (K : Frag) : FnI where
  qual := "_law_drawn"
  scope := (prt 33).scope
  a := adr K "_law_drawn"
  cd := cdOf K (adr K "_law_drawn")
  locs := ["purse", "parts", "turn", "form", "many"]
  gls := ["range", "_law_draw", "_law_field"]
  hk := by kernel_rfl
  hnd := by decide +kernel
  hl := by decide +kernel
  hg := by decide +kernel
theorem b_law_drawn (name : Str) (doc pm : Value) (an : Option Addr) (ct code a : Value) : bindArgs (fnOf name (prt 33).qual (prt 33).params (prt 33).body (prt 33).scope .none .none doc pm an code ct) ⟨[a], []⟩ = pure (List.zip [Str.ofString "purse"] [a]) := rfl
theorem D_law_drawn (G : Good C ss fns bs fields) : DefAt C (F_law_drawn C.K) ["purse"] ["parts", "turn", "form", "many"] (prt 33).body := by
  have e1 : defIn ss "_law_drawn" = some (prt 33) := by kernel_rfl
  have e2 : (prt 33).ok = true := by kernel_rfl
  have e3 : (prt 33).qual = "_law_drawn" := by kernel_rfl
  have e4 : ∀ x ∈ (prt 33).scope.names, x.2 ≠ .cell := by decide +kernel
  have e5 : (prt 33).scope.isCoroutine = false := by kernel_rfl
  have e6 : (prt 33).scope.isGenerator = false := by kernel_rfl
  refine defAt_of (P := prt 33) ((G.parts (g := "_law_drawn") (by decide +kernel)).trans e1) e2 rfl e3.symm rfl ?_ rfl e4 e5 e6
  intro name doc pm an ct code vs h
  obtain ⟨a, rfl⟩ := len1 h
  exact b_law_drawn ..

noncomputable def F_law_value (K : Frag) : FnI where
  qual := "_law_value"
  scope := (prt 34).scope
  a := adr K "_law_value"
  cd := cdOf K (adr K "_law_value")
  locs := ["purse", "kind", "is_number", "size"]
  gls := ["_law_draw"]
  hk := by kernel_rfl
  hnd := by decide +kernel
  hl := by decide +kernel
  hg := by decide +kernel
theorem b_law_value (name : Str) (doc pm : Value) (an : Option Addr) (ct code a b : Value) : bindArgs (fnOf name (prt 34).qual (prt 34).params (prt 34).body (prt 34).scope .none .none doc pm an code ct) ⟨[a, b], []⟩ = pure (List.zip [Str.ofString "purse", Str.ofString "kind"] [a, b]) := rfl
theorem D_law_value (G : Good C ss fns bs fields) : DefAt C (F_law_value C.K) ["purse", "kind"] ["is_number", "size"] (prt 34).body := by
  have e1 : defIn ss "_law_value" = some (prt 34) := by kernel_rfl
  have e2 : (prt 34).ok = true := by kernel_rfl
  have e3 : (prt 34).qual = "_law_value" := by kernel_rfl
  have e4 : ∀ x ∈ (prt 34).scope.names, x.2 ≠ .cell := by decide +kernel
  have e5 : (prt 34).scope.isCoroutine = false := by kernel_rfl
  have e6 : (prt 34).scope.isGenerator = false := by kernel_rfl
  refine defAt_of (P := prt 34) ((G.parts (g := "_law_value") (by decide +kernel)).trans e1) e2 rfl e3.symm rfl ?_ rfl e4 e5 e6
  intro name doc pm an ct code vs h
  refine x20 (len2 h) fun a b ez0 => ?_
  obtain rfl := ez0
  exact b_law_value ..

noncomputable def F_law_put (K : Frag) : FnI where
  qual := "_law_put"
  scope := (prt 35).scope
  a := adr K "_law_put"
  cd := cdOf K (adr K "_law_put")
  locs := ["part", "value"]
  gls := ["isinstance", "str", "_law_shown"]
  hk := by kernel_rfl
  hnd := by decide +kernel
  hl := by decide +kernel
  hg := by decide +kernel
theorem b_law_put (name : Str) (doc pm : Value) (an : Option Addr) (ct code a b : Value) : bindArgs (fnOf name (prt 35).qual (prt 35).params (prt 35).body (prt 35).scope .none .none doc pm an code ct) ⟨[a, b], []⟩ = pure (List.zip [Str.ofString "part", Str.ofString "value"] [a, b]) := rfl
theorem D_law_put (G : Good C ss fns bs fields) : DefAt C (F_law_put C.K) ["part", "value"] [] (prt 35).body := by
  have e1 : defIn ss "_law_put" = some (prt 35) := by kernel_rfl
  have e2 : (prt 35).ok = true := by kernel_rfl
  have e3 : (prt 35).qual = "_law_put" := by kernel_rfl
  have e4 : ∀ x ∈ (prt 35).scope.names, x.2 ≠ .cell := by decide +kernel
  have e5 : (prt 35).scope.isCoroutine = false := by kernel_rfl
  have e6 : (prt 35).scope.isGenerator = false := by kernel_rfl
  refine defAt_of (P := prt 35) ((G.parts (g := "_law_put") (by decide +kernel)).trans e1) e2 rfl e3.symm rfl ?_ rfl e4 e5 e6
  intro name doc pm an ct code vs h
  refine x20 (len2 h) fun a b ez0 => ?_
  obtain rfl := ez0
  exact b_law_put ..

noncomputable def F_law_due (K : Frag) : FnI where
  qual := "_law_due"
  scope := (prt 36).scope
  a := adr K "_law_due"
  cd := cdOf K (adr K "_law_due")
  locs := ["parts", "values", "found", "at", "part", "told"]
  gls := ["len", "_law_put"]
  hk := by kernel_rfl
  hnd := by decide +kernel
  hl := by decide +kernel
  hg := by decide +kernel
theorem b_law_due (name : Str) (doc pm : Value) (an : Option Addr) (ct code a b : Value) : bindArgs (fnOf name (prt 36).qual (prt 36).params (prt 36).body (prt 36).scope .none .none doc pm an code ct) ⟨[a, b], []⟩ = pure (List.zip [Str.ofString "parts", Str.ofString "values"] [a, b]) := rfl
theorem D_law_due (G : Good C ss fns bs fields) : DefAt C (F_law_due C.K) ["parts", "values"] ["found", "at", "part", "told"] (prt 36).body := by
  have e1 : defIn ss "_law_due" = some (prt 36) := by kernel_rfl
  have e2 : (prt 36).ok = true := by kernel_rfl
  have e3 : (prt 36).qual = "_law_due" := by kernel_rfl
  have e4 : ∀ x ∈ (prt 36).scope.names, x.2 ≠ .cell := by decide +kernel
  have e5 : (prt 36).scope.isCoroutine = false := by kernel_rfl
  have e6 : (prt 36).scope.isGenerator = false := by kernel_rfl
  refine defAt_of (P := prt 36) ((G.parts (g := "_law_due") (by decide +kernel)).trans e1) e2 rfl e3.symm rfl ?_ rfl e4 e5 e6
  intro name doc pm an ct code vs h
  refine x20 (len2 h) fun a b ez0 => ?_
  obtain rfl := ez0
  exact b_law_due ..

noncomputable def F_law_heard (K : Frag) : FnI where
  qual := "_law_heard"
  scope := (prt 37).scope
  a := adr K "_law_heard"
  cd := cdOf K (adr K "_law_heard")
  locs := ["picture", "values", "e"]
  gls := ["using_text", "BasicError"]
  hk := by kernel_rfl
  hnd := by decide +kernel
  hl := by decide +kernel
  hg := by decide +kernel
theorem b_law_heard (name : Str) (doc pm : Value) (an : Option Addr) (ct code a b : Value) : bindArgs (fnOf name (prt 37).qual (prt 37).params (prt 37).body (prt 37).scope .none .none doc pm an code ct) ⟨[a, b], []⟩ = pure (List.zip [Str.ofString "picture", Str.ofString "values"] [a, b]) := rfl
theorem D_law_heard (G : Good C ss fns bs fields) : DefAt C (F_law_heard C.K) ["picture", "values"] ["e"] (prt 37).body := by
  have e1 : defIn ss "_law_heard" = some (prt 37) := by kernel_rfl
  have e2 : (prt 37).ok = true := by kernel_rfl
  have e3 : (prt 37).qual = "_law_heard" := by kernel_rfl
  have e4 : ∀ x ∈ (prt 37).scope.names, x.2 ≠ .cell := by decide +kernel
  have e5 : (prt 37).scope.isCoroutine = false := by kernel_rfl
  have e6 : (prt 37).scope.isGenerator = false := by kernel_rfl
  refine defAt_of (P := prt 37) ((G.parts (g := "_law_heard") (by decide +kernel)).trans e1) e2 rfl e3.symm rfl ?_ rfl e4 e5 e6
  intro name doc pm an ct code vs h
  refine x20 (len2 h) fun a b ez0 => ?_
  obtain rfl := ez0
  exact b_law_heard ..

noncomputable def prtI : Parts := ((defIn (clsBody ss "Picture") "__init__").map fun p => { p with qual := "Picture.__init__" }).getD default
noncomputable def F_init (K : Frag) : FnI where
  qual := "Picture.__init__"
  scope := prtI.scope
  a := initAt K (adr K "Picture")
  cd := cdOf K (initAt K (adr K "Picture"))
  locs := ["self"]
  gls := []
  hk := by kernel_rfl
  hnd := by decide +kernel
  hl := by decide +kernel
  hg := by decide +kernel
theorem b_init (name : Str) (doc pm : Value) (an : Option Addr) (ct code a : Value) : bindArgs (fnOf name prtI.qual prtI.params prtI.body prtI.scope .none .none doc pm an code ct) ⟨[a], []⟩ = pure (List.zip [Str.ofString "self"] [a]) := rfl
theorem D_init (G : Good C ss fns bs fields) : DefAt C (F_init C.K) ["self"] [] prtI.body := by
  have e0 : (defIn (clsBody ss "Picture") "__init__").map (fun p => { p with qual := ("Picture.__init__" : Str) }) = some prtI := by kernel_rfl
  have e2 : prtI.ok = true := by kernel_rfl
  have e3 : prtI.qual = "Picture.__init__" := by kernel_rfl
  have e4 : ∀ x ∈ prtI.scope.names, x.2 ≠ .cell := by decide +kernel
  have e5 : prtI.scope.isCoroutine = false := by kernel_rfl
  have e6 : prtI.scope.isGenerator = false := by kernel_rfl
  have e1 : partsAt C.K (initAt C.K (adr C.K "Picture")) = some prtI := (congrArg (fun x => x.2.2) G.obs).trans e0
  refine defAt_of (P := prtI) e1 e2 rfl e3.symm rfl ?_ rfl e4 e5 e6
  intro name doc pm an ct code vs h
  obtain ⟨a, rfl⟩ := len1 h
  exact b_init ..

noncomputable def file : Str := PySem.Challenge.pw_pq0175_01.main.file
noncomputable def prtE : Parts := ((defIn (clsBody ss "BasicError") "__init__").map fun p => { p with qual := "BasicError.__init__" }).getD default
theorem valE_01 : valE ss = (true, some prtE) := by kernel_rfl
theorem prtE_ok : prtE.ok = true := by kernel_rfl
theorem b_exc (name : Str) (cl : List (Str × Addr)) (dV doc pm : Value) (an : Option Addr) (code ct a b : Value) (tk : Tok) : ∃ k, bindArgs (fnX name prtE.qual prtE.params prtE.body prtE.scope cl dV .none doc pm an code ct) ⟨[a, b], []⟩ = (seqItems? dV >>= k) ∧ k (some #[.str "" tk]) = pure [(Str.ofString "self", a), (Str.ofString "code", b), (Str.ofString "told", .str "" tk)] := (i11 _ rfl rfl)
theorem initP_01 : InitP prtE where
  body := (i141 ⟨5, 8, 5, 13⟩ ⟨5, 8, 5, 15⟩ ⟨5, 8, 5, 24⟩ ⟨5, 25, 5, 29⟩ ⟨5, 8, 5, 30⟩ ⟨5, 8, 5, 30⟩ ⟨6, 8, 6, 12⟩ ⟨6, 8, 6, 17⟩ ⟨6, 20, 6, 24⟩ ⟨6, 8, 6, 24⟩ ⟨7, 8, 7, 12⟩ ⟨7, 8, 7, 17⟩ ⟨7, 20, 7, 24⟩ ⟨7, 8, 7, 24⟩ (by kernel_rfl) (by decide))
  par := (i11 _ rfl rfl)
  kself := by kernel_rfl
  kcode := by kernel_rfl
  ktold := by kernel_rfl
  ksup := by kernel_rfl
  kcls := by kernel_rfl
  cell := by decide +kernel
  co := by kernel_rfl
  gen := by kernel_rfl
  kind := by kernel_rfl
  bind := b_exc
end Mine
end
section
open PySem PySem.W PyProof.Rows
set_option Elab.async false
set_option tactic.hygienic false
set_option maxRecDepth 100000
set_option linter.unusedVariables false
namespace Mine
noncomputable def B_figures_of_2 : PB :=
    (.ret (.var 1 "many") .nil)
noncomputable def B_figures_of_1 : PB :=
    (.loop (.cmp .LtE (.var 2 "bound") (.var 0 "number"))
      (.aug 2 "bound" .Mult (.int 10)
      (.aug 1 "many" .Add (.int 1)
      .nil))
    B_figures_of_2)
noncomputable def B_figures_of : PB :=
    (.asg2 1 "many" 2 "bound" (.tup (.cons (.int 1) (.cons (.int 10) .nil)))
    B_figures_of_1)
theorem C_figures_of : okB ⟨["number", "many", "bound"], [], fns, bs⟩ B_figures_of (prt 2).body = true ∧ rebB B_figures_of (prt 2).body = (prt 2).body := ⟨by kernel_rfl, by kernel_rfl⟩
noncomputable def B_rounded_by_5 : PB :=
    (.ret (.var 3 "found") .nil)
noncomputable def B_rounded_by_4 : PB :=
    (.ifs (.or (.cmp .Gt (.bin .Mult (.int 2) (.var 4 "rest")) (.var 2 "unit")) (.and (.cmp .Eq (.bin .Mult (.int 2) (.var 4 "rest")) (.var 2 "unit")) (.cmp .Eq (.bin .Mod (.var 3 "found") (.int 2)) (.int 1))))
      (.aug 3 "found" .Add (.int 1)
      .nil)
      .nil
    B_rounded_by_5)
noncomputable def B_rounded_by_3 : PB :=
    (.asg2 3 "found" 4 "rest" (.tup (.cons (.bin .FloorDiv (.var 0 "number") (.var 2 "unit")) (.cons (.bin .Mod (.var 0 "number") (.var 2 "unit")) .nil)))
    B_rounded_by_4)
noncomputable def B_rounded_by_2 : PB :=
    (.asg 2 "unit" (.bin .Pow (.int 10) (.var 1 "places"))
    B_rounded_by_3)
noncomputable def B_rounded_by_1 : PB :=
    (.ifs (.cmp .Gt (.var 1 "places") (.bin .Add (.call "figures_of" (.cons (.var 0 "number") .nil)) (.int 1)))
      (.ret (.int 0) .nil)
      .nil
    B_rounded_by_2)
noncomputable def B_rounded_by : PB :=
    (.ifs (.cmp .LtE (.var 1 "places") (.int 0))
      (.ret (.var 0 "number") .nil)
      .nil
    B_rounded_by_1)
theorem C_rounded_by : okB ⟨["number", "places", "unit", "found", "rest"], ["figures_of"], fns, bs⟩ B_rounded_by (prt 3).body = true ∧ rebB B_rounded_by (prt 3).body = (prt 3).body := ⟨by kernel_rfl, by kernel_rfl⟩
noncomputable def B_begins_number_1 : PB :=
    (.ret (.or (.cmp .Eq (.slice (.var 0 "text") (.var 1 "at") (.bin .Add (.var 1 "at") (.int 1))) (.str [35])) (.cmp .In (.slice (.var 0 "text") (.var 1 "at") (.bin .Add (.var 1 "at") (.int 2))) (.tup (.cons (.str [42, 42]) (.cons (.str [36, 36]) (.cons (.str [46, 35]) .nil)))))) .nil)
noncomputable def B_begins_number : PB :=
    (.ifs (.cmp .Eq (.slice (.var 0 "text") (.var 1 "at") (.bin .Add (.var 1 "at") (.int 1))) (.str [43]))
      (.asg 1 "at" (.bin .Add (.var 1 "at") (.int 1))
      .nil)
      .nil
    B_begins_number_1)
theorem C_begins_number : okB ⟨["text", "at"], [], fns, bs⟩ B_begins_number (prt 6).body = true ∧ rebB B_begins_number (prt 6).body = (prt 6).body := ⟨by kernel_rfl, by kernel_rfl⟩
noncomputable def B_read_ahead_2 : PB :=
    (.ret (.var 2 "at") .nil)
noncomputable def B_read_ahead_1 : PB :=
    (.ifs (.cmp .Eq (.slice (.var 1 "text") (.var 2 "at") (.bin .Add (.var 2 "at") (.int 2))) (.str [42, 42]))
      (.asgT (.cons (.attr (.var 0 "picture") "has_star") (.cons (.attr (.var 0 "picture") "left") (.cons (.name 2 "at") .nil))) (.tup (.cons (.bool true) (.cons (.int 2) (.cons (.bin .Add (.var 2 "at") (.int 2)) .nil))))
      (.ifs (.cmp .Eq (.slice (.var 1 "text") (.var 2 "at") (.bin .Add (.var 2 "at") (.int 1))) (.str [36]))
        (.asgT (.cons (.attr (.var 0 "picture") "has_dollar") (.cons (.attr (.var 0 "picture") "left") (.cons (.name 2 "at") .nil))) (.tup (.cons (.bool true) (.cons (.int 3) (.cons (.bin .Add (.var 2 "at") (.int 1)) .nil))))
        .nil)
        .nil
      .nil))
      (.ifs (.cmp .Eq (.slice (.var 1 "text") (.var 2 "at") (.bin .Add (.var 2 "at") (.int 2))) (.str [36, 36]))
        (.asgT (.cons (.attr (.var 0 "picture") "has_dollar") (.cons (.attr (.var 0 "picture") "left") (.cons (.name 2 "at") .nil))) (.tup (.cons (.bool true) (.cons (.int 2) (.cons (.bin .Add (.var 2 "at") (.int 2)) .nil))))
        .nil)
        .nil
      .nil)
    B_read_ahead_2)
noncomputable def B_read_ahead : PB :=
    (.ifs (.cmp .Eq (.slice (.var 1 "text") (.var 2 "at") (.bin .Add (.var 2 "at") (.int 1))) (.str [43]))
      (.asgT (.cons (.attr (.var 0 "picture") "sign") (.cons (.name 2 "at") .nil)) (.tup (.cons (.str [43, 97, 104, 101, 97, 100]) (.cons (.bin .Add (.var 2 "at") (.int 1)) .nil)))
      .nil)
      .nil
    B_read_ahead_1)
theorem C_read_ahead : okB ⟨["picture", "text", "at"], [], fns, bs⟩ B_read_ahead (prt 7).body = true ∧ rebB B_read_ahead (prt 7).body = (prt 7).body := ⟨by kernel_rfl, by kernel_rfl⟩
noncomputable def B_read_places_2 : PB :=
    (.ret (.var 2 "at") .nil)
noncomputable def B_read_places_1 : PB :=
    (.ifs (.cmp .Eq (.slice (.var 1 "text") (.var 2 "at") (.bin .Add (.var 2 "at") (.int 1))) (.str [46]))
      (.asgT (.cons (.attr (.var 0 "picture") "has_point") (.cons (.name 2 "at") .nil)) (.tup (.cons (.bool true) (.cons (.bin .Add (.var 2 "at") (.int 1)) .nil)))
      (.loop (.cmp .Eq (.slice (.var 1 "text") (.var 2 "at") (.bin .Add (.var 2 "at") (.int 1))) (.str [35]))
        (.asgT (.cons (.attr (.var 0 "picture") "right") (.cons (.name 2 "at") .nil)) (.tup (.cons (.bin .Add (.attr (.var 0 "picture") "right") (.int 1)) (.cons (.bin .Add (.var 2 "at") (.int 1)) .nil)))
        .nil)
      .nil))
      .nil
    B_read_places_2)
noncomputable def B_read_places : PB :=
    (.loop (.and (.cmp .In (.slice (.var 1 "text") (.var 2 "at") (.bin .Add (.var 2 "at") (.int 1))) (.tup (.cons (.str [35]) (.cons (.str [44]) .nil)))) (.cmp .Lt (.var 2 "at") (.len (.var 1 "text"))))
      (.attr (.var 0 "picture") "has_comma" (.or (.attr (.var 0 "picture") "has_comma") (.cmp .Eq (.idx (.var 1 "text") (.var 2 "at")) (.str [44])))
      (.asgT (.cons (.attr (.var 0 "picture") "left") (.cons (.name 2 "at") .nil)) (.tup (.cons (.bin .Add (.attr (.var 0 "picture") "left") (.int 1)) (.cons (.bin .Add (.var 2 "at") (.int 1)) .nil)))
      .nil))
    B_read_places_1)
theorem C_read_places : okB ⟨["picture", "text", "at"], ["len"], fns, bs⟩ B_read_places (prt 8).body = true ∧ rebB B_read_places (prt 8).body = (prt 8).body := ⟨by kernel_rfl, by kernel_rfl⟩
noncomputable def B_read_picture_4 : PB :=
    (.ret (.tup (.cons (.var 2 "picture") (.cons (.var 1 "at") .nil))) .nil)
noncomputable def B_read_picture_3 : PB :=
    (.ifs (.and (.cmp .Eq (.attr (.var 2 "picture") "sign") (.str [])) (.and (.cmp .In (.slice (.var 0 "text") (.var 1 "at") (.bin .Add (.var 1 "at") (.int 1))) (.tup (.cons (.str [43]) (.cons (.str [45]) .nil)))) (.cmp .Lt (.var 1 "at") (.len (.var 0 "text")))))
      (.asgT (.cons (.attr (.var 2 "picture") "sign") (.cons (.name 1 "at") .nil)) (.tup (.cons (.bin .Add (.idx (.var 0 "text") (.var 1 "at")) (.str [98, 101, 104, 105, 110, 100])) (.cons (.bin .Add (.var 1 "at") (.int 1)) .nil)))
      .nil)
      .nil
    B_read_picture_4)
noncomputable def B_read_picture_2 : PB :=
    (.ifs (.cmp .Eq (.slice (.var 0 "text") (.var 1 "at") (.bin .Add (.var 1 "at") (.int 4))) (.str [94, 94, 94, 94]))
      (.asgT (.cons (.attr (.var 2 "picture") "has_exponent") (.cons (.name 1 "at") .nil)) (.tup (.cons (.bool true) (.cons (.bin .Add (.var 1 "at") (.int 4)) .nil)))
      .nil)
      .nil
    B_read_picture_3)
noncomputable def B_read_picture_1 : PB :=
    (.asg 1 "at" (.call "read_places" (.cons (.var 2 "picture") (.cons (.var 0 "text") (.cons (.call "read_ahead" (.cons (.var 2 "picture") (.cons (.var 0 "text") (.cons (.var 1 "at") .nil)))) .nil))))
    B_read_picture_2)
noncomputable def B_read_picture : PB :=
    (.asg 2 "picture" .newPic
    B_read_picture_1)
theorem C_read_picture : okB ⟨["text", "at", "picture"], ["Picture", "read_places", "read_ahead", "len"], fns, bs⟩ B_read_picture (prt 9).body = true ∧ rebB B_read_picture (prt 9).body = (prt 9).body := ⟨by kernel_rfl, by kernel_rfl⟩
noncomputable def B_read_pieces_2 : PB :=
    (.ret (.cat (.var 1 "found") (.ife (.cmp .NotEq (.var 2 "plain") (.str [])) (.lst (.cons (.tup (.cons (.str [112, 108, 97, 105, 110]) (.cons (.var 2 "plain") .nil))) .nil)) (.lst .nil))) .nil)
noncomputable def B_read_pieces_1 : PB :=
    (.loop (.cmp .Lt (.var 3 "at") (.len (.var 0 "text")))
      (.asg2 4 "piece" 5 "end" (.call "piece_at" (.cons (.var 0 "text") (.cons (.var 3 "at") .nil)))
      (.ifs (.cmp .Is (.var 4 "piece") .none)
        (.asg 2 "plain" (.bin .Add (.var 2 "plain") (.idx (.var 0 "text") (.bin .Sub (.var 5 "end") (.int 1))))
        .nil)
        (.ext 1 "found" (.ife (.cmp .NotEq (.var 2 "plain") (.str [])) (.lst (.cons (.tup (.cons (.str [112, 108, 97, 105, 110]) (.cons (.var 2 "plain") .nil))) .nil)) (.lst .nil))
        (.app 1 "found" (.var 4 "piece")
        (.asg 2 "plain" (.str [])
        .nil)))
      (.asg 3 "at" (.var 5 "end")
      .nil)))
    B_read_pieces_2)
noncomputable def B_read_pieces : PB :=
    (.asg3 1 "found" 2 "plain" 3 "at" (.tup (.cons (.lst .nil) (.cons (.str []) (.cons (.int 0) .nil))))
    B_read_pieces_1)
theorem C_read_pieces : okB ⟨["text", "found", "plain", "at", "piece", "end"], ["len", "piece_at"], fns, bs⟩ B_read_pieces (prt 10).body = true ∧ rebB B_read_pieces (prt 10).body = (prt 10).body := ⟨by kernel_rfl, by kernel_rfl⟩
noncomputable def B_piece_at_8 : PB :=
    (.ret (.tup (.cons .none (.cons (.bin .Add (.var 1 "at") (.int 1)) .nil))) .nil)
noncomputable def B_piece_at_7 : PB :=
    (.ifs (.and (.cmp .Eq (.var 2 "sign") (.str [92])) (.cmp .Eq (.slice (.var 0 "text") (.var 3 "end") (.bin .Add (.var 3 "end") (.int 1))) (.str [92])))
      (.ret (.tup (.cons (.tup (.cons (.str [119, 105, 100, 101]) (.cons (.bin .Sub (.bin .Add (.var 3 "end") (.int 1)) (.var 1 "at")) .nil))) (.cons (.bin .Add (.var 3 "end") (.int 1)) .nil))) .nil)
      .nil
    B_piece_at_8)
noncomputable def B_piece_at_6 : PB :=
    (.loop (.and (.cmp .Eq (.var 2 "sign") (.str [92])) (.cmp .Eq (.slice (.var 0 "text") (.var 3 "end") (.bin .Add (.var 3 "end") (.int 1))) (.str [32])))
      (.asg 3 "end" (.bin .Add (.var 3 "end") (.int 1))
      .nil)
    B_piece_at_7)
noncomputable def B_piece_at_5 : PB :=
    (.asg 3 "end" (.bin .Add (.var 1 "at") (.int 1))
    B_piece_at_6)
noncomputable def B_piece_at_4 : PB :=
    (.ifs (.and (.cmp .Eq (.var 2 "sign") (.str [95])) (.cmp .Lt (.bin .Add (.var 1 "at") (.int 1)) (.len (.var 0 "text"))))
      (.ret (.tup (.cons .none (.cons (.bin .Add (.var 1 "at") (.int 2)) .nil))) .nil)
      .nil
    B_piece_at_5)
noncomputable def B_piece_at_3 : PB :=
    (.ifs (.cmp .Eq (.var 2 "sign") (.str [38]))
      (.ret (.tup (.cons (.tup (.cons (.str [119, 104, 111, 108, 101]) .nil)) (.cons (.bin .Add (.var 1 "at") (.int 1)) .nil))) .nil)
      .nil
    B_piece_at_4)
noncomputable def B_piece_at_2 : PB :=
    (.ifs (.cmp .Eq (.var 2 "sign") (.str [33]))
      (.ret (.tup (.cons (.tup (.cons (.str [102, 105, 114, 115, 116]) .nil)) (.cons (.bin .Add (.var 1 "at") (.int 1)) .nil))) .nil)
      .nil
    B_piece_at_3)
noncomputable def B_piece_at_1 : PB :=
    (.ifs (.call "begins_number" (.cons (.var 0 "text") (.cons (.var 1 "at") .nil)))
      (.ret (.call "read_picture" (.cons (.var 0 "text") (.cons (.var 1 "at") .nil))) .nil)
      .nil
    B_piece_at_2)
noncomputable def B_piece_at : PB :=
    (.asg 2 "sign" (.idx (.var 0 "text") (.var 1 "at"))
    B_piece_at_1)
theorem C_piece_at : okB ⟨["text", "at", "sign", "end"], ["begins_number", "read_picture", "len"], fns, bs⟩ B_piece_at (prt 11).body = true ∧ rebB B_piece_at (prt 11).body = (prt 11).body := ⟨by kernel_rfl, by kernel_rfl⟩
noncomputable def B_padded_figures_2 : PB :=
    (.ret (.var 2 "found") .nil)
noncomputable def B_padded_figures_1 : PB :=
    (.loop (.or (.cmp .Gt (.var 0 "number") (.int 0)) (.cmp .Lt (.len (.var 2 "found")) (.var 1 "many")))
      (.asg2 2 "found" 0 "number" (.tup (.cons (.bin .Add (.idx (.str [48, 49, 50, 51, 52, 53, 54, 55, 56, 57]) (.bin .Mod (.var 0 "number") (.int 10))) (.var 2 "found")) (.cons (.bin .FloorDiv (.var 0 "number") (.int 10)) .nil)))
      .nil)
    B_padded_figures_2)
noncomputable def B_padded_figures : PB :=
    (.asg 2 "found" (.str [])
    B_padded_figures_1)
theorem C_padded_figures : okB ⟨["number", "many", "found"], ["len"], fns, bs⟩ B_padded_figures (prt 12).body = true ∧ rebB B_padded_figures (prt 12).body = (prt 12).body := ⟨by kernel_rfl, by kernel_rfl⟩
noncomputable def B_scaled_1 : PB :=
    (.ret (.call "rounded_by" (.cons (.var 0 "size") (.cons (.bin .Sub (.neg (.var 1 "exponent")) (.var 2 "places")) .nil))) .nil)
noncomputable def B_scaled : PB :=
    (.ifs (.cmp .GtE (.bin .Add (.var 1 "exponent") (.var 2 "places")) (.int 0))
      (.ret (.bin .Mult (.var 0 "size") (.bin .Pow (.int 10) (.bin .Add (.var 1 "exponent") (.var 2 "places")))) .nil)
      .nil
    B_scaled_1)
theorem C_scaled : okB ⟨["size", "exponent", "places"], ["rounded_by"], fns, bs⟩ B_scaled (prt 13).body = true ∧ rebB B_scaled (prt 13).body = (prt 13).body := ⟨by kernel_rfl, by kernel_rfl⟩
noncomputable def B_grouped_2 : PB :=
    (.ret (.var 1 "found") .nil)
noncomputable def B_grouped_1 : PB :=
    (.loop (.cmp .Gt (.len (.var 0 "figures")) (.int 3))
      (.asg 0 "figures" (.slice (.var 0 "figures") .none (.neg (.int 3)))
      (.asg 1 "found" (.bin .Add (.bin .Add (.slice (.var 0 "figures") (.neg (.int 3)) .none) (.str [44])) (.var 1 "found"))
      .nil))
    B_grouped_2)
noncomputable def B_grouped : PB :=
    (.asg 1 "found" (.slice (.var 0 "figures") (.neg (.int 3)) .none)
    B_grouped_1)
theorem C_grouped : okB ⟨["figures", "found"], ["len"], fns, bs⟩ B_grouped (prt 14).body = true ∧ rebB B_grouped (prt 14).body = (prt 14).body := ⟨by kernel_rfl, by kernel_rfl⟩
noncomputable def B_split_figures_1 : PB :=
    (.ret (.tup (.cons (.slice (.var 2 "figures") .none (.bin .Sub (.len (.var 2 "figures")) (.var 1 "places"))) (.cons (.slice (.var 2 "figures") (.bin .Sub (.len (.var 2 "figures")) (.var 1 "places")) .none) .nil))) .nil)
noncomputable def B_split_figures : PB :=
    (.asg 2 "figures" (.call "padded_figures" (.cons (.var 0 "units") (.cons (.bin .Add (.var 1 "places") (.int 1)) .nil)))
    B_split_figures_1)
theorem C_split_figures : okB ⟨["units", "places", "figures"], ["padded_figures", "len"], fns, bs⟩ B_split_figures (prt 15).body = true ∧ rebB B_split_figures (prt 15).body = (prt 15).body := ⟨by kernel_rfl, by kernel_rfl⟩
noncomputable def B_with_exponent_8 : PB :=
    (.ret (.tup (.cons (.slice (.var 7 "figures") .none (.var 3 "places")) (.cons (.slice (.var 7 "figures") (.var 3 "places") .none) (.cons (.var 8 "told") .nil)))) .nil)
noncomputable def B_with_exponent_7 : PB :=
    (.asg 8 "told" (.bin .Add (.bin .Add (.str [69]) (.ifj (.cmp .Lt (.var 5 "lift") (.int 0)) (.str [45]) (.str [43]))) (.call "padded_figures" (.cons (.abs (.var 5 "lift")) (.cons (.int 2) .nil))))
    B_with_exponent_8)
noncomputable def B_with_exponent_6 : PB :=
    (.asg 7 "figures" (.call "padded_figures" (.cons (.var 6 "units") (.cons (.var 4 "many") .nil)))
    B_with_exponent_7)
noncomputable def B_with_exponent_5 : PB :=
    (.ifs (.cmp .GtE (.var 6 "units") (.bin .Pow (.int 10) (.var 4 "many")))
      (.asg 5 "lift" (.bin .Add (.var 5 "lift") (.int 1))
      (.asg 6 "units" (.call "scaled" (.cons (.var 1 "size") (.cons (.bin .Sub (.var 2 "exponent") (.var 5 "lift")) (.cons (.attr (.var 0 "picture") "right") .nil))))
      .nil))
      .nil
    B_with_exponent_6)
noncomputable def B_with_exponent_4 : PB :=
    (.asg 6 "units" (.call "scaled" (.cons (.var 1 "size") (.cons (.bin .Sub (.var 2 "exponent") (.var 5 "lift")) (.cons (.attr (.var 0 "picture") "right") .nil))))
    B_with_exponent_5)
noncomputable def B_with_exponent_3 : PB :=
    (.asg 5 "lift" (.bin .Sub (.bin .Add (.var 2 "exponent") (.call "figures_of" (.cons (.var 1 "size") .nil))) (.var 3 "places"))
    B_with_exponent_4)
noncomputable def B_with_exponent_2 : PB :=
    (.ifs (.cmp .Eq (.var 1 "size") (.int 0))
      (.ret (.tup (.cons (.bin .Mult (.str [48]) (.var 3 "places")) (.cons (.bin .Mult (.str [48]) (.attr (.var 0 "picture") "right")) (.cons (.str [69, 43, 48, 48]) .nil)))) .nil)
      .nil
    B_with_exponent_3)
noncomputable def B_with_exponent_1 : PB :=
    (.asg 4 "many" (.bin .Add (.var 3 "places") (.attr (.var 0 "picture") "right"))
    B_with_exponent_2)
noncomputable def B_with_exponent : PB :=
    (.asg 3 "places" (.max (.bin .Sub (.attr (.var 0 "picture") "left") (.ifj (.cmp .Eq (.attr (.var 0 "picture") "sign") (.str [])) (.int 1) (.int 0))) (.int 0))
    B_with_exponent_1)
theorem C_with_exponent : okB ⟨["picture", "size", "exponent", "places", "many", "lift", "units", "figures", "told"], ["max", "figures_of", "scaled", "padded_figures", "abs"], fns, bs⟩ B_with_exponent (prt 16).body = true ∧ rebB B_with_exponent (prt 16).body = (prt 16).body := ⟨by kernel_rfl, by kernel_rfl⟩
noncomputable def B_lead_of_1 : PB :=
    (.ret (.ifj (.and (.cmp .Eq (.attr (.var 0 "picture") "sign") (.str [])) (.var 1 "is_below")) (.str [45]) (.str [])) .nil)
noncomputable def B_lead_of : PB :=
    (.ifs (.cmp .Eq (.attr (.var 0 "picture") "sign") (.str [43, 97, 104, 101, 97, 100]))
      (.ret (.ifj (.var 1 "is_below") (.str [45]) (.str [43])) .nil)
      .nil
    B_lead_of_1)
theorem C_lead_of : okB ⟨["picture", "is_below"], [], fns, bs⟩ B_lead_of (prt 17).body = true ∧ rebB B_lead_of (prt 17).body = (prt 17).body := ⟨by kernel_rfl, by kernel_rfl⟩
noncomputable def B_tail_of_1 : PB :=
    (.ret (.str []) .nil)
noncomputable def B_tail_of : PB :=
    (.ifs (.cmp .In (.attr (.var 0 "picture") "sign") (.tup (.cons (.str [43, 98, 101, 104, 105, 110, 100]) (.cons (.str [45, 98, 101, 104, 105, 110, 100]) .nil))))
      (.ret (.ifj (.var 1 "is_below") (.str [45]) (.ifj (.cmp .Eq (.attr (.var 0 "picture") "sign") (.str [43, 98, 101, 104, 105, 110, 100])) (.str [43]) (.str [32]))) .nil)
      .nil
    B_tail_of_1)
theorem C_tail_of : okB ⟨["picture", "is_below"], [], fns, bs⟩ B_tail_of (prt 18).body = true ∧ rebB B_tail_of (prt 18).body = (prt 18).body := ⟨by kernel_rfl, by kernel_rfl⟩
noncomputable def B_number_by_10 : PB :=
    (.ret (.ife (.cmp .Lt (.var 11 "room") (.int 0)) (.bin .Add (.str [37]) (.var 13 "whole")) (.var 13 "whole")) .nil)
noncomputable def B_number_by_9 : PB :=
    (.asg 13 "whole" (.bin .Add (.bin .Add (.bin .Add (.bin .Add (.var 12 "filled") (.ifj (.attr (.var 0 "picture") "has_point") (.str [46]) (.str []))) (.var 8 "behind")) (.var 6 "told")) (.call "tail_of" (.cons (.var 0 "picture") (.cons (.var 5 "is_below") .nil))))
    B_number_by_10)
noncomputable def B_number_by_8 : PB :=
    (.asg 12 "filled" (.bin .Add (.bin .Add (.bin .Mult (.ifj (.attr (.var 0 "picture") "has_star") (.str [42]) (.str [32])) (.var 11 "room")) (.var 9 "lead")) (.var 7 "ahead"))
    B_number_by_9)
noncomputable def B_number_by_7 : PB :=
    (.asg 11 "room" (.bin .Sub (.var 10 "width") (.len (.bin .Add (.var 9 "lead") (.var 7 "ahead"))))
    B_number_by_8)
noncomputable def B_number_by_6 : PB :=
    (.ifs (.and (.cmp .Gt (.len (.bin .Add (.var 9 "lead") (.var 7 "ahead"))) (.var 10 "width")) (.and (.cmp .Eq (.var 7 "ahead") (.str [48])) (.cmp .NotEq (.var 8 "behind") (.str []))))
      (.asg 7 "ahead" (.str [])
      .nil)
      .nil
    B_number_by_7)
noncomputable def B_number_by_5 : PB :=
    (.asg 10 "width" (.bin .Add (.attr (.var 0 "picture") "left") (.ifj (.cmp .Eq (.attr (.var 0 "picture") "sign") (.str [43, 97, 104, 101, 97, 100])) (.int 1) (.int 0)))
    B_number_by_6)
noncomputable def B_number_by_4 : PB :=
    (.asg 9 "lead" (.bin .Add (.call "lead_of" (.cons (.var 0 "picture") (.cons (.var 5 "is_below") .nil))) (.ifj (.attr (.var 0 "picture") "has_dollar") (.str [36]) (.str [])))
    B_number_by_5)
noncomputable def B_number_by_3 : PB :=
    (.ifs (.and (.attr (.var 0 "picture") "has_comma") (.not (.attr (.var 0 "picture") "has_exponent")))
      (.asg 7 "ahead" (.call "grouped" (.cons (.var 7 "ahead") .nil))
      .nil)
      .nil
    B_number_by_4)
noncomputable def B_number_by_2 : PB :=
    (.ifs (.attr (.var 0 "picture") "has_exponent")
      (.asg3 7 "ahead" 8 "behind" 6 "told" (.call "with_exponent" (.cons (.var 0 "picture") (.cons (.var 4 "size") (.cons (.var 3 "exponent") .nil))))
      .nil)
      (.asg2 7 "ahead" 8 "behind" (.call "split_figures" (.cons (.call "scaled" (.cons (.var 4 "size") (.cons (.var 3 "exponent") (.cons (.attr (.var 0 "picture") "right") .nil)))) (.cons (.attr (.var 0 "picture") "right") .nil)))
      .nil)
    B_number_by_3)
noncomputable def B_number_by_1 : PB :=
    (.asg3 4 "size" 5 "is_below" 6 "told" (.tup (.cons (.abs (.var 2 "coefficient")) (.cons (.cmp .Lt (.var 2 "coefficient") (.int 0)) (.cons (.str []) .nil))))
    B_number_by_2)
noncomputable def B_number_by : PB :=
    (.asg2 2 "coefficient" 3 "exponent" (.ife (.isTup (.var 1 "value")) (.var 1 "value") (.tup (.cons (.var 1 "value") (.cons (.int 0) .nil))))
    B_number_by_1)
theorem C_number_by : okB ⟨["picture", "value", "coefficient", "exponent", "size", "is_below", "told", "ahead", "behind", "lead", "width", "room", "filled", "whole"], ["isinstance", "tuple", "abs", "with_exponent", "split_figures", "scaled", "grouped", "lead_of", "len", "tail_of"], fns, bs⟩ B_number_by (prt 19).body = true ∧ rebB B_number_by (prt 19).body = (prt 19).body := ⟨by kernel_rfl, by kernel_rfl⟩
noncomputable def B_value_by_4 : PB :=
    (.ret (.slice (.bin .Add (.var 1 "value") (.bin .Mult (.str [32]) (.idx (.var 0 "piece") (.int 1)))) .none (.idx (.var 0 "piece") (.int 1))) .nil)
noncomputable def B_value_by_3 : PB :=
    (.ifs (.cmp .Eq (.idx (.var 0 "piece") (.int 0)) (.str [119, 104, 111, 108, 101]))
      (.ret (.var 1 "value") .nil)
      .nil
    B_value_by_4)
noncomputable def B_value_by_2 : PB :=
    (.ifs (.cmp .Eq (.idx (.var 0 "piece") (.int 0)) (.str [102, 105, 114, 115, 116]))
      (.ret (.slice (.bin .Add (.var 1 "value") (.str [32])) .none (.int 1)) .nil)
      .nil
    B_value_by_3)
noncomputable def B_value_by_1 : PB :=
    (.ifs (.not (.isStr (.var 1 "value")))
      (.raw
      .nil)
      .nil
    B_value_by_2)
noncomputable def B_value_by : PB :=
    (.ifs (.isPic (.var 0 "piece"))
      (.ifs (.isStr (.var 1 "value"))
        (.raw
        .nil)
        .nil
      (.ret (.call "number_by" (.cons (.var 0 "piece") (.cons (.var 1 "value") .nil))) .nil))
      .nil
    B_value_by_1)
theorem C_value_by : okB ⟨["piece", "value"], ["isinstance", "Picture", "str", "BasicError", "number_by"], fns, bs⟩ B_value_by (prt 20).body = true ∧ rebB B_value_by (prt 20).body = (prt 20).body := ⟨by kernel_rfl, by kernel_rfl⟩
noncomputable def B_is_plain : PB :=
    (.ret (.andS (.isTup (.var 0 "piece")) (.cmp .Eq (.idx (.var 0 "piece") (.int 0)) (.str [112, 108, 97, 105, 110]))) .nil)
theorem C_is_plain : okB ⟨["piece"], ["isinstance", "tuple"], fns, bs⟩ B_is_plain (prt 21).body = true ∧ rebB B_is_plain (prt 21).body = (prt 21).body := ⟨by kernel_rfl, by kernel_rfl⟩
noncomputable def B_using_text_2 : PB :=
    (.loop (.bool true)
      (.forin 5 "piece" (.var 2 "pieces")
        (.ifs (.call "is_plain" (.cons (.var 5 "piece") .nil))
          (.asg 3 "found" (.bin .Add (.var 3 "found") (.idx (.var 5 "piece") (.int 1)))
          .nil)
          (.ifs (.cmp .Eq (.var 4 "at") (.len (.var 1 "values")))
            (.ret (.var 3 "found") .nil)
            (.asg2 3 "found" 4 "at" (.tup (.cons (.bin .Add (.var 3 "found") (.call "value_by" (.cons (.var 5 "piece") (.cons (.idx (.var 1 "values") (.var 4 "at")) .nil)))) (.cons (.bin .Add (.var 4 "at") (.int 1)) .nil)))
            .nil)
          .nil)
        .nil)
      (.ifs (.cmp .Eq (.var 4 "at") (.len (.var 1 "values")))
        (.ret (.var 3 "found") .nil)
        .nil
      .nil))
    .nil)
noncomputable def B_using_text_1 : PB :=
    (.raw
    B_using_text_2)
noncomputable def B_using_text : PB :=
    (.asg3 2 "pieces" 3 "found" 4 "at" (.tup (.cons (.call "read_pieces" (.cons (.var 0 "text") .nil)) (.cons (.str []) (.cons (.int 0) .nil))))
    B_using_text_1)
theorem C_using_text : okB ⟨["text", "values", "pieces", "found", "at", "piece"], ["read_pieces", "len", "is_plain", "BasicError", "value_by"], fns, bs⟩ B_using_text (prt 22).body = true ∧ rebB B_using_text (prt 22).body = (prt 22).body := ⟨by kernel_rfl, by kernel_rfl⟩
noncomputable def B_law_draw_3 : PB :=
    (.ret (.bin .Mod (.bin .Add (.bin .Mult (.int 5) (.var 2 "here")) (.bin .FloorDiv (.var 2 "here") (.int 2))) (.var 1 "many")) .nil)
noncomputable def B_law_draw_2 : PB :=
    (.ifs (.cmp .Lt (.var 2 "here") (.len (.idx (.var 0 "purse") (.int 0))))
      (.ret (.bin .Mod (.abs (.idx (.idx (.var 0 "purse") (.int 0)) (.var 2 "here"))) (.var 1 "many")) .nil)
      .nil
    B_law_draw_3)
noncomputable def B_law_draw_1 : PB :=
    (.asg 2 "here" (.bin .Sub (.idx (.var 0 "purse") (.int 1)) (.int 1))
    B_law_draw_2)
noncomputable def B_law_draw : PB :=
    (.setI (.var 0 "purse") (.int 1) (.bin .Add (.idx (.var 0 "purse") (.int 1)) (.int 1))
    B_law_draw_1)
theorem C_law_draw : okB ⟨["purse", "many", "here"], ["len", "abs"], fns, bs⟩ B_law_draw (prt 24).body = true ∧ rebB B_law_draw (prt 24).body = (prt 24).body := ⟨by kernel_rfl, by kernel_rfl⟩
noncomputable def B_law_field_7 : PB :=
    (.ret (.tup (.cons (.var 2 "text") (.cons (.var 1 "spec") .nil))) .nil)
noncomputable def B_law_field_6 : PB :=
    (.asg 2 "text" (.bin .Add (.bin .Add (.bin .Add (.var 2 "text") (.bin .Mult (.str [35]) (.idx (.var 1 "spec") (.str [114, 105, 103, 104, 116])))) (.ifj (.idx (.var 1 "spec") (.str [112, 111, 119, 101, 114])) (.str [94, 94, 94, 94]) (.str []))) (.idx (.var 1 "spec") (.str [116, 97, 105, 108])))
    B_law_field_7)
noncomputable def B_law_field_5 : PB :=
    (.asg 2 "text" (.bin .Add (.bin .Add (.bin .Add (.idx (.var 1 "spec") (.str [97, 104, 101, 97, 100])) (.bin .Mult (.str [35]) (.idx (.var 1 "spec") (.str [108, 101, 102, 116])))) (.ifj (.idx (.var 1 "spec") (.str [99, 111, 109, 109, 97])) (.str [44]) (.str []))) (.ifj (.idx (.var 1 "spec") (.str [112, 111, 105, 110, 116])) (.str [46]) (.str [])))
    B_law_field_6)
noncomputable def B_law_field_4 : PB :=
    (.ifs (.cmp .NotEq (.idx (.var 1 "spec") (.str [97, 104, 101, 97, 100])) (.str [43]))
      (.setI (.var 1 "spec") (.str [116, 97, 105, 108]) (.idx (.lst (.cons (.str []) (.cons (.str []) (.cons (.str [43]) (.cons (.str [45]) .nil))))) (.call "_law_draw" (.cons (.var 0 "purse") (.cons (.int 4) .nil))))
      .nil)
      .nil
    B_law_field_5)
noncomputable def B_law_field_3 : PB :=
    (.setI (.var 1 "spec") (.str [112, 111, 105, 110, 116]) (.orS (.cmp .Gt (.idx (.var 1 "spec") (.str [114, 105, 103, 104, 116])) (.int 0)) (.cmp .Eq (.call "_law_draw" (.cons (.var 0 "purse") (.cons (.int 2) .nil))) (.int 1)))
    B_law_field_4)
noncomputable def B_law_field_2 : PB :=
    (.setI (.var 1 "spec") (.str [112, 111, 119, 101, 114]) (.cmp .Eq (.call "_law_draw" (.cons (.var 0 "purse") (.cons (.int 5) .nil))) (.int 4))
    B_law_field_3)
noncomputable def B_law_field_1 : PB :=
    (.asgT (.cons (.sub (.var 1 "spec") (.str [114, 105, 103, 104, 116])) (.cons (.sub (.var 1 "spec") (.str [99, 111, 109, 109, 97])) .nil)) (.tup (.cons (.call "_law_draw" (.cons (.var 0 "purse") (.cons (.int 4) .nil))) (.cons (.cmp .Eq (.call "_law_draw" (.cons (.var 0 "purse") (.cons (.int 2) .nil))) (.int 1)) .nil)))
    B_law_field_2)
noncomputable def B_law_field : PB :=
    (.asg 1 "spec" (.dct ["ahead", "left", "tail"] (.cons (.idx (.lst (.cons (.str []) (.cons (.str [43]) (.cons (.str [42, 42]) (.cons (.str [36, 36]) (.cons (.str [42, 42, 36]) .nil)))))) (.call "_law_draw" (.cons (.var 0 "purse") (.cons (.int 5) .nil)))) (.cons (.bin .Add (.int 1) (.call "_law_draw" (.cons (.var 0 "purse") (.cons (.int 5) .nil)))) (.cons (.str []) .nil))))
    B_law_field_1)
theorem C_law_field : okB ⟨["purse", "spec", "text"], ["_law_draw"], fns, bs⟩ B_law_field (prt 25).body = true ∧ rebB B_law_field (prt 25).body = (prt 25).body := ⟨by kernel_rfl, by kernel_rfl⟩
noncomputable def B_law_near_2 : PB :=
    (.ret (.bin .Add (.var 3 "found") (.ifj (.or (.cmp .Gt (.bin .Mult (.int 2) (.var 4 "rest")) (.var 2 "below")) (.and (.cmp .Eq (.bin .Mult (.int 2) (.var 4 "rest")) (.var 2 "below")) (.cmp .Eq (.bin .Mod (.var 3 "found") (.int 2)) (.int 1)))) (.int 1) (.int 0))) .nil)
noncomputable def B_law_near_1 : PB :=
    (.asg2 3 "found" 4 "rest" (.tup (.cons (.bin .FloorDiv (.var 1 "above") (.var 2 "below")) (.cons (.bin .Mod (.var 1 "above") (.var 2 "below")) .nil)))
    B_law_near_2)
noncomputable def B_law_near : PB :=
    (.asg2 1 "above" 2 "below" (.var 0 "pair")
    B_law_near_1)
theorem C_law_near : okB ⟨["pair", "above", "below", "found", "rest"], [], fns, bs⟩ B_law_near (prt 26).body = true ∧ rebB B_law_near (prt 26).body = (prt 26).body := ⟨by kernel_rfl, by kernel_rfl⟩
noncomputable def B_law_lifted : PB :=
    (.ret (.tup (.cons (.bin .Mult (.var 0 "size") (.bin .Pow (.int 10) (.max (.var 1 "power") (.int 0)))) (.cons (.bin .Pow (.int 10) (.max (.bin .Sub (.int 0) (.var 1 "power")) (.int 0))) .nil))) .nil)
theorem C_law_lifted : okB ⟨["size", "power"], ["max"], fns, bs⟩ B_law_lifted (prt 27).body = true ∧ rebB B_law_lifted (prt 27).body = (prt 27).body := ⟨by kernel_rfl, by kernel_rfl⟩
noncomputable def B_law_figures_1 : PB :=
    (.ret (.ife (.or (.cmp .Gt (.var 0 "units") (.int 0)) (.cmp .Gt (.var 1 "many") (.int 0))) (.bin .Add (.bin .Mult (.str [48]) (.bin .Sub (.var 1 "many") (.len (.var 2 "text")))) (.var 2 "text")) (.str [])) .nil)
noncomputable def B_law_figures : PB :=
    (.asg 2 "text" (.strI (.var 0 "units"))
    B_law_figures_1)
theorem C_law_figures : okB ⟨["units", "many", "text"], ["str", "len"], fns, bs⟩ B_law_figures (prt 28).body = true ∧ rebB B_law_figures (prt 28).body = (prt 28).body := ⟨by kernel_rfl, by kernel_rfl⟩
noncomputable def B_law_places : PB :=
    (.ret (.bin .Add (.bin .Add (.idx (.var 0 "spec") (.str [108, 101, 102, 116])) (.len (.rep 0 "spec" "ahead" 43))) (.ifj (.idx (.var 0 "spec") (.str [99, 111, 109, 109, 97])) (.int 1) (.int 0))) .nil)
theorem C_law_places : okB ⟨["spec"], ["len"], fns, bs⟩ B_law_places (prt 29).body = true ∧ rebB B_law_places (prt 29).body = (prt 29).body := ⟨by kernel_rfl, by kernel_rfl⟩
noncomputable def B_law_by_power_6 : PB :=
    (.ret (.tup (.cons (.call "_law_figures" (.cons (.var 5 "units") (.cons (.bin .Add (.var 3 "room") (.idx (.var 0 "spec") (.str [114, 105, 103, 104, 116]))) .nil))) (.cons (.var 6 "told") (.cons (.var 3 "room") .nil)))) .nil)
noncomputable def B_law_by_power_5 : PB :=
    (.asg 6 "told" (.bin .Add (.bin .Add (.str [69]) (.ifj (.cmp .Lt (.var 4 "lift") (.int 0)) (.str [45]) (.str [43]))) (.call "_law_figures" (.cons (.abs (.var 4 "lift")) (.cons (.int 2) .nil))))
    B_law_by_power_6)
noncomputable def B_law_by_power_4 : PB :=
    (.asg 5 "units" (.call "_law_near" (.cons (.call "_law_lifted" (.cons (.var 1 "size") (.cons (.bin .Add (.bin .Sub (.var 2 "power") (.var 4 "lift")) (.idx (.var 0 "spec") (.str [114, 105, 103, 104, 116]))) .nil))) .nil))
    B_law_by_power_5)
noncomputable def B_law_by_power_3 : PB :=
    (.loop (.cmp .GtE (.call "_law_near" (.cons (.call "_law_lifted" (.cons (.var 1 "size") (.cons (.bin .Add (.bin .Sub (.var 2 "power") (.var 4 "lift")) (.idx (.var 0 "spec") (.str [114, 105, 103, 104, 116]))) .nil))) .nil)) (.bin .Pow (.int 10) (.bin .Add (.var 3 "room") (.idx (.var 0 "spec") (.str [114, 105, 103, 104, 116])))))
      (.asg 4 "lift" (.bin .Add (.var 4 "lift") (.int 1))
      .nil)
    B_law_by_power_4)
noncomputable def B_law_by_power_2 : PB :=
    (.asg 4 "lift" (.bin .Sub (.bin .Sub (.bin .Add (.var 2 "power") (.len (.strI (.var 1 "size")))) (.var 3 "room")) (.int 2))
    B_law_by_power_3)
noncomputable def B_law_by_power_1 : PB :=
    (.ifs (.cmp .Eq (.var 1 "size") (.int 0))
      (.ret (.tup (.cons (.bin .Mult (.str [48]) (.bin .Add (.var 3 "room") (.idx (.var 0 "spec") (.str [114, 105, 103, 104, 116])))) (.cons (.str [69, 43, 48, 48]) (.cons (.var 3 "room") .nil)))) .nil)
      .nil
    B_law_by_power_2)
noncomputable def B_law_by_power : PB :=
    (.asg 3 "room" (.bin .Sub (.call "_law_places" (.cons (.var 0 "spec") .nil)) (.ifj (.and (.cmp .NotEq (.idx (.var 0 "spec") (.str [97, 104, 101, 97, 100])) (.str [43])) (.cmp .Eq (.idx (.var 0 "spec") (.str [116, 97, 105, 108])) (.str []))) (.int 1) (.int 0)))
    B_law_by_power_1)
theorem C_law_by_power : okB ⟨["spec", "size", "power", "room", "lift", "units", "told"], ["_law_places", "len", "str", "_law_near", "_law_lifted", "_law_figures", "abs"], fns, bs⟩ B_law_by_power (prt 30).body = true ∧ rebB B_law_by_power (prt 30).body = (prt 30).body := ⟨by kernel_rfl, by kernel_rfl⟩
noncomputable def B_law_grouped_2 : PB :=
    (.ret (.var 1 "found") .nil)
noncomputable def B_law_grouped_1 : PB :=
    (.raw
    B_law_grouped_2)
noncomputable def B_law_grouped : PB :=
    (.asg 1 "found" (.str [])
    B_law_grouped_1)
theorem C_law_grouped : okB ⟨["figures", "found", "at", "sign", "left"], ["enumerate", "len"], fns, bs⟩ B_law_grouped (prt 31).body = true ∧ rebB B_law_grouped (prt 31).body = (prt 31).body := ⟨by kernel_rfl, by kernel_rfl⟩
noncomputable def B_law_shown_10 : PB :=
    (.ret (.bin .Add (.bin .Add (.bin .Add (.bin .Add (.bin .Add (.bin .Add (.bin .Add (.ifj (.var 12 "is_wide") (.str [37]) (.str [])) (.var 13 "fill")) (.var 10 "sign")) (.var 8 "ahead")) (.ifj (.idx (.var 0 "spec") (.str [112, 111, 105, 110, 116])) (.str [46]) (.str []))) (.var 9 "behind")) (.var 6 "told")) (.var 14 "end")) .nil)
noncomputable def B_law_shown_9 : PB :=
    (.asg 14 "end" (.idx (.dct ["", "+", "-"] (.cons (.str []) (.cons (.ifj (.var 4 "is_below") (.str [45]) (.str [43])) (.cons (.ifj (.var 4 "is_below") (.str [45]) (.str [32])) .nil)))) (.idx (.var 0 "spec") (.str [116, 97, 105, 108])))
    B_law_shown_10)
noncomputable def B_law_shown_8 : PB :=
    (.asg 13 "fill" (.bin .Mult (.ifj (.cmp .In (.str [42]) (.idx (.var 0 "spec") (.str [97, 104, 101, 97, 100]))) (.str [42]) (.str [32])) (.bin .Sub (.var 11 "width") (.len (.bin .Add (.var 10 "sign") (.var 8 "ahead")))))
    B_law_shown_9)
noncomputable def B_law_shown_7 : PB :=
    (.asg 12 "is_wide" (.cmp .Gt (.len (.bin .Add (.var 10 "sign") (.var 8 "ahead"))) (.var 11 "width"))
    B_law_shown_8)
noncomputable def B_law_shown_6 : PB :=
    (.ifs (.and (.cmp .Gt (.len (.bin .Add (.var 10 "sign") (.var 8 "ahead"))) (.var 11 "width")) (.and (.cmp .Eq (.var 8 "ahead") (.str [48])) (.cmp .NotEq (.var 9 "behind") (.str []))))
      (.asg 8 "ahead" (.str [])
      .nil)
      .nil
    B_law_shown_7)
noncomputable def B_law_shown_5 : PB :=
    (.asg 11 "width" (.bin .Add (.call "_law_places" (.cons (.var 0 "spec") .nil)) (.ifj (.cmp .Eq (.idx (.var 0 "spec") (.str [97, 104, 101, 97, 100])) (.str [43])) (.int 1) (.int 0)))
    B_law_shown_6)
noncomputable def B_law_shown_4 : PB :=
    (.asg 10 "sign" (.bin .Add (.var 10 "sign") (.ifj (.cmp .In (.str [36]) (.idx (.var 0 "spec") (.str [97, 104, 101, 97, 100]))) (.str [36]) (.str [])))
    B_law_shown_5)
noncomputable def B_law_shown_3 : PB :=
    (.asg 10 "sign" (.ifj (.cmp .Eq (.idx (.var 0 "spec") (.str [97, 104, 101, 97, 100])) (.str [43])) (.ifj (.var 4 "is_below") (.str [45]) (.str [43])) (.ifj (.and (.var 4 "is_below") (.cmp .Eq (.idx (.var 0 "spec") (.str [116, 97, 105, 108])) (.str []))) (.str [45]) (.str [])))
    B_law_shown_4)
noncomputable def B_law_shown_2 : PB :=
    (.ifs (.idx (.var 0 "spec") (.str [112, 111, 119, 101, 114]))
      (.asg3 5 "figures" 6 "told" 7 "room" (.call "_law_by_power" (.cons (.var 0 "spec") (.cons (.var 2 "size") (.cons (.var 3 "power") .nil))))
      (.asg2 8 "ahead" 9 "behind" (.tup (.cons (.slice (.var 5 "figures") .none (.var 7 "room")) (.cons (.slice (.var 5 "figures") (.var 7 "room") .none) .nil)))
      .nil))
      (.asg 5 "figures" (.call "_law_figures" (.cons (.call "_law_near" (.cons (.call "_law_lifted" (.cons (.var 2 "size") (.cons (.bin .Add (.var 3 "power") (.idx (.var 0 "spec") (.str [114, 105, 103, 104, 116]))) .nil))) .nil)) (.cons (.bin .Add (.idx (.var 0 "spec") (.str [114, 105, 103, 104, 116])) (.int 1)) .nil)))
      (.asg3 8 "ahead" 9 "behind" 6 "told" (.tup (.cons (.slice (.var 5 "figures") .none (.bin .Sub (.len (.var 5 "figures")) (.idx (.var 0 "spec") (.str [114, 105, 103, 104, 116])))) (.cons (.slice (.var 5 "figures") (.bin .Sub (.len (.var 5 "figures")) (.idx (.var 0 "spec") (.str [114, 105, 103, 104, 116]))) .none) (.cons (.str []) .nil))))
      (.asg 8 "ahead" (.ife (.idx (.var 0 "spec") (.str [99, 111, 109, 109, 97])) (.call "_law_grouped" (.cons (.var 8 "ahead") .nil)) (.var 8 "ahead"))
      .nil)))
    B_law_shown_3)
noncomputable def B_law_shown_1 : PB :=
    (.asg 4 "is_below" (.cmp .Lt (.ife (.isTup (.var 1 "value")) (.idx (.var 1 "value") (.int 0)) (.var 1 "value")) (.int 0))
    B_law_shown_2)
noncomputable def B_law_shown : PB :=
    (.asg2 2 "size" 3 "power" (.ife (.isTup (.var 1 "value")) (.tup (.cons (.abs (.idx (.var 1 "value") (.int 0))) (.cons (.idx (.var 1 "value") (.int 1)) .nil))) (.tup (.cons (.abs (.var 1 "value")) (.cons (.int 0) .nil))))
    B_law_shown_1)
theorem C_law_shown : okB ⟨["spec", "value", "size", "power", "is_below", "figures", "told", "room", "ahead", "behind", "sign", "width", "is_wide", "fill", "end"], ["isinstance", "tuple", "abs", "_law_by_power", "_law_figures", "_law_near", "_law_lifted", "len", "_law_grouped", "_law_places"], fns, bs⟩ B_law_shown (prt 32).body = true ∧ rebB B_law_shown (prt 32).body = (prt 32).body := ⟨by kernel_rfl, by kernel_rfl⟩
noncomputable def B_law_drawn_2 : PB :=
    (.ret (.var 1 "parts") .nil)
noncomputable def B_law_drawn_1 : PB :=
    (.forin 2 "turn" (.rng (.bin .Add (.int 1) (.call "_law_draw" (.cons (.var 0 "purse") (.cons (.int 3) .nil)))))
      (.asg 3 "form" (.call "_law_draw" (.cons (.var 0 "purse") (.cons (.int 7) .nil)))
      (.ifs (.cmp .Lt (.var 3 "form") (.int 4))
        (.app 1 "parts" (.bin .Add (.tup (.cons (.str [110, 117, 109, 98, 101, 114]) .nil)) (.call "_law_field" (.cons (.var 0 "purse") .nil)))
        .nil)
        (.ifs (.cmp .Eq (.var 3 "form") (.int 6))
          (.asg 4 "many" (.call "_law_draw" (.cons (.var 0 "purse") (.cons (.int 4) .nil)))
          (.app 1 "parts" (.tup (.cons (.str [119, 105, 100, 101]) (.cons (.bin .Add (.bin .Add (.str [92]) (.bin .Mult (.str [32]) (.var 4 "many"))) (.str [92])) (.cons (.bin .Add (.var 4 "many") (.int 2)) .nil))))
          .nil))
          (.app 1 "parts" (.tup (.cons (.idx (.lst (.cons (.str [102, 105, 114, 115, 116]) (.cons (.str [97, 108, 108]) .nil))) (.bin .Sub (.var 3 "form") (.int 4))) (.cons (.idx (.str [33, 38]) (.bin .Sub (.var 3 "form") (.int 4))) (.cons (.int 0) .nil))))
          .nil)
        .nil)
      (.app 1 "parts" (.bin .Add (.tup (.cons (.str [112, 108, 97, 105, 110]) .nil)) (.idx (.lst (.cons (.tup (.cons (.str [32]) (.cons (.str [32]) .nil))) (.cons (.tup (.cons (.str [32, 95, 35, 58, 32]) (.cons (.str [32, 35, 58, 32]) .nil))) (.cons (.tup (.cons (.str [120]) (.cons (.str [120]) .nil))) (.cons (.tup (.cons (.str [32, 95, 33, 32]) (.cons (.str [32, 33, 32]) .nil))) .nil))))) (.call "_law_draw" (.cons (.var 0 "purse") (.cons (.int 4) .nil)))))
      .nil)))
    B_law_drawn_2)
noncomputable def B_law_drawn : PB :=
    (.asg 1 "parts" (.lst .nil)
    B_law_drawn_1)
theorem C_law_drawn : okB ⟨["purse", "parts", "turn", "form", "many"], ["range", "_law_draw", "_law_field"], fns, bs⟩ B_law_drawn (prt 33).body = true ∧ rebB B_law_drawn (prt 33).body = (prt 33).body := ⟨by kernel_rfl, by kernel_rfl⟩
noncomputable def B_law_value_4 : PB :=
    (.ret (.tup (.cons (.var 3 "size") (.cons (.bin .Sub (.call "_law_draw" (.cons (.var 0 "purse") (.cons (.int 9) .nil))) (.int 6)) .nil))) .nil)
noncomputable def B_law_value_3 : PB :=
    (.ifs (.orS (.cmp .Eq (.bin .Mod (.var 3 "size") (.int 10)) (.int 0)) (.cmp .Eq (.call "_law_draw" (.cons (.var 0 "purse") (.cons (.int 3) .nil))) (.int 0)))
      (.ret (.var 3 "size") .nil)
      .nil
    B_law_value_4)
noncomputable def B_law_value_2 : PB :=
    (.asg 3 "size" (.bin .Sub (.call "_law_draw" (.cons (.var 0 "purse") (.cons (.int 100000) .nil))) (.int 20000))
    B_law_value_3)
noncomputable def B_law_value_1 : PB :=
    (.ifs (.not (.var 2 "is_number"))
      (.ret (.slice (.str [97, 98, 99, 100, 101, 102, 103]) .none (.call "_law_draw" (.cons (.var 0 "purse") (.cons (.int 8) .nil)))) .nil)
      .nil
    B_law_value_2)
noncomputable def B_law_value : PB :=
    (.asg 2 "is_number" (.cmp .NotEq (.cmp .Eq (.var 1 "kind") (.str [110, 117, 109, 98, 101, 114])) (.cmp .Eq (.call "_law_draw" (.cons (.var 0 "purse") (.cons (.int 12) .nil))) (.int 11)))
    B_law_value_1)
theorem C_law_value : okB ⟨["purse", "kind", "is_number", "size"], ["_law_draw"], fns, bs⟩ B_law_value (prt 34).body = true ∧ rebB B_law_value (prt 34).body = (prt 34).body := ⟨by kernel_rfl, by kernel_rfl⟩
noncomputable def B_law_put_3 : PB :=
    (.ret (.slice (.bin .Add (.var 1 "value") (.bin .Mult (.str [32]) (.int 9))) .none (.ife (.cmp .Eq (.idx (.var 0 "part") (.int 0)) (.str [102, 105, 114, 115, 116])) (.int 1) (.idx (.var 0 "part") (.int 2)))) .nil)
noncomputable def B_law_put_2 : PB :=
    (.ifs (.cmp .Eq (.idx (.var 0 "part") (.int 0)) (.str [97, 108, 108]))
      (.ret (.var 1 "value") .nil)
      .nil
    B_law_put_3)
noncomputable def B_law_put_1 : PB :=
    (.ifs (.cmp .Eq (.idx (.var 0 "part") (.int 0)) (.str [110, 117, 109, 98, 101, 114]))
      (.ret (.call "_law_shown" (.cons (.idx (.var 0 "part") (.int 2)) (.cons (.var 1 "value") .nil))) .nil)
      .nil
    B_law_put_2)
noncomputable def B_law_put : PB :=
    (.ifs (.cmp .NotEq (.isStr (.var 1 "value")) (.cmp .NotEq (.idx (.var 0 "part") (.int 0)) (.str [110, 117, 109, 98, 101, 114])))
      (.ret .none .nil)
      .nil
    B_law_put_1)
theorem C_law_put : okB ⟨["part", "value"], ["isinstance", "str", "_law_shown"], fns, bs⟩ B_law_put (prt 35).body = true ∧ rebB B_law_put (prt 35).body = (prt 35).body := ⟨by kernel_rfl, by kernel_rfl⟩
noncomputable def B_law_due_2 : PB :=
    (.ret (.var 2 "found") .nil)
noncomputable def B_law_due_1 : PB :=
    (.loop (.or (.cmp .Lt (.var 3 "at") (.len (.var 1 "values"))) (.cmp .Eq (.var 2 "found") (.str [])))
      (.forin 4 "part" (.var 0 "parts")
        (.ifs (.cmp .Eq (.idx (.var 4 "part") (.int 0)) (.str [112, 108, 97, 105, 110]))
          (.asg 2 "found" (.bin .Add (.var 2 "found") (.idx (.var 4 "part") (.int 2)))
          (.cont .nil))
          .nil
        (.ifs (.cmp .Eq (.var 3 "at") (.len (.var 1 "values")))
          (.ret (.var 2 "found") .nil)
          .nil
        (.asg 5 "told" (.call "_law_put" (.cons (.var 4 "part") (.cons (.idx (.var 1 "values") (.var 3 "at")) .nil)))
        (.ifs (.cmp .Is (.var 5 "told") .none)
          (.ret .none .nil)
          .nil
        (.asg2 2 "found" 3 "at" (.tup (.cons (.bin .Add (.var 2 "found") (.var 5 "told")) (.cons (.bin .Add (.var 3 "at") (.int 1)) .nil)))
        .nil)))))
      .nil)
    B_law_due_2)
noncomputable def B_law_due : PB :=
    (.asg2 2 "found" 3 "at" (.tup (.cons (.str []) (.cons (.int 0) .nil)))
    B_law_due_1)
theorem C_law_due : okB ⟨["parts", "values", "found", "at", "part", "told"], ["len", "_law_put"], fns, bs⟩ B_law_due (prt 36).body = true ∧ rebB B_law_due (prt 36).body = (prt 36).body := ⟨by kernel_rfl, by kernel_rfl⟩
noncomputable def B_law_heard : PB :=
    (.raw
    .nil)
theorem C_law_heard : okB ⟨["picture", "values", "e"], ["using_text", "BasicError"], fns, bs⟩ B_law_heard (prt 37).body = true ∧ rebB B_law_heard (prt 37).body = (prt 37).body := ⟨by kernel_rfl, by kernel_rfl⟩
noncomputable def B_law_6 : PB :=
    (.ret (.andS (.cmp .Eq (.call "_law_heard" (.cons (.str [32, 95, 35, 32, 112, 108, 97, 105, 110]) (.cons (.lst (.cons (.int 1) .nil)) .nil))) (.str [101, 114, 114, 111, 114, 32, 70, 67])) (.cmp .Eq (.call "_law_heard" (.cons (.str []) (.cons (.lst .nil) .nil))) (.str [101, 114, 114, 111, 114, 32, 70, 67]))) .nil)
noncomputable def B_law_5 : PB :=
    (.raw
    B_law_6)
noncomputable def B_law_4 : PB :=
    (.asg 5 "due" (.call "_law_due" (.cons (.var 2 "parts") (.cons (.var 4 "values") .nil)))
    B_law_5)
noncomputable def B_law_3 : PB :=
    (.raw
    B_law_4)
noncomputable def B_law_2 : PB :=
    (.raw
    B_law_3)
noncomputable def B_law_1 : PB :=
    (.asg 2 "parts" (.call "_law_drawn" (.cons (.var 1 "purse") .nil))
    B_law_2)
noncomputable def B_law : PB :=
    (.raw
    B_law_1)
theorem C_law : okB ⟨["script", "purse", "parts", "fields", "values", "due"], ["_law_drawn", "_law_value", "len", "range", "_law_draw", "_law_due", "_law_heard"], fns, bs⟩ B_law (prt 38).body = true ∧ rebB B_law (prt 38).body = (prt 38).body := ⟨by kernel_rfl, by kernel_rfl⟩
noncomputable def B_init_7 : PB :=
    (.attr (.var 0 "self") "sign" (.str [])
    .nil)
noncomputable def B_init_6 : PB :=
    (.attr (.var 0 "self") "has_exponent" (.bool false)
    B_init_7)
noncomputable def B_init_5 : PB :=
    (.attr (.var 0 "self") "has_comma" (.bool false)
    B_init_6)
noncomputable def B_init_4 : PB :=
    (.attr (.var 0 "self") "has_dollar" (.bool false)
    B_init_5)
noncomputable def B_init_3 : PB :=
    (.attr (.var 0 "self") "has_star" (.bool false)
    B_init_4)
noncomputable def B_init_2 : PB :=
    (.attr (.var 0 "self") "has_point" (.bool false)
    B_init_3)
noncomputable def B_init_1 : PB :=
    (.attr (.var 0 "self") "right" (.int 0)
    B_init_2)
noncomputable def B_init : PB :=
    (.attr (.var 0 "self") "left" (.int 0)
    B_init_1)
theorem C_init : okB ⟨["self"], [], fns, bs⟩ B_init prtI.body = true ∧ rebB B_init prtI.body = prtI.body := ⟨by kernel_rfl, by kernel_rfl⟩
section
variable {C : Cx} {F : FnI} {n : Nat}
theorem Fn_W {f : Addr} {k : Ck} (hf : F.a = f) (G : Good C ss fns bs fields) {ps rest : List Str} {body : List Stmt} (D : DefAt C F ps rest body) {b : PB} (hc : okB k b body = true ∧ rebB b body = body) (hk : F.ck fns bs = k) {args : List PV} {ah : AH} {Q : PV → AH → Prop} (hl : args.length = ps.length)
    (h : ∀ V : Act C F, Ws V n b body ⟨loc0 ps rest args, ah⟩ (fun st => Q .none st.ah) (fun p st => Q p st.ah) (fun z0 => False)) : Fn C (n + 1) f args ah Q :=
  Fn_of_body hf D hl fun V => hc.2 ▸ Ws_ex G b body (by rw [hk]; exact hc.1) _ _ _ _ (h V)
theorem FnP.eq {k : Nat} {g : Str} {args : List PV} {ah a : AH} {p : PV} {Q : PV → AH → Prop} (h : Fn C n (adr C.K g) args ah fun r ah' => r = p ∧ ah' = a) (hk : n ≤ k) (hq : Q p a) : FnP C k g args ah Q :=
  ⟨h.mono hk fun r ah' e => by obtain ⟨rfl, rfl⟩ := e; exact hq⟩
theorem FnP.ex {k : Nat} {g : Str} {args : List PV} {ah a : AH} {p : PV} {Q : PV → AH → Prop} (h : Fn C n (adr C.K g) args ah fun r ah' => r = p ∧ ∃ N, ah' = N ++ a) (hk : n ≤ k) (hq : ∀ N, Q p (N ++ a)) : FnP C k g args ah Q :=
  ⟨h.mono hk fun r ah' e => by obtain ⟨rfl, N, rfl⟩ := e; exact hq N⟩
theorem FnP.dr {α : Type} {k : Nat} {g : Str} {args : List PV} {ah : AH} {av : α → AH} {pv : α → PV} {A : α → Prop} {Q : PV → AH → Prop} (h : Fn C n (adr C.K g) args ah fun r ah' => ∃ v : α, A v ∧ r = pv v ∧ ah' = av v) (hk : n ≤ k) (hq : ∀ v : α, A v → Q (pv v) (av v)) : FnP C k g args ah Q :=
  ⟨h.mono hk fun r ah' e => by refine x12 e fun v hv ez0 ez1 => ?_; obtain rfl := ez0; obtain rfl := ez1; exact hq v hv⟩
theorem FnP.un {k : Nat} {g : Str} {args : List PV} {ah a : AH} {A : PV → Prop} {Q : PV → AH → Prop} (h : Fn C n (adr C.K g) args ah fun r ah' => A r ∧ ah' = a) (hk : n ≤ k) (hq : ∀ v, A v → Q v a) : FnP C k g args ah Q :=
  ⟨h.mono hk fun r ah' e => by obtain ⟨hv, rfl⟩ := e; exact hq r hv⟩
end
end Mine
end
section
open PySem PySem.W PyProof.Rows
set_option Elab.async false
set_option tactic.hygienic false
set_option genSizeOf false
set_option genInjectivity false
set_option maxRecDepth 100000
set_option maxHeartbeats 1000000
set_option linter.unusedVariables false
set_option linter.unusedSimpArgs false
namespace Mine
variable {C : Cx}
theorem le_app {x y : List Nat} {a b : Nat} (h1 : x.length ≤ a) (h2 : y.length ≤ b) : (x ++ y).length ≤ a + b := by
  rw [List.length_append]
  exact Nat.add_le_add h1 h2
theorem add_small {m n a b c : Nat} (h1 : m ≤ a) (h2 : n ≤ b) (h : Nat.ble (a + b) c = true) : m + n ≤ c := Nat.le_trans (Nat.add_le_add h1 h2) (Nat.le_of_ble_eq_true h)
theorem to_small {m a c : Nat} (h1 : m ≤ a) (h : Nat.ble a c = true) : m ≤ c := Nat.le_trans h1 (Nat.le_of_ble_eq_true h)
theorem fill_ok {c : Nat} {k : Int} (h1 : -3000 ≤ k) (h2 : k ≤ 3000) : -1000000 < k ∧ k < 1000000 ∧ [c].length * k.toNat ≤ 1000000 := (i02 (by exact (Int.lt_of_lt_of_le (by decide) h1)) (by exact (Int.lt_of_le_of_lt h2 (by decide))) (by simp only [List.length_cons, List.length_nil]; exact (Nat.le_trans (Nat.le_of_eq (Nat.one_mul _)) (Nat.le_trans (Int.toNat_le_toNat h2) (by decide)))))
theorem fill_nat {c k : Nat} (h : k ≤ 3000) : -1000000 < (k : Int) ∧ (k : Int) < 1000000 ∧ [c].length * (k : Int).toNat ≤ 1000000 := fill_ok (by exact (Int.le_trans (by decide) (Int.natCast_nonneg k))) (by exact (Int.ofNat_le.mpr h))
/-! ### what the number's defs reckon -/
noncomputable def nd (n : Nat) : Nat := if n < 10 then 1 else nd (n / 10) + 1
theorem nd_eq : ∀ {k N : Nat}, 1 ≤ k → (k = 1 ∨ 10 ^ (k - 1) ≤ N) → N < 10 ^ k → nd N = k
  | 0, _, h, _, _ => by lia
  | 1, N, _, _, h => by unfold nd; rw [if_pos (by exact (h))]
  | k + 2, N, _, h2, h3 => by
    have h2' : 10 ^ (k + 1) ≤ N := by
      exact h2.resolve_left fun z => Nat.succ_ne_zero _ (Nat.succ.inj z)
    have e1 : 10 ^ (k + 1) = 10 ^ k * 10 := Nat.pow_succ ..
    have e2 : 10 ^ (k + 2) = 10 ^ (k + 1) * 10 := Nat.pow_succ ..
    have hp : 1 ≤ 10 ^ k := Nat.one_le_pow _ _ (by decide)
    unfold nd
    rw [if_neg (by exact (fun z => absurd (Nat.lt_of_le_of_lt (Nat.le_trans (Nat.le_self_pow (Nat.succ_ne_zero k) 10) h2') z) (Nat.lt_irrefl _))), nd_eq (k := k + 1) (by lia) (.inr (by show 10 ^ k ≤ N / 10; exact ((Nat.le_div_iff_mul_le (by decide)).mpr h2'))) (by exact ((Nat.div_lt_iff_lt_mul (by decide)).mpr h3))]
theorem nd_lt : ∀ N : Nat, N < 10 ^ nd N := by
  intro N
  induction N using Nat.strongRecOn with
  | ind N ih =>
    unfold nd
    split
    · exact ((by assumption : N < 10))
    · have := ih (N / 10) (by exact (Nat.div_lt_self (Nat.lt_of_lt_of_le (show 0 < 10 by decide) (Nat.not_lt.mp (by assumption))) (by decide)))
      rw [Nat.pow_succ]; exact ((Nat.div_lt_iff_lt_mul (by decide)).mp this)
theorem nd_le {N k : Nat} (hk : 1 ≤ k) (h : N < 10 ^ k) : nd N ≤ k := by
  induction k generalizing N with
  | zero => lia
  | succ k ih =>
    unfold nd
    split
    · lia
    · cases k with
      | zero => exact absurd h (by assumption)
      | succ k =>
        have := ih (N := N / 10) (by lia) (by rw [Nat.pow_succ] at h; exact ((Nat.div_lt_iff_lt_mul (by decide)).mpr h))
        exact (Nat.succ_le_succ this)
/-- half to even -/
noncomputable def halfEven (a u : Nat) : Nat := if 2 * (a % u) > u ∨ (2 * (a % u) = u ∧ a / u % 2 = 1) then a / u + 1 else a / u
noncomputable def roundedBy (N : Nat) (p : Int) : Nat := if p ≤ 0 then N else if p > nd N + 1 then 0 else halfEven N (10 ^ p.toNat)
noncomputable def low : Nat → Nat → List Nat
  | 0, _ => []
  | j + 1, N => low j (N / 10) ++ [48 + N % 10]
/-- how many figures without noughts ahead; none of nought -/
noncomputable def nz (N : Nat) : Nat := if N = 0 then 0 else nz (N / 10) + 1
noncomputable def padded (N : Nat) (m : Nat) : List Nat := low (max (nz N) m) N
theorem low_succ : ∀ (j N : Nat), low (j + 1) N = (48 + N / 10 ^ j % 10) :: low j N
  | 0, N => by simp [low]
  | j + 1, N => by
    have ih := low_succ j (N / 10)
    rw [low, ih, low, Nat.div_div_eq_div_mul, Nat.pow_succ, Nat.mul_comm 10]
    rfl
theorem low_len : ∀ (j N : Nat), (low j N).length = j
  | 0, _ => rfl
  | j + 1, N => by rw [low_succ, List.length_cons, low_len j N]
theorem nz_pos : ∀ (j N : Nat), 0 < N / 10 ^ j ↔ j < nz N := by
  intro j
  induction j with
  | zero => intro N; unfold nz; split <;> simp_all; lia
  | succ j ih =>
    intro N
    unfold nz
    split
    · rename_i h; subst h; simp
    · rw [Nat.pow_succ, Nat.mul_comm, ← Nat.div_div_eq_div_mul, ih]; lia
theorem nz_le {N k : Nat} (h : N < 10 ^ k) : nz N ≤ k := by
  rcases Nat.lt_or_ge k (nz N) with h' | h'
  · have := (nz_pos k N).mpr h'
    rw [Nat.div_eq_of_lt h] at this; lia
  · exact h'
noncomputable def sc (N : Nat) (k : Int) : Nat := if 0 ≤ k then N * 10 ^ k.toNat else roundedBy N (-k)
noncomputable def grp (l : List Nat) : List Nat := if h : l.length ≤ 3 then l else grp (l.take (l.length - 3)) ++ 44 :: l.drop (l.length - 3)
termination_by l.length
decreasing_by simp; exact (Nat.sub_lt (Nat.lt_of_le_of_lt (Nat.zero_le 3) (Nat.not_le.mp h)) (by decide))
theorem clip_nat (n k d : Nat) : clip n (some (k : Int)) d = min k n := by
  unfold clip
  dsimp only
  rw [if_neg (Int.not_lt.mpr (Int.natCast_nonneg k))]
  exact a_clipn k n
theorem clip_neg (n k d : Nat) (hk : 0 < k) : clip n (some (-(k : Int))) d = n - k := by
  unfold clip
  dsimp only
  rw [if_pos (Int.neg_neg_of_pos (Int.natCast_pos.mpr hk))]
  exact a_clipm n k
theorem take_min {α : Type} (l : List α) (k : Nat) : l.take (min k l.length) = l.take k := by
  rcases Nat.le_total k l.length with h | h
  · rw [Nat.min_eq_left h]
  · rw [Nat.min_eq_right h, List.take_length, List.take_of_length_le h]
theorem drop_min {α : Type} (l : List α) (k : Nat) : l.drop (min k l.length) = l.drop k := by
  rcases Nat.le_total k l.length with h | h
  · rw [Nat.min_eq_left h]
  · rw [Nat.min_eq_right h, List.drop_length, List.drop_of_length_le h]
theorem pySlice_tail {α : Type} (l : List α) (k : Nat) (hk : 0 < k) : pySlice (some (-(k : Int))) none l = l.drop (l.length - k) := by
  unfold pySlice
  rw [clip_neg _ _ _ hk, show clip l.length none l.length = l.length from rfl, List.take_length]
theorem pySlice_init {α : Type} (l : List α) (k : Nat) (hk : 0 < k) : pySlice none (some (-(k : Int))) l = l.take (l.length - k) := by
  unfold pySlice
  rw [clip_neg _ _ _ hk]; rfl
theorem pySlice_to {α : Type} (l : List α) (k : Nat) : pySlice none (some (k : Int)) l = l.take k := by
  unfold pySlice
  rw [clip_nat, take_min]; rfl
theorem pySlice_from {α : Type} (l : List α) (k : Nat) : pySlice (some (k : Int)) none l = l.drop k := by
  unfold pySlice
  rw [clip_nat, show clip l.length none l.length = l.length from rfl, List.take_length, drop_min]
theorem roundedBy_le (N : Nat) (p : Int) : roundedBy N p ≤ N + 1 := by
  unfold roundedBy
  split
  · lia
  · split
    · lia
    · unfold halfEven
      have := Nat.div_le_self N (10 ^ p.toNat)
      split
      · exact Nat.succ_le_succ this
      · exact Nat.le_succ_of_le this
theorem figures_of_ok (G : Good C ss fns bs fields) {N : Nat} {ah : AH} : Fn C 10 (adr C.K "figures_of") [.int N] ah fun p ah' => p = .int (nd N) ∧ ah' = ah := by
  refine Fn_W (F := F_figures_of C.K) (n := 9) rfl G (D_figures_of G) C_figures_of rfl rfl fun V => ?_
  refine ⟨Nat, fun k => ⟨[(Str.ofString "number", some (.int N)), (Str.ofString "many", some (.int k)), (Str.ofString "bound", some (.int ((10 ^ k : Nat) : Int)))], ah⟩, fun k => 1 ≤ k ∧ (k = 1 ∨ 10 ^ (k - 1) ≤ N), fun k => N + 1 - k, 1, ⟨rfl, by simp⟩, fun k hk => ?_⟩
  constructor
  · intro hc
    have hc' : 10 ^ k ≤ N := Int.ofNat_le.mp (of_decide_eq_true hc)
    refine ⟨.inr (by decide), ?_⟩
    have hlt : k < 10 ^ k := Nat.lt_pow_self (by decide)
    refine (i12 (k + 1) ?_ ⟨by lia, .inr (by simpa using hc')⟩ (by dsimp only; exact (Nat.sub_lt_sub_left (Nat.lt_succ_of_le (Nat.le_trans (Nat.le_of_lt hlt) hc')) (Nat.lt_succ_self k))))
    have e : ((10 ^ (k + 1) : Nat) : Int) = ((10 ^ k : Nat) : Int) * 10 := by rw [Nat.pow_succ, Int.natCast_mul]; rfl
    dsimp only
    rw [e]
    rfl
  · intro hc
    have hc' : N < 10 ^ k := Nat.lt_of_not_le fun q => of_decide_eq_false hc (Int.ofNat_le.mpr q)
    refine ⟨?_, rfl⟩
    rw [nd_eq hk.1 hk.2 hc']
theorem log10 {k : Nat} (h : k ≤ 1000) : ((10 : Int) ^ k).natAbs.log2 < 9000 := by
  have e : ((10 : Int) ^ k).natAbs = 10 ^ k := by
    rw [Int.natAbs_pow]; rfl
  rw [e]
  have hp : 10 ^ k ≠ 0 := Nat.ne_of_gt (Nat.pow_pos (by decide))
  refine (Nat.log2_lt hp).mpr ?_
  have h1 : 10 ^ k ≤ 16 ^ k := Nat.pow_le_pow_left (by decide) k
  have h2 : 16 ^ k = 2 ^ (4 * k) := by rw [show 16 = 2 ^ 4 from rfl, ← Nat.pow_mul]
  have h3 : 2 ^ (4 * k) < 2 ^ 9000 := Nat.pow_lt_pow_right (by decide) (by exact (Nat.lt_of_le_of_lt (Nat.mul_le_mul_left 4 h) (by decide)))
  exact (Nat.lt_of_le_of_lt (Nat.le_trans h1 (Nat.le_of_eq h2)) h3)
theorem powSide {k : Int} (h0 : 0 ≤ k) (h : k ≤ 1000) : 0 ≤ k ∧ (Builtin.Int.intBits 10 : Int) * k ≤ 2 ^ 27 := by
  have : (Builtin.Int.intBits 10 : Int) = 4 := by decide
  rw [this]; exact (⟨h0, Int.le_trans (Int.mul_le_mul_of_nonneg_left h (by decide)) (by decide)⟩)
theorem rounded_by_ok (G : Good C ss fns bs fields) {N : Nat} {p : Int} {ah : AH} (hp : p ≤ 1000) : Fn C 20 (adr C.K "rounded_by") [.int N, .int p] ah fun r ah' => r = .int (roundedBy N p) ∧ ah' = ah := by
  refine Fn_W (F := F_rounded_by C.K) (n := 19) rfl G (D_rounded_by G) C_rounded_by rfl rfl fun V => ?_
  refine ⟨fun hc => ?_, fun hc => ?_⟩
  · have hc := of_decide_eq_true hc
    exact ⟨by rw [roundedBy, if_pos hc], rfl⟩
  have hc := of_decide_eq_false hc
  refine FnP.eq (figures_of_ok G) (by decide) ?_
  refine ⟨fun hd => ?_, fun hd => ?_⟩
  · have hd := of_decide_eq_true hd
    refine ⟨?_, rfl⟩
    rw [roundedBy, if_neg hc, if_pos (by exact (hd))]
    rfl
  have hd := of_decide_eq_false hd
  refine ⟨powSide (by lia) hp, ?_⟩
  have hu : (0 : Int) < 10 ^ p.toNat := Int.pow_pos (by decide)
  refine ⟨⟨hu, log10 (by exact (Int.toNat_le.mpr hp))⟩, ?_⟩
  refine ⟨hu, ?_⟩
  refine ⟨.inl (by decide), ?_⟩
  refine ⟨.inl (by decide), ?_⟩
  refine ⟨by decide, ?_⟩
  have e1 : (N : Int) / 10 ^ p.toNat = ((N / 10 ^ p.toNat : Nat) : Int) := by simp
  have e2 : (N : Int) % 10 ^ p.toNat = ((N % 10 ^ p.toNat : Nat) : Int) := by simp
  have e3 : (10 : Int) ^ p.toNat = ((10 ^ p.toNat : Nat) : Int) := by simp
  have fin : roundedBy N p = halfEven N (10 ^ p.toNat) := by rw [roundedBy, if_neg hc, if_neg (by exact (hd))]
  rw [fin]
  rw [e1, e2, e3]
  generalize 10 ^ p.toNat = u
  refine ⟨fun h1 => ?_, fun h1 => ?_⟩ <;> simp only [Bool.or_eq_true, Bool.and_eq_true, Bool.or_eq_false_iff, Bool.and_eq_false_iff, decide_eq_true_eq, decide_eq_false_iff_not] at h1
  · (conv => whnf)
    refine ⟨?_, rfl⟩
    rw [halfEven, if_pos (by exact ((a_half _ _ _).mp h1))]; rfl
  · (conv => whnf)
    refine ⟨?_, rfl⟩
    rw [halfEven, if_neg (by exact (fun z => ((a_half _ _ _).mpr z).elim h1.1 fun w => h1.2.elim (· w.1) (· w.2)))]
theorem padded_figures_ok (G : Good C ss fns bs fields) {N m : Nat} {ah : AH} (hN : N < 10 ^ 1000) (hm : m ≤ 1000) : Fn C 20 (adr C.K "padded_figures") [.int N, .int m] ah fun r ah' => r = .str (padded N m) ∧ ah' = ah := by
  refine Fn_W (F := F_padded_figures C.K) (n := 19) rfl G (D_padded_figures G) C_padded_figures rfl rfl fun V => ?_
  have hz := nz_le hN
  clear hN
  refine ⟨Nat, fun j => ⟨[(Str.ofString "number", some (.int ((N / 10 ^ j : Nat) : Int))), (Str.ofString "many", some (.int m)), (Str.ofString "found", some (.str (low j N)))], ah⟩, fun j => j ≤ max (nz N) m, fun j => max (nz N) m - j, 0, ⟨by simp [low, putAt, loc0], by lia⟩, fun j hj => ?_⟩
  have hj0 := hj
  have hj : j ≤ 1000 := by exact (Nat.le_trans hj (Nat.max_le.mpr ⟨hz, hm⟩))
  refine ⟨by (first | assumption | exact len_small (by assumption) | exact len_small (by simp only [List.length_append, List.length_cons, List.length_nil, low_len]; omega) | omega | (simp only [List.length_append, List.length_cons, List.length_nil, low_len]; omega)), ?_⟩
  (conv => whnf)
  rw [low_len]
  refine ⟨fun h1 => ?_, fun h1 => ?_⟩ <;> simp only [Bool.or_eq_true, Bool.or_eq_false_iff, decide_eq_true_eq, decide_eq_false_iff_not] at h1
  · have hj' : j < max (nz N) m := by
      rcases h1 with h | h
      · have := (nz_pos j N).mp (by exact (Int.natCast_pos.mp h)); exact (Nat.lt_of_lt_of_le this (Nat.le_max_left _ _))
      · exact (Nat.lt_of_lt_of_le (Int.ofNat_lt.mp h) (Nat.le_max_right _ _))
    refine ⟨by decide, ?_⟩
    have hd : ((N / 10 ^ j : Nat) : Int) % 10 = ((N / 10 ^ j % 10 : Nat) : Int) := by exact (rfl)
    (conv => whnf)
    rw [hd]
    have hlt : N / 10 ^ j % 10 < 10 := Nat.mod_lt _ (by decide)
    refine ⟨(i02 (by decide) (by simp only [List.length_cons, List.length_nil]; exact (Int.le_trans (by decide) (Int.natCast_nonneg _))) (by simp only [List.length_cons, List.length_nil]; exact (Int.ofNat_lt.mpr hlt))), ?_⟩
    have hdig : ∀ d : Nat, d < 10 → [48, 49, 50, 51, 52, 53, 54, 55, 56, 57].getD (pyIdx [48, 49, 50, 51, 52, 53, 54, 55, 56, 57].length (d : Int)) 0 = 48 + d := by decide
    rw [hdig _ hlt]
    refine ⟨by (first | assumption | exact len_small (by assumption) | exact len_small (by simp only [List.length_append, List.length_cons, List.length_nil, low_len]; omega) | omega | (simp only [List.length_append, List.length_cons, List.length_nil, low_len]; omega)), ?_⟩
    refine ⟨by decide, ?_⟩
    refine ⟨j + 1, ?_, by dsimp only; exact (hj'), by dsimp only; exact (Nat.sub_lt_sub_left hj' (Nat.lt_succ_self j))⟩
    dsimp only
    have e1 : ((N / 10 ^ j : Nat) : Int) / 10 = ((N / 10 ^ (j + 1) : Nat) : Int) := by rw [Nat.pow_succ, ← Nat.div_div_eq_div_mul]; exact (rfl)
    rw [low_succ, ← e1]
    rfl
  · (conv => whnf)
    have h2 : ¬ j < nz N := fun q => h1.1 (by have := (nz_pos j N).mpr q; exact (Int.natCast_pos.mpr this))
    have : j = max (nz N) m := by exact (Nat.le_antisymm hj0 (Nat.max_le.mpr ⟨Nat.not_lt.mp h2, Nat.le_of_not_lt fun z => h1.2 (Int.ofNat_lt.mpr z)⟩))
    exact ⟨by rw [padded, ← this], rfl⟩
theorem scaled_ok (G : Good C ss fns bs fields) {N : Nat} {e p : Int} {ah : AH} (hN : N < 2 ^ 62) (h1 : e + p ≤ 1000) (h2 : -1000 ≤ e + p) : Fn C 30 (adr C.K "scaled") [.int N, .int e, .int p] ah fun r ah' => r = .int (sc N (e + p)) ∧ ah' = ah := by
  refine Fn_W (F := F_scaled C.K) (n := 29) rfl G (D_scaled G) C_scaled rfl rfl fun V => ?_
  refine ⟨fun hc => ?_, fun hc => ?_⟩
  · have hc := of_decide_eq_true hc
    refine ⟨powSide hc h1, ?_⟩
    refine ⟨.inl (by simpa using hN), ?_⟩
    refine ⟨?_, rfl⟩
    rw [sc, if_pos hc]
    simp
  · have hc := of_decide_eq_false hc
    refine ⟨?_⟩
    have e0 : -e - p = -(e + p) := by lia
    rw [e0]
    refine Fn.mono (rounded_by_ok G (by exact (Int.neg_le_of_neg_le h2))) (by decide) ?_
    rintro _ _ ⟨rfl, rfl⟩
    exact ⟨by rw [sc, if_neg hc], rfl⟩
theorem grp_long {l : List Nat} (h : 3 < l.length) : grp l = grp (l.take (l.length - 3)) ++ 44 :: l.drop (l.length - 3) := by
  conv => lhs; unfold grp
  rw [dif_neg (Nat.not_le.mpr h)]
theorem grp_short {l : List Nat} (h : l.length ≤ 3) : grp l = l := by
  conv => lhs; unfold grp
  rw [dif_pos h]
theorem tail3 (l : List Nat) : pySlice (some (-3)) none l = l.drop (l.length - 3) := pySlice_tail l 3 (by decide)
theorem init3 (l : List Nat) : pySlice none (some (-3)) l = l.take (l.length - 3) := pySlice_init l 3 (by decide)
theorem grouped_ok (G : Good C ss fns bs fields) {l : List Nat} {ah : AH} (hl : l.length ≤ 10000) : Fn C 10 (adr C.K "grouped") [.str l] ah fun r ah' => r = .str (grp l) ∧ ah' = ah := by
  refine Fn_W (F := F_grouped C.K) (n := 9) rfl G (D_grouped G) C_grouped rfl rfl fun V => ?_
  have ld : ∀ u : List Nat, (u.drop (u.length - 3)).length ≤ 3 := fun u => by rw [List.length_drop]; omega
  refine ⟨by (first | assumption | exact len_small (by assumption) | exact len_small (by simp only [List.length_append, List.length_cons, List.length_nil, low_len]; omega) | omega | (simp only [List.length_append, List.length_cons, List.length_nil, low_len]; omega)), ?_⟩
  rw [tail3]
  refine ⟨List Nat × List Nat, fun q => ⟨[(Str.ofString "figures", some (.str q.1)), (Str.ofString "found", some (.str q.2))], ah⟩,
    fun q => q.1.length ≤ 10000 ∧ 2 * q.1.length + q.2.length ≤ 20003 ∧ (if q.1.length ≤ 3 then q.2 else grp (q.1.take (q.1.length - 3)) ++ 44 :: q.2) = grp l, fun q => q.1.length, (l, l.drop (l.length - 3)), (i03 rfl hl ?_ ?_), fun q hq => ?_⟩
  · have := ld l
    exact Nat.add_le_add (Nat.mul_le_mul_left 2 hl) this
  · dsimp only
    by_cases h : l.length ≤ 3
    · rw [if_pos h, grp_short h, Nat.sub_eq_zero_of_le h]; rfl
    · rw [if_neg h, grp_long (Nat.not_le.mp h)]
  obtain ⟨f, g⟩ := q
  refine x02 hq fun h1 h2 h3 => ?_
  dsimp only at h1 h2 h3
  refine ⟨by (first | assumption | exact len_small (by assumption) | exact len_small (by simp only [List.length_append, List.length_cons, List.length_nil, low_len]; omega) | omega | (simp only [List.length_append, List.length_cons, List.length_nil, low_len]; omega)), ?_⟩
  refine ⟨fun hc => ?_, fun hc => ?_⟩
  · have hc : 3 < f.length := Int.ofNat_lt.mp (of_decide_eq_true hc)
    rw [if_neg (Nat.not_le.mpr hc)] at h3
    have hu : (f.take (f.length - 3)).length = f.length - 3 := List.length_take_of_le (Nat.sub_le _ _)
    generalize hg : f.take (f.length - 3) = u at hu h3
    have hu : u.length + 3 = f.length := by rw [hu]; exact Nat.sub_add_cancel (Nat.le_of_lt hc)
    have hw := ld u
    refine ⟨by (first | assumption | exact len_small (by assumption) | exact len_small (by simp only [List.length_append, List.length_cons, List.length_nil, low_len]; omega) | omega | (simp only [List.length_append, List.length_cons, List.length_nil, low_len]; omega)), ?_⟩
    rw [init3, hg]
    refine ⟨by unfold Small; omega, ?_⟩
    rw [tail3]
    have hn : (if u.length ≤ 3 then u.drop (u.length - 3) ++ [44] ++ g else grp (u.take (u.length - 3)) ++ 44 :: (u.drop (u.length - 3) ++ [44] ++ g)) = grp l := by
      rw [← h3]
      by_cases h : u.length ≤ 3
      · rw [if_pos h, grp_short h, Nat.sub_eq_zero_of_le h, List.append_assoc]; rfl
      · rw [if_neg h, grp_long (Nat.not_le.mp h)]; simp
    generalize u.drop (u.length - 3) = w at hw hn
    refine ⟨by simp only [List.length_cons, List.length_nil]; omega, ?_⟩
    refine ⟨by simp only [List.length_append, List.length_cons, List.length_nil]; omega, ?_⟩
    refine (i12 (u, w ++ [44] ++ g) rfl (i02 ?_ ?_ hn) ?_) <;> dsimp only
    · omega
    · simp only [List.length_append, List.length_cons, List.length_nil]; omega
    · omega
  · have hc : f.length ≤ 3 := Nat.not_lt.mp fun q => of_decide_eq_false hc (Int.ofNat_lt.mpr q)
    rw [if_pos hc] at h3
    (conv => whnf)
    rw [h3]
    exact ⟨rfl, rfl⟩
theorem split_figures_ok (G : Good C ss fns bs fields) {N p : Nat} {ah : AH} (hN : N < 10 ^ 1000) (hp : p ≤ 900) : Fn C 30 (adr C.K "split_figures") [.int N, .int p] ah fun r ah' =>
    r = .tuple [.str ((padded N (p + 1)).take ((padded N (p + 1)).length - p)), .str ((padded N (p + 1)).drop ((padded N (p + 1)).length - p))] ∧ ah' = ah := by
  refine Fn_W (F := F_split_figures C.K) (n := 29) rfl G (D_split_figures G) C_split_figures rfl rfl fun V => ?_
  have hz := nz_le hN
  have hlen : (padded N (p + 1)).length ≤ 1000 ∧ p < (padded N (p + 1)).length := by rw [padded, low_len]; exact (⟨Nat.max_le.mpr ⟨hz, Nat.le_trans (Nat.succ_le_succ hp) (by decide)⟩, Nat.lt_of_lt_of_le (Nat.lt_succ_self p) (Nat.le_max_right _ _)⟩)
  refine ⟨?_⟩
  refine Fn.mono (padded_figures_ok G hN (m := p + 1) (by exact (Nat.le_trans (Nat.succ_le_succ hp) (by decide)))) (by decide) ?_
  clear hN
  rintro _ _ ⟨rfl, rfl⟩
  generalize padded N (p + 1) = l at hlen
  refine ⟨by (first | assumption | exact len_small (by assumption) | exact len_small (by simp only [List.length_append, List.length_cons, List.length_nil, low_len]; omega) | omega | (simp only [List.length_append, List.length_cons, List.length_nil, low_len]; omega)), ?_⟩
  refine ⟨by (first | assumption | exact len_small (by assumption) | exact len_small (by simp only [List.length_append, List.length_cons, List.length_nil, low_len]; omega) | omega | (simp only [List.length_append, List.length_cons, List.length_nil, low_len]; omega)), ?_⟩
  have e : (l.length : Int) - p = ((l.length - p : Nat) : Int) := by exact ((Int.ofNat_sub (Nat.le_of_lt hlen.2)).symm)
  rw [e, pySlice_to]
  refine ⟨by (first | assumption | exact len_small (by assumption) | exact len_small (by simp only [List.length_append, List.length_cons, List.length_nil, low_len]; omega) | omega | (simp only [List.length_append, List.length_cons, List.length_nil, low_len]; omega)), ?_⟩
  refine ⟨by (first | assumption | exact len_small (by assumption) | exact len_small (by simp only [List.length_append, List.length_cons, List.length_nil, low_len]; omega) | omega | (simp only [List.length_append, List.length_cons, List.length_nil, low_len]; omega)), ?_⟩
  rw [e, pySlice_from]
  exact ⟨rfl, rfl⟩

/-! ### a picture, as the defs see it -/
structure Pic where
  left : Nat
  right : Nat
  point : Bool
  star : Bool
  dollar : Bool
  comma : Bool
  power : Bool
  sign : List Nat
noncomputable abbrev picF (P : Pic) : List (Str × PV) := [(Str.ofString "left", .int P.left), (Str.ofString "right", .int P.right), (Str.ofString "has_point", .bool P.point), (Str.ofString "has_star", .bool P.star), (Str.ofString "has_dollar", .bool P.dollar),
  (Str.ofString "has_comma", .bool P.comma), (Str.ofString "has_exponent", .bool P.power), (Str.ofString "sign", .str P.sign)]
noncomputable abbrev picO (C : Cx) (P : Pic) : AObj := .inst (adr C.K "Picture") (picF P)
theorem f_left (G : Good C ss fns bs fields) {ah : AH} {a : Addr} {P : Pic} (h : (a, picO C P) ∈ ah) : FieldIs C ah "left" (.ref a) (.int P.left) := .mk h (by simp) (G.field (mem_of (by kernel_rfl)))
theorem f_right (G : Good C ss fns bs fields) {ah : AH} {a : Addr} {P : Pic} (h : (a, picO C P) ∈ ah) : FieldIs C ah "right" (.ref a) (.int P.right) := .mk h (by simp) (G.field (mem_of (by kernel_rfl)))
theorem f_point (G : Good C ss fns bs fields) {ah : AH} {a : Addr} {P : Pic} (h : (a, picO C P) ∈ ah) : FieldIs C ah "has_point" (.ref a) (.bool P.point) := .mk h (by simp) (G.field (mem_of (by kernel_rfl)))
theorem f_star (G : Good C ss fns bs fields) {ah : AH} {a : Addr} {P : Pic} (h : (a, picO C P) ∈ ah) : FieldIs C ah "has_star" (.ref a) (.bool P.star) := .mk h (by simp) (G.field (mem_of (by kernel_rfl)))
theorem f_dollar (G : Good C ss fns bs fields) {ah : AH} {a : Addr} {P : Pic} (h : (a, picO C P) ∈ ah) : FieldIs C ah "has_dollar" (.ref a) (.bool P.dollar) := .mk h (by simp) (G.field (mem_of (by kernel_rfl)))
theorem f_comma (G : Good C ss fns bs fields) {ah : AH} {a : Addr} {P : Pic} (h : (a, picO C P) ∈ ah) : FieldIs C ah "has_comma" (.ref a) (.bool P.comma) := .mk h (by simp) (G.field (mem_of (by kernel_rfl)))
theorem f_power (G : Good C ss fns bs fields) {ah : AH} {a : Addr} {P : Pic} (h : (a, picO C P) ∈ ah) : FieldIs C ah "has_exponent" (.ref a) (.bool P.power) := .mk h (by simp) (G.field (mem_of (by kernel_rfl)))
theorem f_sign (G : Good C ss fns bs fields) {ah : AH} {a : Addr} {P : Pic} (h : (a, picO C P) ∈ ah) : FieldIs C ah "sign" (.ref a) (.str P.sign) := .mk h (by simp) (G.field (mem_of (by kernel_rfl)))
noncomputable def leadOf (P : Pic) (neg : Bool) : List Nat := if P.sign = [43, 97, 104, 101, 97, 100] then (if neg then [45] else [43]) else if P.sign = [] ∧ neg = true then [45] else []
noncomputable def tailOf (P : Pic) (neg : Bool) : List Nat := if P.sign = [43, 98, 101, 104, 105, 110, 100] then (if neg then [45] else [43]) else if P.sign = [45, 98, 101, 104, 105, 110, 100] then (if neg then [45] else [32]) else []
theorem lead_of_ok (G : Good C ss fns bs fields) {P : Pic} {a : Addr} {neg : Bool} {ah : AH} (hP : (a, picO C P) ∈ ah) : Fn C 10 (adr C.K "lead_of") [.ref a, .bool neg] ah fun r ah' => r = .str (leadOf P neg) ∧ ah' = ah := by
  refine Fn_W (F := F_lead_of C.K) (n := 9) rfl G (D_lead_of G) C_lead_of rfl rfl fun V => ?_
  refine ⟨_, f_sign G hP, ?_⟩
  refine ⟨fun hc => ?_, fun hc => ?_⟩
  · have hc := of_decide_eq_true hc
    exact ⟨by rw [leadOf, if_pos hc], rfl⟩
  · have hc := of_decide_eq_false hc
    refine ⟨_, f_sign G hP, ?_⟩
    refine ⟨?_, rfl⟩
    rw [leadOf, if_neg hc]
    simp [Bool.and_eq_true, decide_eq_true_eq]
theorem tail_of_ok (G : Good C ss fns bs fields) {P : Pic} {a : Addr} {neg : Bool} {ah : AH} (hP : (a, picO C P) ∈ ah) : Fn C 10 (adr C.K "tail_of") [.ref a, .bool neg] ah fun r ah' => r = .str (tailOf P neg) ∧ ah' = ah := by
  refine Fn_W (F := F_tail_of C.K) (n := 9) rfl G (D_tail_of G) C_tail_of rfl rfl fun V => ?_
  refine ⟨_, f_sign G hP, ?_⟩
  refine ⟨fun hc => ?_, fun hc => ?_⟩
  · (conv => whnf)
    refine ⟨_, f_sign G hP, ?_⟩
    refine ⟨?_, rfl⟩
    have hc : P.sign = [43, 98, 101, 104, 105, 110, 100] ∨ P.sign = [45, 98, 101, 104, 105, 110, 100] := by
      simpa using hc
    rcases hc with h | h <;> simp [tailOf, h]
  · (conv => whnf)
    refine ⟨?_, rfl⟩
    have hc : ¬ P.sign = [43, 98, 101, 104, 105, 110, 100] ∧ ¬ P.sign = [45, 98, 101, 104, 105, 110, 100] := by
      simpa using hc
    simp [tailOf, hc]
noncomputable def exPl (P : Pic) : Nat := P.left - (if P.sign = [] then 1 else 0)
noncomputable def liftOf (P : Pic) (N : Nat) (e : Int) : Int :=
  if 10 ^ (exPl P + P.right) ≤ sc N (e - (e + nd N - exPl P) + P.right) then e + nd N - exPl P + 1 else e + nd N - exPl P
noncomputable def expFig (P : Pic) (N : Nat) (e : Int) : List Nat := padded (sc N (e - liftOf P N e + P.right)) (exPl P + P.right)
noncomputable def expTold (l : Int) : List Nat := 69 :: (if l < 0 then 45 else 43) :: padded l.natAbs 2
noncomputable def withExp (P : Pic) (N : Nat) (e : Int) : List Nat × List Nat × List Nat :=
  if N = 0 then (List.replicate (exPl P) 48, List.replicate P.right 48, [69, 43, 48, 48])
  else ((expFig P N e).take (exPl P), (expFig P N e).drop (exPl P), expTold (liftOf P N e))
theorem sc_lt {N : Nat} {k : Int} (hN : N < 2 ^ 62) (hk : k ≤ 900) : sc N k < 10 ^ 1000 := by
  have h1 : (2 : Nat) ^ 62 ≤ 10 ^ 19 := by decide
  unfold sc
  split
  · have h2 : 10 ^ k.toNat ≤ 10 ^ 900 := Nat.pow_le_pow_right (by decide) (by exact (Int.toNat_le.mpr hk))
    have h3 : N * 10 ^ k.toNat < 10 ^ 19 * 10 ^ 900 := Nat.lt_of_lt_of_le (Nat.mul_lt_mul_of_pos_right (by exact (Nat.lt_of_lt_of_le hN h1)) (Nat.pow_pos (by decide))) (Nat.mul_le_mul_left _ h2)
    have h4 : 10 ^ 19 * 10 ^ 900 ≤ 10 ^ 1000 := by rw [← Nat.pow_add]; exact Nat.pow_le_pow_right (by decide) (by lia)
    exact (Nat.lt_of_lt_of_le h3 h4)
  · have := roundedBy_le N (-k)
    have h5 : 10 ^ 20 ≤ 10 ^ 1000 := Nat.pow_le_pow_right (by decide) (by lia)
    have h6 : (10 : Nat) ^ 19 + 1 ≤ 10 ^ 20 := by decide
    exact (Nat.lt_of_le_of_lt this (Nat.lt_of_lt_of_le (Nat.succ_lt_succ (Nat.lt_of_lt_of_le hN h1)) (Nat.le_trans h6 h5)))
theorem pyMul_one (c : Nat) (k : Int) : pyMul [c] k = List.replicate k.toNat c := by
  unfold pyMul
  generalize k.toNat = n
  induction n with
  | zero => rfl
  | succ n ih => simp [List.replicate_succ] at ih ⊢; try exact ih
theorem liftOf_bd {P : Pic} {N : Nat} {e : Int} (h1 : e ≤ 100) (h2 : -100 ≤ e) (hpl : exPl P ≤ 100) (hnd : nd N ≤ 20) (hr : P.right ≤ 100) : (-300 ≤ liftOf P N e ∧ liftOf P N e ≤ 300) ∧ e - liftOf P N e + P.right ≤ 900 := by
  unfold liftOf
  generalize exPl P = x at *
  generalize nd N = n at *
  generalize P.right = r at *
  split <;> lia
/-- a picture of the common size -/
structure PicOk (P : Pic) : Prop where
  l : P.left ≤ 100
  r : P.right ≤ 100
  s : P.sign.length ≤ 10
theorem with_exponent_ok (G : Good C ss fns bs fields) {P : Pic} {a : Addr} {N : Nat} {e : Int} {ah : AH} (hP : (a, picO C P) ∈ ah) (ok : PicOk P) (hN : N < 2 ^ 62) (h1 : e ≤ 100) (h2 : -100 ≤ e) :
    Fn C 50 (adr C.K "with_exponent") [.ref a, .int N, .int e] ah fun r ah' => r = .tuple [.str (withExp P N e).1, .str (withExp P N e).2.1, .str (withExp P N e).2.2] ∧ ah' = ah := by
  refine Fn_W (F := F_with_exponent C.K) (n := 49) rfl G (D_with_exponent G) C_with_exponent rfl rfl fun V => ?_
  obtain ⟨okl, okr, -⟩ := ok
  refine ⟨_, f_left G hP, ?_⟩
  refine ⟨_, f_sign G hP, ?_⟩
  refine ⟨_, f_right G hP, ?_⟩
  have ep : max ((P.left : Int) - if decide (P.sign = []) = true then 1 else 0) 0 = ((exPl P : Nat) : Int) := by
    unfold exPl; by_cases h : P.sign = []
    · rw [if_pos (decide_eq_true h), if_pos h]; exact a_max0 _ 1
    · rw [if_neg (by simp [h]), if_neg h]; exact a_max0 _ 0
  have hpl : exPl P ≤ 100 := Nat.le_trans (Nat.sub_le _ _) okl
  rw [ep]
  refine ⟨fun hc => ?_, fun hc => ?_⟩
  · have hc := of_decide_eq_true hc
    refine ⟨fill_nat (Nat.le_trans hpl (by decide)), ?_⟩
    refine ⟨_, f_right G hP, ?_⟩
    refine ⟨fill_nat (Nat.le_trans okr (by decide)), ?_⟩
    refine ⟨?_, rfl⟩
    rw [pyMul_one, pyMul_one, withExp, if_pos (by lia)]
    rfl
  have hc : ¬ N = 0 := fun q => of_decide_eq_false hc (by lia)
  have hnd : nd N ≤ 20 := nd_le (by decide) (Nat.lt_trans hN (by decide))
  have tl : withExp P N e = ((expFig P N e).take (exPl P), (expFig P N e).drop (exPl P), expTold (liftOf P N e)) := by rw [withExp, if_neg hc]
  have fin : ∀ (l : Int) (u : Nat), l = liftOf P N e → u = sc N (e - liftOf P N e + P.right) →
      Ws V 49 B_with_exponent_6 ((prt 16).body.drop 6) ⟨[(Str.ofString "picture", some (.ref a)), (Str.ofString "size", some (.int N)), (Str.ofString "exponent", some (.int e)), (Str.ofString "places", some (.int (exPl P))), (Str.ofString "many", some (.int ((exPl P + P.right : Nat) : Int))), (Str.ofString "lift", some (.int l)), (Str.ofString "units", some (.int u)), (Str.ofString "figures", none), (Str.ofString "told", none)], ah⟩ (fun z0 => False) (fun r st => r = .tuple [.str (withExp P N e).1, .str (withExp P N e).2.1, .str (withExp P N e).2.2] ∧ st.ah = ah) (fun z0 => False) := by
    intro l u hl hu
    have hu1 : u < 10 ^ 1000 := by
      rw [hu]; exact sc_lt hN (liftOf_bd h1 h2 hpl hnd okr).2
    have hl1 : l.natAbs ≤ 300 := by
      rw [hl]; exact a_abs (liftOf_bd h1 h2 hpl hnd okr).1
    clear ep
    refine FnP.eq (padded_figures_ok G hu1 (m := exPl P + P.right) (by exact (a_2k hpl okr (by decide)))) (by decide) ?_
    have ea := a_ab l
    refine ⟨by split <;> simp, ?_⟩
    (conv => whnf)
    rw [ea]
    have hl2 : l.natAbs < 10 ^ 3 := by exact (Nat.lt_of_le_of_lt hl1 (by decide))
    refine FnP.eq (padded_figures_ok G (N := l.natAbs) (m := 2) (Nat.lt_of_lt_of_le hl2 (Nat.pow_le_pow_right (by decide) (by decide))) (by decide)) (by decide) ?_
    have hz := nz_le hl2
    have hlen : (padded u (exPl P + P.right)).length ≤ 1000 := by
      have := nz_le hu1
      rw [padded, low_len]; exact (Nat.max_le.mpr ⟨this, a_2k hpl okr (by decide)⟩)
    have ht : (padded l.natAbs 2).length ≤ 3 := by rw [padded, low_len]; exact (Nat.max_le.mpr ⟨hz, by decide⟩)
    clear hu1
    refine ⟨by split <;> simp only [List.length_append, List.length_cons, List.length_nil] <;> lia, ?_⟩
    refine ⟨by (first | assumption | exact len_small (by assumption) | exact len_small (by simp only [List.length_append, List.length_cons, List.length_nil, low_len]; omega) | omega | (simp only [List.length_append, List.length_cons, List.length_nil, low_len]; omega)), ?_⟩
    refine ⟨by (first | assumption | exact len_small (by assumption) | exact len_small (by simp only [List.length_append, List.length_cons, List.length_nil, low_len]; omega) | omega | (simp only [List.length_append, List.length_cons, List.length_nil, low_len]; omega)), ?_⟩
    refine ⟨?_, rfl⟩
    rw [pySlice_to, pySlice_from, tl]
    simp only [expFig, expTold]
    rw [← hl] at hu ⊢
    rw [← hu]
    by_cases h0 : l < 0 <;> simp [h0]
  refine FnP.eq (figures_of_ok G) (by decide) ?_
  refine ⟨_, f_right G hP, ?_⟩
  refine FnP.eq (scaled_ok G hN (by exact ((a_sc hnd hpl okr).1.1)) (by exact ((a_sc hnd hpl okr).1.2))) (by decide) ?_
  refine ⟨powSide (by exact (Int.natCast_nonneg (exPl P + P.right))) (by exact (Int.ofNat_le.mpr (a_2k hpl okr (by decide)))), ?_⟩
  have e1 : ((exPl P : Nat) : Int) + (P.right : Int) = ((exPl P + P.right : Nat) : Int) := by exact (rfl)
  rw [e1]
  have e2 : ((10 : Int) ^ ((exPl P + P.right : Nat) : Int).toNat) = ((10 ^ (exPl P + P.right) : Nat) : Int) := by rw [Int.toNat_natCast, Int.natCast_pow]; rfl
  rw [e2]
  refine ⟨fun hd => ?_, fun hd => ?_⟩
  · have hd : 10 ^ (exPl P + P.right) ≤ sc N (e - (e + nd N - exPl P) + P.right) := Int.ofNat_le.mp (of_decide_eq_true hd)
    have hl : e + nd N - exPl P + 1 = liftOf P N e := by rw [liftOf, if_pos hd]
    refine ⟨_, f_right G hP, ?_⟩
    refine FnP.eq (scaled_ok G hN (by exact ((a_sc hnd hpl okr).2.1)) (by exact ((a_sc hnd hpl okr).2.2))) (by decide) ?_
    refine fin _ _ hl ?_
    rw [← hl]
  · have hd : ¬ 10 ^ (exPl P + P.right) ≤ sc N (e - (e + nd N - exPl P) + P.right) := fun q => of_decide_eq_false hd (Int.ofNat_le.mpr q)
    have hl : e + nd N - exPl P = liftOf P N e := by rw [liftOf, if_neg hd]
    refine fin _ _ hl ?_
    rw [← hl]
theorem grp_len : ∀ (n : Nat) (l : List Nat), l.length ≤ n → (grp l).length ≤ 2 * l.length
  | 0, l, h => by unfold grp; rw [dif_pos (by exact (Nat.le_trans h (by decide)))]; lia
  | n + 1, l, h => by
    unfold grp
    split
    · exact Nat.le_mul_of_pos_left _ (by decide)
    · have := grp_len n (l.take (l.length - 3)) (Nat.le_trans (by rw [List.length_take]; exact Nat.min_le_left _ _) (Nat.sub_le_of_le_add (Nat.le_trans h (Nat.add_le_add_left (by decide) n))))
      simp only [List.length_append, List.length_cons, List.length_drop, List.length_take] at this ⊢
      exact a_grp (by assumption) this
noncomputable def widthOf (P : Pic) : Nat := P.left + (if P.sign = [43, 97, 104, 101, 97, 100] then 1 else 0)
theorem width_le {P : Pic} (h : P.left ≤ 100) : widthOf P ≤ 101 := by
  unfold widthOf
  split
  · exact Nat.succ_le_succ h
  · exact Nat.le_succ_of_le h
noncomputable def grpA (P : Pic) (A : List Nat) : List Nat := if P.comma && !P.power then grp A else A
noncomputable def leadD (P : Pic) (neg : Bool) : List Nat := leadOf P neg ++ (if P.dollar then [36] else [])
noncomputable def cutA (P : Pic) (neg : Bool) (A B : List Nat) : List Nat := if (leadD P neg ++ A).length > widthOf P ∧ A = [48] ∧ ¬ B = [] then [] else A
noncomputable def roomOf (P : Pic) (neg : Bool) (A : List Nat) : Int := widthOf P - ((leadD P neg ++ A).length : Int)
noncomputable def wholeOf (P : Pic) (neg : Bool) (A B T : List Nat) : List Nat :=
  List.replicate (roomOf P neg A).toNat (if P.star then 42 else 32) ++ leadD P neg ++ A ++ (if P.point then [46] else []) ++ B ++ T ++ tailOf P neg
noncomputable def numOf' (P : Pic) (neg : Bool) (A B T : List Nat) : List Nat := if roomOf P neg A < 0 then 37 :: wholeOf P neg A B T else wholeOf P neg A B T
noncomputable def numOf (P : Pic) (neg : Bool) (A B T : List Nat) : List Nat := numOf' P neg (cutA P neg (grpA P A) B) B T
noncomputable def partsOf (P : Pic) (N : Nat) (e : Int) : List Nat × List Nat × List Nat :=
  if P.power then withExp P N e else ((padded (sc N (e + P.right)) (P.right + 1)).take ((padded (sc N (e + P.right)) (P.right + 1)).length - P.right),
    (padded (sc N (e + P.right)) (P.right + 1)).drop ((padded (sc N (e + P.right)) (P.right + 1)).length - P.right), [])
noncomputable def numBy (P : Pic) (c e : Int) : List Nat := numOf P (decide (c < 0)) (partsOf P c.natAbs e).1 (partsOf P c.natAbs e).2.1 (partsOf P c.natAbs e).2.2
theorem leadOf_len (P : Pic) (neg : Bool) : (leadOf P neg).length ≤ 1 := by unfold leadOf; (repeat' split) <;> simp
theorem tailOf_len (P : Pic) (neg : Bool) : (tailOf P neg).length ≤ 1 := by unfold tailOf; (repeat' split) <;> simp
theorem padded_len {u m : Nat} (hu : u < 10 ^ 1000) (hm : m ≤ 1000) : (padded u m).length ≤ 1000 := by
  have := nz_le hu
  rw [padded, low_len]; exact (Nat.max_le.mpr ⟨this, hm⟩)
theorem nd20 {N : Nat} (hN : N < 2 ^ 62) : nd N ≤ 20 := nd_le (by decide) (Nat.lt_trans hN (by decide))
theorem partsOf_len {P : Pic} {N : Nat} {e : Int} (ok : PicOk P) (hN : N < 2 ^ 62) (h1 : e ≤ 100) (h2 : -100 ≤ e) : (partsOf P N e).1.length ≤ 1000 ∧ (partsOf P N e).2.1.length ≤ 1000 ∧ (partsOf P N e).2.2.length ≤ 1010 := by
  obtain ⟨l, r, s⟩ := ok
  have hpl : exPl P ≤ 100 := Nat.le_trans (Nat.sub_le _ _) l
  have hnd := nd20 hN
  have hb := liftOf_bd h1 h2 hpl hnd r
  have hl : (liftOf P N e).natAbs ≤ 300 ∧ -300 ≤ liftOf P N e := ⟨a_abs hb.1, hb.1.1⟩
  unfold partsOf
  split
  · unfold withExp
    split
    · simp only [List.length_replicate, List.length_cons, List.length_nil]; exact (⟨Nat.le_trans hpl (by decide), Nat.le_trans r (by decide), by decide⟩)
    · have p1 : (expFig P N e).length ≤ 1000 := padded_len (sc_lt hN hb.2) (by exact (a_2k hpl r (by decide)))
      have p2 : (padded (liftOf P N e).natAbs 2).length ≤ 1000 := padded_len (Nat.lt_of_lt_of_le (show (liftOf P N e).natAbs < 10 ^ 3 by exact (Nat.lt_of_le_of_lt hl.1 (by decide))) (Nat.pow_le_pow_right (by decide) (by decide))) (by lia)
      simp only [List.length_take, List.length_drop, expTold, List.length_cons]; exact (⟨Nat.le_trans (Nat.min_le_left _ _) (Nat.le_trans hpl (by decide)), Nat.le_trans (Nat.sub_le _ _) p1, Nat.le_trans (Nat.succ_le_succ (Nat.succ_le_succ p2)) (by decide)⟩)
  · have p1 : (padded (sc N (e + P.right)) (P.right + 1)).length ≤ 1000 := padded_len (sc_lt hN (by exact (a_er h1 r (by decide)))) (by exact (Nat.le_trans (Nat.succ_le_succ r) (by decide)))
    simp only [List.length_take, List.length_drop, List.length_nil]; exact (⟨Nat.le_trans (Nat.min_le_right _ _) p1, Nat.le_trans (Nat.sub_le _ _) p1, by decide⟩)
theorem ite_str {c : Bool} {a b : List Nat} {k : Nat} (h1 : a.length ≤ k) (h2 : b.length ≤ k) : (if c then a else b).length ≤ k := by split <;> assumption
section
set_option hygiene false in
theorem number_by_3 (G : Good C ss fns bs fields) {V : Act C (F_number_by C.K)} {P : Pic} {a : Addr} {ah : AH} (hP : (a, picO C P) ∈ ah) (ok : PicOk P) {val co ex sz : PV} {neg : Bool} {A B T : List Nat} (hA : A.length ≤ 1000) (hB : B.length ≤ 1000) (hT : T.length ≤ 1010) :
    Ws V 59 B_number_by_3 ((prt 19).body.drop 3) ⟨[(Str.ofString "picture", some (.ref a)), (Str.ofString "value", some val), (Str.ofString "coefficient", some co), (Str.ofString "exponent", some ex), (Str.ofString "size", some sz), (Str.ofString "is_below", some (.bool neg)), (Str.ofString "told", some (.str T)), (Str.ofString "ahead", some (.str A)), (Str.ofString "behind", some (.str B)),
      (Str.ofString "lead", none), (Str.ofString "width", none), (Str.ofString "room", none), (Str.ofString "filled", none), (Str.ofString "whole", none)], ah⟩ (fun z0 => False) (fun r st => r = .str (numOf P neg A B T) ∧ st.ah = ah) (fun z0 => False) := by
  have hl1 := leadOf_len P neg
  have ht1 := tailOf_len P neg
  obtain ⟨okl, okr, oks⟩ := ok
  have hw := width_le okl
  have fin7 : ∀ (A : List Nat), A.length ≤ 2000 → Ws V 59 B_number_by_7 ((prt 19).body.drop 7) ⟨[(Str.ofString "picture", some (.ref a)), (Str.ofString "value", some val), (Str.ofString "coefficient", some co), (Str.ofString "exponent", some ex), (Str.ofString "size", some sz), (Str.ofString "is_below", some (.bool neg)), (Str.ofString "told", some (.str T)), (Str.ofString "ahead", some (.str A)), (Str.ofString "behind", some (.str B)),
      (Str.ofString "lead", some (.str (leadD P neg))), (Str.ofString "width", some (.int (widthOf P))), (Str.ofString "room", none), (Str.ofString "filled", none), (Str.ofString "whole", none)], ah⟩ (fun z0 => False) (fun r st => r = .str (numOf' P neg A B T) ∧ st.ah = ah) (fun z0 => False) := by
    intro A hA
    have hld : (leadD P neg).length ≤ 2 := le_app hl1 (ite_str (c := P.dollar) (a := [36]) (b := []) (k := 1) (by decide) (by decide))
    refine ⟨add_small hld hA rfl, ?_⟩
    refine ⟨to_small (le_app hld hA) rfl, ?_⟩
    refine ⟨_, f_star G hP, ?_⟩
    have er : (widthOf P : Int) - ((leadD P neg ++ A).length : Int) = roomOf P neg A := rfl
    (conv => whnf)
    rw [er]
    have hr1 : -3000 ≤ roomOf P neg A ∧ roomOf P neg A ≤ 101 := by unfold roomOf; rw [List.length_append]; exact a_room hw hld hA
    have es : (if P.star = true then [42] else [32]) = [if P.star then 42 else 32] := by split <;> rfl
    rw [es]
    refine ⟨fill_ok hr1.1 (Int.le_trans hr1.2 (by decide)), ?_⟩
    rw [pyMul_one]
    have hrp : (List.replicate (roomOf P neg A).toNat (if P.star then 42 else 32 : Nat)).length ≤ 101 := by rw [List.length_replicate]; exact (Int.toNat_le.mpr hr1.2)
    clear es
    generalize hrd : List.replicate (roomOf P neg A).toNat (if P.star then 42 else 32 : Nat) = rp at hrp
    have l1 := le_app hrp hld
    have l2 := le_app l1 hA
    have l3 := le_app l2 (ite_str (c := P.point) (a := [46]) (b := []) (k := 1) (by decide) (by decide))
    have l4 := le_app l3 hB
    have l5 := le_app l4 hT
    have l6 := le_app l5 ht1
    refine ⟨add_small hrp hld rfl, ?_⟩
    refine ⟨add_small l1 hA rfl, ?_⟩
    refine ⟨_, f_point G hP, ?_⟩
    have hpt := ite_str (c := P.point) (a := [46]) (b := []) (k := 1) (by decide) (by decide)
    refine ⟨add_small l2 hpt rfl, ?_⟩
    refine ⟨add_small l3 hB rfl, ?_⟩
    refine ⟨add_small l4 hT rfl, ?_⟩
    refine FnP.eq (tail_of_ok G hP) (by decide) ?_
    refine ⟨add_small l5 ht1 rfl, ?_⟩
    have fw : rp ++ leadD P neg ++ A ++ (if P.point = true then [46] else []) ++ B ++ T ++ tailOf P neg = wholeOf P neg A B T := by rw [wholeOf, hrd]
    refine ⟨fun hc => ?_, fun hc => ?_⟩
    · have hc := of_decide_eq_true hc
      refine ⟨add_small (Nat.le_refl 1) l6 rfl, ?_⟩
      refine ⟨?_, rfl⟩
      rw [numOf', if_pos hc, ← fw]; rfl
    · have hc := of_decide_eq_false hc
      refine ⟨?_, rfl⟩
      rw [numOf', if_neg hc, ← fw]
  have fin4 : ∀ (A : List Nat), A.length ≤ 2000 → Ws V 59 B_number_by_4 ((prt 19).body.drop 4) ⟨[(Str.ofString "picture", some (.ref a)), (Str.ofString "value", some val), (Str.ofString "coefficient", some co), (Str.ofString "exponent", some ex), (Str.ofString "size", some sz), (Str.ofString "is_below", some (.bool neg)), (Str.ofString "told", some (.str T)), (Str.ofString "ahead", some (.str A)), (Str.ofString "behind", some (.str B)),
      (Str.ofString "lead", none), (Str.ofString "width", none), (Str.ofString "room", none), (Str.ofString "filled", none), (Str.ofString "whole", none)], ah⟩ (fun z0 => False) (fun r st => r = .str (numOf' P neg (cutA P neg A B) B T) ∧ st.ah = ah) (fun z0 => False) := by
    intro A hA
    refine FnP.eq (lead_of_ok G hP) (by decide) ?_
    refine ⟨_, f_dollar G hP, ?_⟩
    have hdl := ite_str (c := P.dollar) (a := [36]) (b := []) (k := 1) (by decide) (by decide)
    refine ⟨add_small hl1 hdl rfl, ?_⟩
    refine ⟨_, f_left G hP, ?_⟩
    refine ⟨_, f_sign G hP, ?_⟩
    have ew : ((P.left : Int) + if decide (P.sign = [43, 97, 104, 101, 97, 100]) = true then 1 else 0) = ((widthOf P : Nat) : Int) := by
      unfold widthOf; by_cases h : P.sign = [43, 97, 104, 101, 97, 100] <;> simp [h]
    (conv => whnf)
    rw [ew]
    have el : leadOf P neg ++ (if P.dollar = true then [36] else []) = leadD P neg := rfl
    rw [el]
    have hld : (leadD P neg).length ≤ 2 := le_app hl1 hdl
    refine ⟨add_small hld hA rfl, ?_⟩
    refine ⟨to_small (le_app hld hA) rfl, ?_⟩
    refine ⟨fun hc => ?_, fun hc => ?_⟩ <;> simp only [Bool.and_eq_true, Bool.and_eq_false_iff, decide_eq_true_eq, decide_eq_false_iff_not, Bool.not_eq_true', Bool.not_eq_false', Int.ofNat_lt] at hc
    · have e : cutA P neg A B = [] := by rw [cutA, if_pos hc]
      rw [e]
      exact fin7 [] (by simp)
    · have e : cutA P neg A B = A := by
        rw [cutA, if_neg]
        intro q
        rcases hc with h | h | h
        · exact h q.1
        · exact h q.2.1
        · exact q.2.2 h
      rw [e]
      exact fin7 A hA
  refine ⟨_, f_comma G hP, ?_⟩
  refine ⟨_, f_power G hP, ?_⟩
  refine ⟨fun hc => ?_, fun hc => ?_⟩
  · (conv => whnf)
    refine FnP.eq (grouped_ok G (by lia)) (by decide) ?_
    have e : grpA P A = grp A := by rw [grpA, if_pos hc]
    have := grp_len _ A (Nat.le_refl _)
    have f := fin4 (grp A) (by exact (Nat.le_trans this (Nat.mul_le_mul_left 2 hA)))
    rw [numOf, e]
    exact f
  · have e : grpA P A = A := by rw [grpA, if_neg (by rw [hc]; decide)]
    have f := fin4 A (by lia)
    rw [numOf, e]
    exact f
end

theorem number_by_1 (G : Good C ss fns bs fields) {V : Act C (F_number_by C.K)} {P : Pic} {a : Addr} {ah : AH} (hP : (a, picO C P) ∈ ah) (ok : PicOk P) {val : PV} {c e : Int} (hc : c.natAbs < 2 ^ 62) (h1 : e ≤ 100) (h2 : -100 ≤ e) :
    Ws V 59 B_number_by_1 ((prt 19).body.drop 1) ⟨[(Str.ofString "picture", some (.ref a)), (Str.ofString "value", some val), (Str.ofString "coefficient", some (.int c)), (Str.ofString "exponent", some (.int e)), (Str.ofString "size", none), (Str.ofString "is_below", none), (Str.ofString "told", none), (Str.ofString "ahead", none), (Str.ofString "behind", none),
      (Str.ofString "lead", none), (Str.ofString "width", none), (Str.ofString "room", none), (Str.ofString "filled", none), (Str.ofString "whole", none)], ah⟩ (fun z0 => False) (fun r st => r = .str (numBy P c e) ∧ st.ah = ah) (fun z0 => False) := by
  have hpl := partsOf_len ok hc h1 h2
  have ea := a_ab c
  have okr := ok.r
  refine ⟨_, f_power G hP, ?_⟩
  (conv => whnf)
  rw [ea]
  refine ⟨fun hp => ?_, fun hp => ?_⟩
  · have ep : partsOf P c.natAbs e = withExp P c.natAbs e := by rw [partsOf, if_pos hp]
    refine FnP.eq (with_exponent_ok G hP ok hc h1 h2) (by decide) ?_
    rw [ep] at hpl
    have f := number_by_3 (V := V) G hP ok (val := val) (co := .int c) (ex := .int e) (sz := .int c.natAbs) (neg := decide (c < 0)) hpl.1 hpl.2.1 hpl.2.2
    rw [numBy, ep]
    exact f
  · have ep : partsOf P c.natAbs e = ((padded (sc c.natAbs (e + P.right)) (P.right + 1)).take ((padded (sc c.natAbs (e + P.right)) (P.right + 1)).length - P.right),
      (padded (sc c.natAbs (e + P.right)) (P.right + 1)).drop ((padded (sc c.natAbs (e + P.right)) (P.right + 1)).length - P.right), []) := by rw [partsOf, if_neg (by rw [hp]; decide)]
    refine ⟨_, f_right G hP, ?_⟩
    refine FnP.eq (scaled_ok G hc (by exact (a_er h1 okr (by decide))) (by exact (a_er' h2))) (by decide) ?_
    refine ⟨_, f_right G hP, ?_⟩
    refine FnP.eq (split_figures_ok G (sc_lt hc (by exact (a_er h1 okr (by decide)))) (by lia)) (by decide) ?_
    rw [ep] at hpl
    have f := number_by_3 (V := V) G hP ok (val := val) (co := .int c) (ex := .int e) (sz := .int c.natAbs) (neg := decide (c < 0)) hpl.1 hpl.2.1 hpl.2.2
    rw [numBy, ep]
    exact f
/-- a number's value -/
inductive NumV (c e : Int) : PV → Prop
  | int : e = 0 → NumV c e (.int c)
  | dec : NumV c e (.tuple [.int c, .int e])
theorem number_by_ok (G : Good C ss fns bs fields) {P : Pic} {a : Addr} {c e : Int} {v : PV} {ah : AH} (hP : (a, picO C P) ∈ ah) (ok : PicOk P) (hv : NumV c e v) (hc : c.natAbs < 2 ^ 62) (h1 : e ≤ 100) (h2 : -100 ≤ e) :
    Fn C 60 (adr C.K "number_by") [.ref a, v] ah fun r ah' => r = .str (numBy P c e) ∧ ah' = ah := by
  refine Fn_W (F := F_number_by C.K) (n := 59) rfl G (D_number_by G) C_number_by rfl rfl fun V => ?_
  cases hv with
  | int h0 =>
    subst h0
    refine ⟨fun hh => ?_, fun z0 => ?_⟩
    · cases hh
    exact number_by_1 G hP ok hc (by decide) (by decide)
  | dec =>
    refine ⟨fun z0 => ?_, fun hh => ?_⟩
    · (conv => whnf)
      exact number_by_1 G hP ok hc h1 h2
    · cases hh
end Mine
end
section
open PySem PySem.W PyProof.Rows
set_option Elab.async false
set_option tactic.hygienic false
set_option genSizeOf false
set_option genInjectivity false
set_option maxRecDepth 100000
set_option maxHeartbeats 1000000
set_option linter.unusedVariables false
set_option linter.unusedSimpArgs false
namespace Mine
variable {C : Cx}
/-! ### reading a picture -/
theorem slA {t l : List Nat} {i j : Int} (a k : Nat) (hi : i = a) (hj : j = a + k) (hd : t.drop a = l) : pySlice (some i) (some j) t = l.take k := by
  have hj : j = ((a + k : Nat) : Int) := by rw [hj]; rfl
  subst hi hj hd
  unfold pySlice
  rw [clip_nat, clip_nat, take_min]
  rcases Nat.le_total a t.length with h | h
  · rw [Nat.min_eq_left h, List.drop_take, Nat.add_sub_cancel_left]
  · rw [Nat.min_eq_right h, List.drop_of_length_le h, List.take_nil]
    exact List.drop_of_length_le (List.length_take_le' _ _)
theorem sl1 {t l : List Nat} {a : Nat} (hd : t.drop a = l) : pySlice (some (a : Int)) (some ((a : Int) + 1)) t = l.take 1 := slA a 1 rfl rfl hd
theorem sl2 {t l : List Nat} {a : Nat} (hd : t.drop a = l) : pySlice (some (a : Int)) (some ((a : Int) + 2)) t = l.take 2 := slA a 2 rfl rfl hd
theorem sl4 {t l : List Nat} {a : Nat} (hd : t.drop a = l) : pySlice (some (a : Int)) (some ((a : Int) + 4)) t = l.take 4 := slA a 4 rfl rfl hd
theorem up1 (a : Nat) : (a : Int) + 1 = ((a + 1 : Nat) : Int) := by omega
theorem up2 (a : Nat) : (a : Int) + 2 = ((a + 2 : Nat) : Int) := by omega
theorem up4 (a : Nat) : (a : Int) + 4 = ((a + 4 : Nat) : Int) := by omega
theorem dropUp {t l : List Nat} {a : Nat} (hd : t.drop a = l) (k : Nat) : t.drop (a + k) = l.drop k := by rw [← List.drop_drop, hd]
noncomputable def begins (l : List Nat) : Bool := (fun m : List Nat => decide (m.take 1 = [35]) || [[42, 42], [36, 36], [46, 35]].contains (m.take 2)) (if l.take 1 = [43] then l.drop 1 else l)
theorem begins_number_ok (G : Good C ss fns bs fields) {t l : List Nat} {a : Nat} {ah : AH} (hd : t.drop a = l) (hs : t.length ≤ 100000) : Fn C 10 (adr C.K "begins_number") [.str t, .int a] ah fun r ah' => r = .bool (begins l) ∧ ah' = ah := by
  refine Fn_W (F := F_begins_number C.K) (n := 9) rfl G (D_begins_number G) C_begins_number rfl rfl fun V => ?_
  refine ⟨by (first | assumption | exact len_small (by assumption) | exact len_small (by simp only [List.length_append, List.length_cons, List.length_nil, low_len]; omega) | omega | (simp only [List.length_append, List.length_cons, List.length_nil, low_len]; omega)), ?_⟩
  rw [sl1 hd]
  refine ⟨fun hc => ?_, fun hc => ?_⟩
  · have hc := of_decide_eq_true hc
    have hd1 := dropUp hd 1
    refine ⟨by (first | assumption | exact len_small (by assumption) | exact len_small (by simp only [List.length_append, List.length_cons, List.length_nil, low_len]; omega) | omega | (simp only [List.length_append, List.length_cons, List.length_nil, low_len]; omega)), ?_⟩
    rw [up1, sl1 hd1]
    refine ⟨by (first | assumption | exact len_small (by assumption) | exact len_small (by simp only [List.length_append, List.length_cons, List.length_nil, low_len]; omega) | omega | (simp only [List.length_append, List.length_cons, List.length_nil, low_len]; omega)), ?_⟩
    rw [sl2 hd1]
    exact ⟨by rw [begins, if_pos hc], rfl⟩
  · have hc := of_decide_eq_false hc
    refine ⟨by (first | assumption | exact len_small (by assumption) | exact len_small (by simp only [List.length_append, List.length_cons, List.length_nil, low_len]; omega) | omega | (simp only [List.length_append, List.length_cons, List.length_nil, low_len]; omega)), ?_⟩
    rw [sl1 hd]
    refine ⟨by (first | assumption | exact len_small (by assumption) | exact len_small (by simp only [List.length_append, List.length_cons, List.length_nil, low_len]; omega) | omega | (simp only [List.length_append, List.length_cons, List.length_nil, low_len]; omega)), ?_⟩
    rw [sl2 hd]
    exact ⟨by rw [begins, if_neg hc], rfl⟩

noncomputable def pic0 : Pic := ⟨0, 0, false, false, false, false, false, []⟩
theorem init_ok (G : Good C ss fns bs fields) {a : Addr} {ah : AH} : Fn C 10 (initAt C.K (picA C)) [.ref a] ((a, .inst (picA C) []) :: ah) fun r ah' => r = .none ∧ ah' = (a, picO C pic0) :: ah := by
  refine Fn_W (F := F_init C.K) (n := 9) rfl G (D_init G) C_init rfl rfl fun V => ?_
  refine ⟨_, .new .here (by decide +kernel) (G.field (mem_of (by kernel_rfl))) (by decide), ?_⟩
  refine ⟨_, .new .here (by decide +kernel) (G.field (mem_of (by kernel_rfl))) (by decide), ?_⟩
  refine ⟨_, .new .here (by decide +kernel) (G.field (mem_of (by kernel_rfl))) (by decide), ?_⟩
  refine ⟨_, .new .here (by decide +kernel) (G.field (mem_of (by kernel_rfl))) (by decide), ?_⟩
  refine ⟨_, .new .here (by decide +kernel) (G.field (mem_of (by kernel_rfl))) (by decide), ?_⟩
  refine ⟨_, .new .here (by decide +kernel) (G.field (mem_of (by kernel_rfl))) (by decide), ?_⟩
  refine ⟨_, .new .here (by decide +kernel) (G.field (mem_of (by kernel_rfl))) (by decide), ?_⟩
  refine ⟨_, .new .here (by decide +kernel) (G.field (mem_of (by kernel_rfl))) (by decide), ?_⟩
  exact ⟨rfl, rfl⟩
/-! setting a field of a picture -/
section
variable {a : Addr} {ah : AH} {P : Pic}
theorem s_left (G : Good C ss fns bs fields) (n : Nat) : FieldPut C ((a, picO C P) :: ah) "left" (.int n) (.ref a) ((a, picO C { P with left := n }) :: ah) := .mk .here .here (G.field (mem_of (by kernel_rfl))) (by simp)
theorem s_right (G : Good C ss fns bs fields) (n : Nat) : FieldPut C ((a, picO C P) :: ah) "right" (.int n) (.ref a) ((a, picO C { P with right := n }) :: ah) := .mk .here (.next .here) (G.field (mem_of (by kernel_rfl))) (by simp)
theorem s_point (G : Good C ss fns bs fields) (b : Bool) : FieldPut C ((a, picO C P) :: ah) "has_point" (.bool b) (.ref a) ((a, picO C { P with point := b }) :: ah) := .mk .here (.next (.next .here)) (G.field (mem_of (by kernel_rfl))) (by simp)
theorem s_star (G : Good C ss fns bs fields) (b : Bool) : FieldPut C ((a, picO C P) :: ah) "has_star" (.bool b) (.ref a) ((a, picO C { P with star := b }) :: ah) := .mk .here (.next (.next (.next .here))) (G.field (mem_of (by kernel_rfl))) (by simp)
theorem s_dollar (G : Good C ss fns bs fields) (b : Bool) : FieldPut C ((a, picO C P) :: ah) "has_dollar" (.bool b) (.ref a) ((a, picO C { P with dollar := b }) :: ah) := .mk .here (.next (.next (.next (.next .here)))) (G.field (mem_of (by kernel_rfl))) (by simp)
theorem s_comma (G : Good C ss fns bs fields) (b : Bool) : FieldPut C ((a, picO C P) :: ah) "has_comma" (.bool b) (.ref a) ((a, picO C { P with comma := b }) :: ah) := .mk .here (.next (.next (.next (.next (.next .here))))) (G.field (mem_of (by kernel_rfl))) (by simp)
theorem s_power (G : Good C ss fns bs fields) (b : Bool) : FieldPut C ((a, picO C P) :: ah) "has_exponent" (.bool b) (.ref a) ((a, picO C { P with power := b }) :: ah) := .mk .here (.next (.next (.next (.next (.next (.next .here)))))) (G.field (mem_of (by kernel_rfl))) (by simp)
theorem s_sign (G : Good C ss fns bs fields) (l : List Nat) : FieldPut C ((a, picO C P) :: ah) "sign" (.str l) (.ref a) ((a, picO C { P with sign := l }) :: ah) := .mk .here (.next (.next (.next (.next (.next (.next (.next .here))))))) (G.field (mem_of (by kernel_rfl))) (by simp)
end
/-- the marks ahead: what they make of the picture, and how many signs they are -/
noncomputable def rdA (P : Pic) (l : List Nat) : Pic × Nat :=
  if l.take 2 = [42, 42] then (if (l.drop 2).take 1 = [36] then ({ P with star := true, dollar := true, left := 3 }, 3) else ({ P with star := true, left := 2 }, 2))
  else if l.take 2 = [36, 36] then ({ P with dollar := true, left := 2 }, 2) else (P, 0)
noncomputable def rdA1 (P : Pic) (l : List Nat) : Pic × Nat := if l.take 1 = [43] then ((rdA { P with sign := [43, 97, 104, 101, 97, 100] } (l.drop 1)).1, (rdA { P with sign := [43, 97, 104, 101, 97, 100] } (l.drop 1)).2 + 1) else rdA P l
theorem read_ahead_1 (G : Good C ss fns bs fields) {V : Act C (F_read_ahead C.K)} {t l : List Nat} {i : Nat} {a : Addr} {P : Pic} {ah : AH} (hd : t.drop i = l) (hs : t.length ≤ 100000) :
    Ws V 9 B_read_ahead_1 ((prt 7).body.drop 1) ⟨[(Str.ofString "picture", some (.ref a)), (Str.ofString "text", some (.str t)), (Str.ofString "at", some (.int i))], (a, picO C P) :: ah⟩ (fun z0 => False)
      (fun r st => r = .int ((i + (rdA P l).2 : Nat) : Int) ∧ st.ah = (a, picO C (rdA P l).1) :: ah) (fun z0 => False) := by
  refine ⟨by (first | assumption | exact len_small (by assumption) | exact len_small (by simp only [List.length_append, List.length_cons, List.length_nil, low_len]; omega) | omega | (simp only [List.length_append, List.length_cons, List.length_nil, low_len]; omega)), ?_⟩
  rw [sl2 hd]
  refine ⟨fun hc => ?_, fun hc => ?_⟩
  · have hc := of_decide_eq_true hc
    have hd2 := dropUp hd 2
    refine ⟨rfl, ?_⟩
    refine ⟨_, s_star G true, ?_⟩
    refine ⟨_, s_left G 2, ?_⟩
    refine ⟨by (first | assumption | exact len_small (by assumption) | exact len_small (by simp only [List.length_append, List.length_cons, List.length_nil, low_len]; omega) | omega | (simp only [List.length_append, List.length_cons, List.length_nil, low_len]; omega)), ?_⟩
    rw [up2, sl1 hd2]
    refine ⟨fun he => ?_, fun he => ?_⟩
    · have he := of_decide_eq_true he
      refine ⟨rfl, ?_⟩
      refine ⟨_, s_dollar G true, ?_⟩
      refine ⟨_, s_left G 3, ?_⟩
      (conv => whnf)
      rw [rdA, if_pos hc, if_pos he]
      exact ⟨rfl, rfl⟩
    · have he := of_decide_eq_false he
      (conv => whnf)
      rw [rdA, if_pos hc, if_neg he]
      exact ⟨rfl, rfl⟩
  · have hc := of_decide_eq_false hc
    refine ⟨by (first | assumption | exact len_small (by assumption) | exact len_small (by simp only [List.length_append, List.length_cons, List.length_nil, low_len]; omega) | omega | (simp only [List.length_append, List.length_cons, List.length_nil, low_len]; omega)), ?_⟩
    rw [sl2 hd]
    refine ⟨fun he => ?_, fun he => ?_⟩
    · have he := of_decide_eq_true he
      refine ⟨rfl, ?_⟩
      refine ⟨_, s_dollar G true, ?_⟩
      refine ⟨_, s_left G 2, ?_⟩
      (conv => whnf)
      rw [rdA, if_neg hc, if_pos he]
      exact ⟨rfl, rfl⟩
    · have he := of_decide_eq_false he
      (conv => whnf)
      rw [rdA, if_neg hc, if_neg he]
      exact ⟨rfl, rfl⟩
theorem read_ahead_ok (G : Good C ss fns bs fields) {t l : List Nat} {i : Nat} {a : Addr} {P : Pic} {ah : AH} (hd : t.drop i = l) (hs : t.length ≤ 100000) :
    Fn C 10 (adr C.K "read_ahead") [.ref a, .str t, .int i] ((a, picO C P) :: ah) fun r ah' => r = .int ((i + (rdA1 P l).2 : Nat) : Int) ∧ ah' = (a, picO C (rdA1 P l).1) :: ah := by
  refine Fn_W (F := F_read_ahead C.K) (n := 9) rfl G (D_read_ahead G) C_read_ahead rfl rfl fun V => ?_
  refine ⟨by (first | assumption | exact len_small (by assumption) | exact len_small (by simp only [List.length_append, List.length_cons, List.length_nil, low_len]; omega) | omega | (simp only [List.length_append, List.length_cons, List.length_nil, low_len]; omega)), ?_⟩
  rw [sl1 hd]
  refine ⟨fun hc => ?_, fun hc => ?_⟩
  · have hc := of_decide_eq_true hc
    refine ⟨rfl, ?_⟩
    refine ⟨_, s_sign G [43, 97, 104, 101, 97, 100], ?_⟩
    have f := read_ahead_1 (V := V) G (a := a) (P := { P with sign := [43, 97, 104, 101, 97, 100] }) (ah := ah) (dropUp hd 1) hs
    rw [rdA1, if_pos hc]
    rw [up1]
    have e : i + ((rdA { P with sign := [43, 97, 104, 101, 97, 100] } (l.drop 1)).2 + 1) = i + 1 + (rdA { P with sign := [43, 97, 104, 101, 97, 100] } (l.drop 1)).2 := by omega
    dsimp only
    rw [e]
    exact f
  · have hc := of_decide_eq_false hc
    have f := read_ahead_1 (V := V) G (a := a) (P := P) (ah := ah) hd hs
    rw [rdA1, if_neg hc]
    exact f
/-- the places before the point -/
noncomputable def rdL : Pic → List Nat → Pic × Nat
  | P, [] => (P, 0)
  | P, c :: r => if c = 35 ∨ c = 44 then ((rdL { P with comma := P.comma || decide (c = 44), left := P.left + 1 } r).1, (rdL { P with comma := P.comma || decide (c = 44), left := P.left + 1 } r).2 + 1) else (P, 0)
/-- those behind it -/
noncomputable def rdR : Pic → List Nat → Pic × Nat
  | P, [] => (P, 0)
  | P, c :: r => if c = 35 then ((rdR { P with right := P.right + 1 } r).1, (rdR { P with right := P.right + 1 } r).2 + 1) else (P, 0)
noncomputable def rdQ (P : Pic) (l : List Nat) : Pic × Nat := if l.take 1 = [46] then ((rdR { P with point := true } (l.drop 1)).1, (rdR { P with point := true } (l.drop 1)).2 + 1) else (P, 0)
noncomputable def rdP (P : Pic) (l : List Nat) : Pic × Nat := ((rdQ (rdL P l).1 (l.drop (rdL P l).2)).1, (rdL P l).2 + (rdQ (rdL P l).1 (l.drop (rdL P l).2)).2)
theorem drop_cons {t r : List Nat} {i c : Nat} (hd : t.drop i = c :: r) : i < t.length ∧ t.getD (pyIdx t.length (i : Int)) 0 = c ∧ t.drop (i + 1) = r := by
  have h1 : i < t.length := by
    rcases Nat.lt_or_ge i t.length with h | h
    · exact h
    · rw [List.drop_of_length_le h] at hd; cases hd
  refine (i02 h1 ?_ ?_)
  · rw [List.drop_eq_getElem_cons h1] at hd
    have : t[i] = c := by cases hd; rfl
    unfold pyIdx
    rw [if_neg (by omega)]
    simp [List.getD, h1, this]
  · rw [← List.drop_drop, hd]; rfl
theorem rdL_some {c : Nat} {r : List Nat} {P : Pic} (h : c = 35 ∨ c = 44) : rdL P (c :: r) = ((rdL { P with comma := P.comma || decide (c = 44), left := P.left + 1 } r).1, (rdL { P with comma := P.comma || decide (c = 44), left := P.left + 1 } r).2 + 1) := by rw [rdL, if_pos h]
theorem rdR_some {r : List Nat} {P : Pic} : rdR P (35 :: r) = ((rdR { P with right := P.right + 1 } r).1, (rdR { P with right := P.right + 1 } r).2 + 1) := by rw [rdR, if_pos rfl]
theorem in_marks (c : Nat) (r : List Nat) : [[35], [44]].contains ((c :: r).take 1) = true ↔ c = 35 ∨ c = 44 := by
  simp
theorem read_places_1 (G : Good C ss fns bs fields) {V : Act C (F_read_places C.K)} {t l : List Nat} {i : Nat} {a : Addr} {P : Pic} {ah : AH} (hd : t.drop i = l) (hs : t.length ≤ 100000) :
    Ws V 9 B_read_places_1 ((prt 8).body.drop 1) ⟨[(Str.ofString "picture", some (.ref a)), (Str.ofString "text", some (.str t)), (Str.ofString "at", some (.int i))], (a, picO C P) :: ah⟩ (fun z0 => False)
      (fun r st => r = .int ((i + (rdQ P l).2 : Nat) : Int) ∧ st.ah = (a, picO C (rdQ P l).1) :: ah) (fun z0 => False) := by
  refine ⟨by (first | assumption | exact len_small (by assumption) | exact len_small (by simp only [List.length_append, List.length_cons, List.length_nil, low_len]; omega) | omega | (simp only [List.length_append, List.length_cons, List.length_nil, low_len]; omega)), ?_⟩
  rw [sl1 hd]
  refine ⟨fun hc => ?_, fun hc => ?_⟩
  · have hc := of_decide_eq_true hc
    have hd1 := dropUp hd 1
    rw [rdQ, if_pos hc]
    refine ⟨rfl, ?_⟩
    refine ⟨_, s_point G true, ?_⟩
    (conv => whnf)
    rw [up1]
    generalize hP1 : ({ P with point := true } : Pic) = P1
    refine ⟨List Nat × Nat × Pic, fun q => ⟨[(Str.ofString "picture", some (.ref a)), (Str.ofString "text", some (.str t)), (Str.ofString "at", some (.int q.2.1))], (a, picO C q.2.2) :: ah⟩,
      fun q => t.drop q.2.1 = q.1 ∧ (rdR q.2.2 q.1).1 = (rdR P1 (l.drop 1)).1 ∧ q.2.1 + (rdR q.2.2 q.1).2 = i + 1 + (rdR P1 (l.drop 1)).2, fun q => q.1.length, (l.drop 1, i + 1, P1), (i03 rfl hd1 rfl rfl), fun q hq => ?_⟩
    obtain ⟨m, j, P2⟩ := q
    refine x02 hq fun q1 q2 q3 => ?_
    dsimp only at q1 q2 q3
    refine ⟨by (first | assumption | exact len_small (by assumption) | exact len_small (by simp only [List.length_append, List.length_cons, List.length_nil, low_len]; omega) | omega | (simp only [List.length_append, List.length_cons, List.length_nil, low_len]; omega)), ?_⟩
    rw [sl1 q1]
    refine ⟨fun he => ?_, fun he => ?_⟩
    · have he := of_decide_eq_true he
      cases m with
      | nil => cases he
      | cons c r =>
        have : c = 35 := by simpa using he
        subst this
        refine x02 (drop_cons q1) fun g1 g2 g3 => ?_
        rw [rdR_some] at q2 q3
        dsimp only at q2 q3
        refine ⟨_, f_right G (.head _), ?_⟩
        refine ⟨rfl, ?_⟩
        refine ⟨_, s_right G (P2.right + 1), ?_⟩
        refine (i12 (r, j + 1, { P2 with right := P2.right + 1 }) rfl (i02 g3 q2 ?_) ?_)
        · dsimp only; omega
        · dsimp only; simp
    · have he := of_decide_eq_false he
      have e0 : rdR P2 m = (P2, 0) := by
        cases m with
        | nil => rfl
        | cons c r =>
          have : ¬ c = 35 := fun q => he (by simp [q])
          rw [rdR, if_neg this]
      rw [e0] at q2 q3
      dsimp only at q2 q3
      refine ⟨?_, by rw [← q2]⟩
      have : j = i + ((rdR P1 (l.drop 1)).2 + 1) := by omega
      rw [this]
  · have hc := of_decide_eq_false hc
    (conv => whnf)
    rw [rdQ, if_neg hc]
    exact ⟨rfl, rfl⟩
theorem read_places_ok (G : Good C ss fns bs fields) {t l : List Nat} {i : Nat} {a : Addr} {P : Pic} {ah : AH} (hd : t.drop i = l) (hs : t.length ≤ 100000) :
    Fn C 10 (adr C.K "read_places") [.ref a, .str t, .int i] ((a, picO C P) :: ah) fun r ah' => r = .int ((i + (rdP P l).2 : Nat) : Int) ∧ ah' = (a, picO C (rdP P l).1) :: ah := by
  refine Fn_W (F := F_read_places C.K) (n := 9) rfl G (D_read_places G) C_read_places rfl rfl fun V => ?_
  refine ⟨List Nat × Nat × Pic, fun q => ⟨[(Str.ofString "picture", some (.ref a)), (Str.ofString "text", some (.str t)), (Str.ofString "at", some (.int q.2.1))], (a, picO C q.2.2) :: ah⟩,
    fun q => t.drop q.2.1 = q.1 ∧ (rdL q.2.2 q.1).1 = (rdL P l).1 ∧ q.2.1 + (rdL q.2.2 q.1).2 = i + (rdL P l).2, fun q => q.1.length, (l, i, P), (i03 rfl hd rfl rfl), fun q hq => ?_⟩
  obtain ⟨m, j, P2⟩ := q
  refine x02 hq fun q1 q2 q3 => ?_
  dsimp only at q1 q2 q3
  refine ⟨by (first | assumption | exact len_small (by assumption) | exact len_small (by simp only [List.length_append, List.length_cons, List.length_nil, low_len]; omega) | omega | (simp only [List.length_append, List.length_cons, List.length_nil, low_len]; omega)), ?_⟩
  rw [sl1 q1]
  refine ⟨by (first | assumption | exact len_small (by assumption) | exact len_small (by simp only [List.length_append, List.length_cons, List.length_nil, low_len]; omega) | omega | (simp only [List.length_append, List.length_cons, List.length_nil, low_len]; omega)), ?_⟩
  refine ⟨fun hc => ?_, fun hc => ?_⟩
  · simp only [Bool.and_eq_true, decide_eq_true_eq] at hc
    cases m with
    | nil => exact absurd hc.1 (by decide)
    | cons c r =>
      have hcc := (in_marks c r).mp hc.1
      refine x02 (drop_cons q1) fun g1 g2 g3 => ?_
      rw [rdL_some hcc] at q2 q3
      dsimp only at q2 q3
      refine ⟨_, f_comma G (.head _), ?_⟩
      refine ⟨(i02 (by (first | assumption | exact len_small (by assumption) | exact len_small (by simp only [List.length_append, List.length_cons, List.length_nil, low_len]; omega) | omega | (simp only [List.length_append, List.length_cons, List.length_nil, low_len]; omega))) (by dsimp only; omega) (by dsimp only; omega)), ?_⟩
      (conv => whnf)
      dsimp only
      rw [g2]
      have ec : decide ([c] = [44]) = decide (c = 44) := by simp
      rw [ec]
      refine ⟨_, s_comma G (P2.comma || decide (c = 44)), ?_⟩
      refine ⟨_, f_left G (.head _), ?_⟩
      refine ⟨rfl, ?_⟩
      refine ⟨_, s_left G (P2.left + 1), ?_⟩
      refine (i12 (r, j + 1, { P2 with comma := P2.comma || decide (c = 44), left := P2.left + 1 }) rfl (i02 g3 q2 ?_) ?_)
      · dsimp only; omega
      · dsimp only; simp
  · have e0 : rdL P2 m = (P2, 0) := by
      cases m with
      | nil => rfl
      | cons c r =>
        refine x02 (drop_cons q1) fun g1 g2 g3 => ?_
        have : ¬ (c = 35 ∨ c = 44) := fun q => by
          rw [(in_marks c r).mpr q] at hc
          have : decide ((j : Int) < t.length) = true := by simpa using g1
          rw [this] at hc; cases hc
        rw [rdL, if_neg this]
    rw [e0] at q2 q3
    dsimp only at q2 q3
    have hj : j = i + (rdL P l).2 := by omega
    subst hj
    have f := read_places_1 (V := V) G (a := a) (P := P2) (ah := ah) (l := l.drop (rdL P l).2) (by rw [← dropUp hd]) hs
    rw [rdP, ← q2]
    dsimp only
    rw [← Nat.add_assoc]
    exact f
noncomputable def rdPow (P : Pic) (l : List Nat) : Pic × Nat := if l.take 4 = [94, 94, 94, 94] then ({ P with power := true }, 4) else (P, 0)
noncomputable def rdS (P : Pic) : List Nat → Pic × Nat
  | [] => (P, 0)
  | c :: _ => if P.sign = [] ∧ (c = 43 ∨ c = 45) then ({ P with sign := [c] ++ [98, 101, 104, 105, 110, 100] }, 1) else (P, 0)
/-- two steps of the reading, one after the other -/
noncomputable def seqR (f g : Pic → List Nat → Pic × Nat) (P : Pic) (l : List Nat) : Pic × Nat := ((g (f P l).1 (l.drop (f P l).2)).1, (f P l).2 + (g (f P l).1 (l.drop (f P l).2)).2)
noncomputable def rdPic (l : List Nat) : Pic × Nat := seqR (seqR (seqR rdA1 rdP) rdPow) rdS pic0 l
theorem read_picture_3 (G : Good C ss fns bs fields) {V : Act C (F_read_picture C.K)} {t l : List Nat} {i : Nat} {a : Addr} {P : Pic} {ah : AH} (hd : t.drop i = l) (hs : t.length ≤ 100000) {Qr : Kon} (hQ : ∀ loc, Qr (.tuple [.ref a, .int ((i + (rdS P l).2 : Nat) : Int)]) ⟨loc, (a, picO C (rdS P l).1) :: ah⟩) :
    Ws V 19 B_read_picture_3 ((prt 9).body.drop 3) ⟨[(Str.ofString "text", some (.str t)), (Str.ofString "at", some (.int i)), (Str.ofString "picture", some (.ref a))], (a, picO C P) :: ah⟩ (fun z0 => False)
      Qr (fun z0 => False) := by
  refine ⟨_, f_sign G (.head _), ?_⟩
  refine ⟨by (first | assumption | exact len_small (by assumption) | exact len_small (by simp only [List.length_append, List.length_cons, List.length_nil, low_len]; omega) | omega | (simp only [List.length_append, List.length_cons, List.length_nil, low_len]; omega)), ?_⟩
  rw [sl1 hd]
  refine ⟨by (first | assumption | exact len_small (by assumption) | exact len_small (by simp only [List.length_append, List.length_cons, List.length_nil, low_len]; omega) | omega | (simp only [List.length_append, List.length_cons, List.length_nil, low_len]; omega)), ?_⟩
  refine ⟨fun hc => ?_, fun hc => ?_⟩
  · simp only [Bool.and_eq_true, decide_eq_true_eq] at hc
    refine x02 hc fun h1 h2 h3 => ?_
    cases l with
    | nil => exact absurd h2 (by decide)
    | cons c r =>
      refine x02 (drop_cons hd) fun g1 g2 g3 => ?_
      have hcc : c = 43 ∨ c = 45 := by simpa using h2
      refine ⟨(i02 (by (first | assumption | exact len_small (by assumption) | exact len_small (by simp only [List.length_append, List.length_cons, List.length_nil, low_len]; omega) | omega | (simp only [List.length_append, List.length_cons, List.length_nil, low_len]; omega))) (by omega) (by omega)), ?_⟩
      rw [g2]
      refine ⟨by simp, ?_⟩
      refine ⟨rfl, ?_⟩
      refine ⟨_, s_sign G ([c] ++ [98, 101, 104, 105, 110, 100]), ?_⟩
      (conv => whnf)
      rw [rdS, if_pos ⟨h1, hcc⟩] at hQ
      exact hQ _
  · have e0 : rdS P l = (P, 0) := by
      cases l with
      | nil => rfl
      | cons c r =>
        refine x02 (drop_cons hd) fun g1 g2 g3 => ?_
        rw [rdS, if_neg]
        rintro ⟨q1, q2⟩
        have h2 : [[43], [45]].contains ((c :: r).take 1) = true := by simpa using q2
        have h3 : decide ((i : Int) < t.length) = true := by simpa using g1
        rw [h2, h3, decide_eq_true q1] at hc
        cases hc
    (conv => whnf)
    rw [e0] at hQ
    exact hQ _
theorem read_picture_2 (G : Good C ss fns bs fields) {V : Act C (F_read_picture C.K)} {t l : List Nat} {i : Nat} {a : Addr} {P : Pic} {ah : AH} (hd : t.drop i = l) (hs : t.length ≤ 100000) {Qr : Kon} (hQ : ∀ loc, Qr (.tuple [.ref a, .int ((i + (seqR rdPow rdS P l).2 : Nat) : Int)]) ⟨loc, (a, picO C (seqR rdPow rdS P l).1) :: ah⟩) :
    Ws V 19 B_read_picture_2 ((prt 9).body.drop 2) ⟨[(Str.ofString "text", some (.str t)), (Str.ofString "at", some (.int i)), (Str.ofString "picture", some (.ref a))], (a, picO C P) :: ah⟩ (fun z0 => False)
      Qr (fun z0 => False) := by
  refine ⟨by (first | assumption | exact len_small (by assumption) | exact len_small (by simp only [List.length_append, List.length_cons, List.length_nil, low_len]; omega) | omega | (simp only [List.length_append, List.length_cons, List.length_nil, low_len]; omega)), ?_⟩
  rw [sl4 hd]
  refine ⟨fun hc => ?_, fun hc => ?_⟩
  · have hc := of_decide_eq_true hc
    refine ⟨rfl, ?_⟩
    refine ⟨_, s_power G true, ?_⟩
    (conv => whnf)
    rw [seqR, rdPow, if_pos hc] at hQ
    dsimp only at hQ
    simp only [← Nat.add_assoc] at hQ
    rw [up4]
    exact read_picture_3 (V := V) G (a := a) (P := { P with power := true }) (ah := ah) (dropUp hd 4) hs hQ
  · have hc := of_decide_eq_false hc
    rw [seqR, rdPow, if_neg hc] at hQ
    dsimp only at hQ
    simp only [Nat.zero_add] at hQ
    exact read_picture_3 (V := V) G (a := a) (P := P) (ah := ah) hd hs hQ
theorem seqR_assoc (f g h : Pic → List Nat → Pic × Nat) (P : Pic) (l : List Nat) : seqR (seqR f g) h P l = seqR f (seqR g h) P l := by
  simp only [seqR, List.drop_drop, Nat.add_assoc]
theorem read_picture_ok (G : Good C ss fns bs fields) {t l : List Nat} {i : Nat} {ah : AH} (hd : t.drop i = l) (hs : t.length ≤ 100000) :
    Fn C 20 (adr C.K "read_picture") [.str t, .int i] ah fun r ah' => ∃ a, a ∉ ah.map (·.1) ∧ r = .tuple [.ref a, .int ((i + (rdPic l).2 : Nat) : Int)] ∧ ah' = (a, picO C (rdPic l).1) :: ah := by
  refine Fn_W (F := F_read_picture C.K) (n := 19) rfl G (D_read_picture G) C_read_picture rfl rfl fun V => ?_
  refine ⟨fun a hfr => Fn.mono (init_ok G) (by decide) ?_, by decide⟩
  rintro _ _ ⟨rfl, rfl⟩
  refine ⟨rfl, ?_⟩
  refine FnP.eq (read_ahead_ok G hd hs) (by decide) ?_
  refine FnP.eq (read_places_ok G (dropUp hd (rdA1 pic0 l).2) hs) (by decide) ?_
  have e : rdPic l = ((seqR rdPow rdS (seqR rdA1 rdP pic0 l).1 (l.drop (seqR rdA1 rdP pic0 l).2)).1, (seqR rdA1 rdP pic0 l).2 + (seqR rdPow rdS (seqR rdA1 rdP pic0 l).1 (l.drop (seqR rdA1 rdP pic0 l).2)).2) := by
    rw [rdPic, seqR_assoc]; rfl
  have hq : ∀ loc : Loc, (fun (p : PV) (st : St) => ∃ a, a ∉ ah.map (·.1) ∧ p = .tuple [.ref a, .int ((i + (rdPic l).2 : Nat) : Int)] ∧ st.ah = (a, picO C (rdPic l).1) :: ah)
      (.tuple [.ref a, .int ((i + (seqR rdA1 rdP pic0 l).2 + (seqR rdPow rdS (seqR rdA1 rdP pic0 l).1 (l.drop (seqR rdA1 rdP pic0 l).2)).2 : Nat) : Int)]) ⟨loc, (a, picO C (seqR rdPow rdS (seqR rdA1 rdP pic0 l).1 (l.drop (seqR rdA1 rdP pic0 l).2)).1) :: ah⟩ := by
    intro loc
    refine (i12 a hfr ?_ ?_)
    · rw [e]; dsimp only; rw [Nat.add_assoc]
    · rw [e]
  have f := read_picture_2 (V := V) G (a := a) (P := (seqR rdA1 rdP pic0 l).1) (ah := ah) (dropUp hd (seqR rdA1 rdP pic0 l).2) hs (Qr := fun (p : PV) (st : St) => ∃ a, a ∉ ah.map (·.1) ∧ p = .tuple [.ref a, .int ((i + (rdPic l).2 : Nat) : Int)] ∧ st.ah = (a, picO C (rdPic l).1) :: ah) hq
  have e2 : i + (seqR rdA1 rdP pic0 l).2 = i + (rdA1 pic0 l).2 + (rdP (rdA1 pic0 l).1 (l.drop (rdA1 pic0 l).2)).2 := by
    rw [seqR, Nat.add_assoc]
  rw [e2] at f
  exact f
end Mine
end
section
open PySem PySem.W PyProof.Rows
set_option Elab.async false
set_option tactic.hygienic false
set_option genSizeOf false
set_option genInjectivity false
set_option maxRecDepth 100000
set_option maxHeartbeats 1000000
set_option linter.unusedVariables false
set_option linter.unusedSimpArgs false
namespace Mine
variable {C : Cx}
/-! ### the pieces of a picture -/
inductive Piece where
  | pic (P : Pic)
  | first
  | whole
  | wide (n : Nat)
  | none
noncomputable def spaces (l : List Nat) : Nat := (l.takeWhile (· == 32)).length
noncomputable def pcAt : List Nat → Piece × Nat
  | [] => (.none, 0)
  | c :: r => if begins (c :: r) = true then (.pic (rdPic (c :: r)).1, (rdPic (c :: r)).2) else if c = 33 then (.first, 1) else if c = 38 then (.whole, 1) else if c = 95 ∧ ¬ r = [] then (.none, 2)
    else if c = 92 ∧ (r.drop (spaces r)).take 1 = [92] then (.wide (spaces r + 2), spaces r + 2) else (.none, 1)
noncomputable def PieceR (C : Cx) (i : Nat) (ah : AH) (r : PV) (ah' : AH) : Piece × Nat → Prop
  | (.pic P, n) => ∃ a, a ∉ ah.map (·.1) ∧ r = .tuple [.ref a, .int ((i + n : Nat) : Int)] ∧ ah' = (a, picO C P) :: ah
  | (.first, n) => r = .tuple [.tuple [.str [102, 105, 114, 115, 116]], .int ((i + n : Nat) : Int)] ∧ ah' = ah
  | (.whole, n) => r = .tuple [.tuple [.str [119, 104, 111, 108, 101]], .int ((i + n : Nat) : Int)] ∧ ah' = ah
  | (.wide k, n) => r = .tuple [.tuple [.str [119, 105, 100, 101], .int k], .int ((i + n : Nat) : Int)] ∧ ah' = ah
  | (.none, n) => r = .tuple [.none, .int ((i + n : Nat) : Int)] ∧ ah' = ah
theorem spaces_at : ∀ (r : List Nat) (k : Nat), k ≤ spaces r → ((r.drop k).take 1 = [32] ↔ k < spaces r)
  | [], k, h => by simp [spaces] at h ⊢
  | c :: r, 0, h => by
    by_cases q : c = 32
    · subst q; simp [spaces]
    · simp [spaces, q]
  | c :: r, k + 1, h => by
    by_cases q : c = 32
    · subst q
      have ih := spaces_at r k (by simpa [spaces] using h)
      simpa [spaces] using ih
    · simp [spaces, q] at h
theorem piece_at_4 (G : Good C ss fns bs fields) {V : Act C (F_piece_at C.K)} {t r : List Nat} {i c : Nat} {ah : AH} (hd : t.drop i = c :: r) (hs : t.length ≤ 100000) (hb : ¬ begins (c :: r) = true) (h1 : ¬ c = 33) (h2 : ¬ c = 38) {Qr : Kon} (hQ : ∀ r' st, PieceR C i ah r' st.ah (pcAt (c :: r)) → Qr r' st) :
    Ws V 29 B_piece_at_4 ((prt 11).body.drop 4) ⟨[(Str.ofString "text", some (.str t)), (Str.ofString "at", some (.int i)), (Str.ofString "sign", some (.str [c])), (Str.ofString "end", none)], ah⟩ (fun z0 => False) Qr (fun z0 => False) := by
  refine x02 (drop_cons hd) fun g1 g2 g3 => ?_
  have hlen : t.length = i + (r.length + 1) := by
    have := congrArg List.length hd
    rw [List.length_drop, List.length_cons] at this
    rw [← this, Nat.add_sub_cancel' (Nat.le_of_lt g1)]
  refine ⟨by (first | assumption | exact len_small (by assumption) | exact len_small (by simp only [List.length_append, List.length_cons, List.length_nil, low_len]; omega) | omega | (simp only [List.length_append, List.length_cons, List.length_nil, low_len]; omega)), ?_⟩
  refine ⟨fun hc => ?_, fun hc => ?_⟩
  · simp only [Bool.and_eq_true, decide_eq_true_eq] at hc
    have hc1 : c = 95 := by simpa using hc.1
    have hc2 : ¬ r = [] := by
      intro q; subst q; exact absurd (Int.ofNat_lt.mp hc.2 : i + 1 < t.length) (by rw [hlen]; exact Nat.lt_irrefl _)
    refine hQ _ _ ?_
    rw [pcAt, if_neg hb, if_neg h1, if_neg h2, if_pos ⟨hc1, hc2⟩]
    exact ⟨rfl, rfl⟩
  · have hno : ¬ (c = 95 ∧ ¬ r = []) := by
      rintro ⟨q1, q2⟩
      have : 1 ≤ r.length := by cases r with | nil => exact absurd rfl q2 | cons _ _ => simp
      have e1 : decide ([c] = [95]) = true := by simp [q1]
      have e2 : decide ((i : Int) + 1 < (t.length : Int)) = true := decide_eq_true (Int.ofNat_lt.mpr (show i + 1 < t.length by rw [hlen]; exact Nat.add_lt_add_left (Nat.succ_lt_succ this) i))
      rw [e1, e2] at hc
      cases hc
    refine ⟨Nat, fun k => ⟨[(Str.ofString "text", some (.str t)), (Str.ofString "at", some (.int i)), (Str.ofString "sign", some (.str [c])), (Str.ofString "end", some (.int ((i + 1 + k : Nat) : Int)))], ah⟩,
      fun k => k ≤ spaces r ∧ (¬ c = 92 → k = 0), fun k => spaces r - k, 0, (i02 rfl (by lia) (fun z0 => rfl)), fun k hk => ?_⟩
    have hdk : t.drop (i + 1 + k) = r.drop k := dropUp g3 k
    refine ⟨by (first | assumption | exact len_small (by assumption) | exact len_small (by simp only [List.length_append, List.length_cons, List.length_nil, low_len]; omega) | omega | (simp only [List.length_append, List.length_cons, List.length_nil, low_len]; omega)), ?_⟩
    rw [sl1 hdk]
    refine ⟨fun he => ?_, fun he => ?_⟩
    · simp only [Bool.and_eq_true, decide_eq_true_eq] at he
      have hlt := (spaces_at r k hk.1).mp he.2
      have : c = 92 := by simpa using he.1
      exact (i12 (k + 1) rfl ⟨by exact (hlt), fun q => absurd this q⟩ (by dsimp only; exact (Nat.sub_lt_sub_left hlt (Nat.lt_succ_self k))))
    · (conv => whnf)
      refine ⟨by (first | assumption | exact len_small (by assumption) | exact len_small (by simp only [List.length_append, List.length_cons, List.length_nil, low_len]; omega) | omega | (simp only [List.length_append, List.length_cons, List.length_nil, low_len]; omega)), ?_⟩
      rw [sl1 hdk]
      refine ⟨fun hf => ?_, fun hf => ?_⟩
      · simp only [Bool.and_eq_true, decide_eq_true_eq] at hf
        have hc92 : c = 92 := by simpa using hf.1
        have hk2 : k = spaces r := by
          rcases Nat.lt_or_ge k (spaces r) with q | q
          · have := (spaces_at r k hk.1).mpr q
            rw [this] at hf; cases hf.2
          · lia
        refine hQ _ _ ?_
        rw [pcAt, if_neg hb, if_neg h1, if_neg h2, if_neg hno, if_pos ⟨hc92, hk2 ▸ hf.2⟩]
        refine ⟨?_, rfl⟩
        have e1 : ((i + 1 + k : Nat) : Int) + 1 - i = ((spaces r + 2 : Nat) : Int) := by lia
        have e2 : ((i + 1 + k : Nat) : Int) + 1 = ((i + (spaces r + 2) : Nat) : Int) := by lia
        rw [← e1, ← e2]
      · (conv => whnf)
        refine hQ _ _ ?_
        rw [pcAt, if_neg hb, if_neg h1, if_neg h2, if_neg hno, if_neg]
        · exact ⟨rfl, rfl⟩
        · rintro ⟨q1, q2⟩
          have hk2 : k = spaces r := by
            rcases Nat.lt_or_ge k (spaces r) with q | q
            · have := (spaces_at r k hk.1).mpr q
              rw [this, q1] at he; cases he
            · lia
          rw [hk2, q2, q1] at hf
          cases hf
theorem piece_at_ok (G : Good C ss fns bs fields) {t r : List Nat} {i c : Nat} {ah : AH} (hd : t.drop i = c :: r) (hs : t.length ≤ 100000) :
    Fn C 30 (adr C.K "piece_at") [.str t, .int i] ah fun r' ah' => PieceR C i ah r' ah' (pcAt (c :: r)) := by
  refine Fn_W (F := F_piece_at C.K) (n := 29) rfl G (D_piece_at G) C_piece_at rfl rfl fun V => ?_
  refine x02 (drop_cons hd) fun g1 g2 g3 => ?_
  refine ⟨(i02 (by (first | assumption | exact len_small (by assumption) | exact len_small (by simp only [List.length_append, List.length_cons, List.length_nil, low_len]; omega) | omega | (simp only [List.length_append, List.length_cons, List.length_nil, low_len]; omega))) (by exact (a_neg (Int.natCast_nonneg i))) (by exact (Int.ofNat_lt.mpr g1))), ?_⟩
  rw [g2]
  refine FnP.eq (begins_number_ok G hd hs) (by decide) ?_
  refine ⟨fun hb => ?_, fun hb => ?_⟩
  · (conv => whnf)
    refine FnP.dr (read_picture_ok G hd hs) (by decide) fun a hfr => ?_
    rw [pcAt, if_pos hb]
    exact (i12 a hfr rfl rfl)
  have hb : ¬ begins (c :: r) = true := by rw [hb]; decide
  refine ⟨fun hc => ?_, fun hc => ?_⟩
  · have hc : c = 33 := by simpa using hc
    (conv => whnf)
    rw [pcAt, if_neg hb, if_pos hc]
    exact ⟨rfl, rfl⟩
  have h1 : ¬ c = 33 := by simpa using hc
  refine ⟨fun hc => ?_, fun hc => ?_⟩
  · have hc : c = 38 := by simpa using hc
    (conv => whnf)
    rw [pcAt, if_neg hb, if_neg h1, if_pos hc]
    exact ⟨rfl, rfl⟩
  have h2 : ¬ c = 38 := by simpa using hc
  exact piece_at_4 (V := V) G hd hs hb h1 h2 (Qr := fun p st => PieceR C i _ p st.ah (pcAt (c :: r))) fun z0 z0 h => h
inductive Item where
  | pl (s : List Nat)
  | pc (p : Piece)
noncomputable def plainI (s : List Nat) : List Item := if s = [] then [] else [.pl s]
noncomputable def itStep (k : List Nat → List Nat → List Item) (l s : List Nat) : Piece × Nat → List Item
  | (.none, n) => k (l.drop n) (s ++ [(l.drop (n - 1)).headD 0])
  | (p, n) => plainI s ++ .pc p :: k (l.drop n) []
noncomputable def itF : Nat → List Nat → List Nat → List Item
  | 0, _, s => plainI s
  | _ + 1, [], s => plainI s
  | k + 1, c :: r, s => itStep (itF k) (c :: r) s (pcAt (c :: r))
noncomputable def itemsOf (l : List Nat) : List Item := itF l.length l []
theorem rdA_pos {P : Pic} {l : List Nat} (h : l.take 2 = [42, 42] ∨ l.take 2 = [36, 36]) : 1 ≤ (rdA P l).2 := by
  unfold rdA
  split
  · split <;> simp
  · rw [if_pos (h.resolve_left ‹_›)]; simp
theorem seqR_le {f g : Pic → List Nat → Pic × Nat} {P : Pic} {l : List Nat} (h : 1 ≤ (f P l).2) : 1 ≤ (seqR f g P l).2 := by
  unfold seqR; dsimp only; exact (Nat.le_trans h (Nat.le_add_right _ _))
theorem rdPic_pos {l : List Nat} (h : begins l = true) : 1 ≤ (rdPic l).2 := by
  refine seqR_le (seqR_le ?_)
  unfold begins at h
  by_cases h43 : l.take 1 = [43]
  · refine seqR_le ?_
    rw [rdA1, if_pos h43]; dsimp only; lia
  · rw [if_neg h43] at h
    have e0 : ∀ P, rdA1 P l = rdA P l := fun P => by rw [rdA1, if_neg h43]
    by_cases h2 : l.take 2 = [42, 42] ∨ l.take 2 = [36, 36]
    · refine seqR_le ?_
      rw [e0]; exact rdA_pos h2
    · have e1 : rdA1 pic0 l = (pic0, 0) := by
        rw [e0, rdA, if_neg (fun q => h2 (.inl q)), if_neg (fun q => h2 (.inr q))]
      unfold seqR
      rw [e1]
      dsimp only
      rw [List.drop_zero]
      simp only [Bool.or_eq_true, decide_eq_true_eq, List.contains_cons, List.contains_nil, Bool.or_false, beq_iff_eq] at h
      rcases h with h | h | h | h
      · cases l with
        | nil => cases h
        | cons c r =>
          have : c = 35 := by simpa using h
          subst this
          have : (rdL pic0 (35 :: r)).2 = (rdL { pic0 with comma := pic0.comma || decide (35 = 44), left := pic0.left + 1 } r).2 + 1 := by rw [rdL_some (.inl rfl)]
          unfold rdP; dsimp only; lia
      · exact absurd (.inl h) h2
      · exact absurd (.inr h) h2
      · cases l with
        | nil => cases h
        | cons c r =>
          have : c = 46 := by
            have := congrArg List.head? h
            simpa using this
          subst this
          have e2 : rdL pic0 (46 :: r) = (pic0, 0) := by rw [rdL, if_neg (by decide)]
          unfold rdP
          rw [e2]
          dsimp only
          rw [List.drop_zero, rdQ, if_pos (by simp)]
          dsimp only; lia
theorem pcAt_pos (c : Nat) (r : List Nat) : 1 ≤ (pcAt (c :: r)).2 := by
  rw [pcAt]
  split
  · exact rdPic_pos ‹_›
  · (repeat' split) <;> simp
theorem itF_fuel : ∀ (k : Nat) (l s : List Nat), l.length ≤ k → itF k l s = itF l.length l s
  | 0, l, s, h => by
    have : l = [] := List.length_eq_zero_iff.mp (by lia)
    subst this; rfl
  | k + 1, [], s, h => rfl
  | k + 1, c :: r, s, h => by
    have hp := pcAt_pos c r
    have hl : ∀ n, 1 ≤ n → ((c :: r).drop n).length ≤ r.length := fun n hn => by rw [List.length_drop, List.length_cons]; exact (Nat.sub_le_of_le_add (Nat.add_le_add_left hn _))
    have hk : r.length ≤ k := by simpa using h
    show itStep (itF k) (c :: r) s (pcAt (c :: r)) = itStep (itF r.length) (c :: r) s (pcAt (c :: r))
    have go : ∀ (n : Nat) (s' : List Nat), 1 ≤ n → itF k ((c :: r).drop n) s' = itF r.length ((c :: r).drop n) s' := fun n s' hn => by
      rw [itF_fuel k _ s' (Nat.le_trans (hl n hn) hk), itF_fuel r.length _ s' (hl n hn)]
    generalize pcAt (c :: r) = q at hp
    obtain ⟨p, n⟩ := q
    cases p <;> simp only [itStep] <;> rw [go n _ hp]
termination_by k => k
theorem itF_step (c : Nat) (r s : List Nat) : itF (c :: r).length (c :: r) s = itStep (fun l s => itF l.length l s) (c :: r) s (pcAt (c :: r)) := by
  have hp := pcAt_pos c r
  show itStep (itF r.length) (c :: r) s (pcAt (c :: r)) = _
  have go : ∀ (n : Nat) (s' : List Nat), 1 ≤ n → itF r.length ((c :: r).drop n) s' = itF ((c :: r).drop n).length ((c :: r).drop n) s' := fun n s' hn =>
    itF_fuel r.length _ s' (by rw [List.length_drop, List.length_cons]; exact (Nat.sub_le_of_le_add (Nat.add_le_add_left hn _)))
  generalize pcAt (c :: r) = q at hp
  obtain ⟨p, n⟩ := q
  cases p <;> simp only [itStep] <;> rw [go n _ hp]
/-- an item, as the heap has it -/
inductive PcV (C : Cx) (ah : AH) : Item → PV → Prop
  | pl {s} : PcV C ah (.pl s) (.tuple [.str [112, 108, 97, 105, 110], .str s])
  | pic {a P} : (a, picO C P) ∈ ah → PcV C ah (.pc (.pic P)) (.ref a)
  | first : PcV C ah (.pc .first) (.tuple [.str [102, 105, 114, 115, 116]])
  | whole : PcV C ah (.pc .whole) (.tuple [.str [119, 104, 111, 108, 101]])
  | wide {k : Nat} : PcV C ah (.pc (.wide k)) (.tuple [.str [119, 105, 100, 101], .int k])
inductive PcsV (C : Cx) (ah : AH) : List Item → List PV → Prop
  | nil : PcsV C ah [] []
  | cons {x p xs ps} : PcV C ah x p → PcsV C ah xs ps → PcsV C ah (x :: xs) (p :: ps)
theorem PcV.mono {ah ah' : AH} (h : ∀ x ∈ ah, x ∈ ah') {x : Item} {p : PV} (r : PcV C ah x p) : PcV C ah' x p := by
  cases r with
  | pl => exact .pl
  | pic m => exact .pic (h _ m)
  | first => exact .first
  | whole => exact .whole
  | wide => exact .wide
theorem PcsV.mono {ah ah' : AH} (h : ∀ x ∈ ah, x ∈ ah') {xs : List Item} {ps : List PV} (r : PcsV C ah xs ps) : PcsV C ah' xs ps := by
  induction r with
  | nil => exact .nil
  | cons a b ih => exact .cons (a.mono h) ih
theorem PcsV.append {ah : AH} {xs ys : List Item} {ps qs : List PV} (r : PcsV C ah xs ps) (r' : PcsV C ah ys qs) : PcsV C ah (xs ++ ys) (ps ++ qs) := by
  induction r with
  | nil => exact r'
  | cons a b ih => exact .cons a ih
theorem UpdH.mid {a : Addr} {o o' : AObj} : ∀ (p1 p2 : AH), UpdH a o o' (p1 ++ (a, o) :: p2) (p1 ++ (a, o') :: p2)
  | [], p2 => .here
  | e :: p1, p2 => .next (UpdH.mid p1 p2)
noncomputable def plainPV (s : List Nat) : List PV := if s = [] then [] else [.tuple [.str [112, 108, 97, 105, 110], .str s]]
theorem plainI_V {ah : AH} (s : List Nat) : PcsV C ah (plainI s) (plainPV s) := by
  unfold plainI plainPV
  split
  · exact .nil
  · exact .cons .pl .nil

/-- the list with the plain text in it, if there is any -/
theorem ife_plain {n : Nat} {e1 e2 : PE} {st : St} {K : Kon} {s : List Nat} {c : Bool} (h1 : ∀ K : Kon, (∀ b, K (.ref b) ⟨st.loc, (b, .list [.tuple [.str [112, 108, 97, 105, 110], .str s]]) :: st.ah⟩) → W C n e1 st K) (h2 : ∀ K : Kon, (∀ b, K (.ref b) ⟨st.loc, (b, .list []) :: st.ah⟩) → W C n e2 st K)
    (hc : c = decide (¬ s = [])) (h : ∀ b, K (.ref b) ⟨st.loc, (b, .list (plainPV s)) :: st.ah⟩) : (c = true → W C n e1 st K) ∧ (c = false → W C n e2 st K) := by
  subst hc
  unfold plainPV at h
  refine ⟨fun q => h1 K ?_, fun q => h2 K ?_⟩
  · rw [if_neg (of_decide_eq_true q)] at h; exact h
  · rw [if_pos (Decidable.not_not.mp (of_decide_eq_false q))] at h; exact h
theorem plain_len (s : List Nat) : (plainPV s).length ≤ 1 := by unfold plainPV; split <;> simp
theorem pcAt_none {c n : Nat} {r : List Nat} (h : pcAt (c :: r) = (.none, n)) : n ≤ r.length + 1 := by
  rw [pcAt] at h
  repeat' split at h
  all_goals first | (cases h; done) | skip
  · rename_i hh
    cases h
    have : 1 ≤ r.length := by cases r with | nil => exact absurd rfl hh.2 | cons _ _ => simp
    lia
  · cases h; lia
theorem head_at {t : List Nat} {j : Nat} (h : j < t.length) : t.getD (pyIdx t.length (j : Int)) 0 = (t.drop j).headD 0 := by
  unfold pyIdx
  rw [if_neg (by lia), List.drop_eq_getElem_cons h]
  simp [List.getD, h]
structure RS where
  m : List Nat
  i : Nat
  s : List Nat
  D : List Item
  ps : List PV
  p1 : AH
  pc : Option PV
  en : Option PV
theorem piece_turn (G : Good C ss fns bs fields) {t m s : List Nat} {i : Nat} {f : Addr} {ps : List PV} {p1 ah : AH} {D I : List Item} {Q : PV → AH → Prop} (hd : t.drop i = m) (hi : i < t.length) (hs : t.length ≤ 100000) (hI : D ++ itF m.length m s = I)
    (h0 : ∀ n, 1 ≤ n → i + n ≤ t.length → D ++ itF (t.drop (i + n)).length (t.drop (i + n)) (s ++ [(t.drop (i + (n - 1))).headD 0]) = I → Q (.tuple [.none, .int ((i + n : Nat) : Int)]) (p1 ++ (f, .list ps) :: ah))
    (h1 : ∀ n p pv p1', 1 ≤ n → PcV C p1' (.pc p) pv → (∀ x ∈ p1, x ∈ p1') → pv ≠ .none → D ++ (plainI s ++ .pc p :: itF (t.drop (i + n)).length (t.drop (i + n)) []) = I → Q (.tuple [pv, .int ((i + n : Nat) : Int)]) (p1' ++ (f, .list ps) :: ah)) :
    Fn C 30 (adr C.K "piece_at") [.str t, .int i] (p1 ++ (f, .list ps) :: ah) Q := by
  cases m with
  | nil => exact absurd (List.drop_eq_nil_iff.mp hd) (by exact (Nat.not_le.mpr hi))
  | cons c r =>
    refine Fn.mono (piece_at_ok G hd hs) (Nat.le_refl _) fun r' ah' hP => ?_
    rw [itF_step] at hI
    have hpos := pcAt_pos c r
    generalize hq : pcAt (c :: r) = q at hP hI hpos
    obtain ⟨p, n⟩ := q
    cases p with
    | pic P =>
      refine x12 hP fun a ha ez0 ez1 => ?_
      obtain rfl := ez0
      obtain rfl := ez1
      exact h1 n _ _ ((a, picO C P) :: p1) hpos (.pic (.head _)) (fun x hx => .tail _ hx) PV.noConfusion (by rw [dropUp hd]; exact hI)
    | first => obtain ⟨rfl, rfl⟩ := hP; exact h1 n _ _ p1 hpos .first (fun x hx => hx) PV.noConfusion (by rw [dropUp hd]; exact hI)
    | whole => obtain ⟨rfl, rfl⟩ := hP; exact h1 n _ _ p1 hpos .whole (fun x hx => hx) PV.noConfusion (by rw [dropUp hd]; exact hI)
    | wide k => obtain ⟨rfl, rfl⟩ := hP; exact h1 n _ _ p1 hpos .wide (fun x hx => hx) PV.noConfusion (by rw [dropUp hd]; exact hI)
    | none =>
      obtain ⟨rfl, rfl⟩ := hP
      have hr := congrArg List.length hd
      rw [List.length_drop, List.length_cons] at hr
      have := pcAt_none hq
      exact h0 n hpos (Nat.add_le_of_le_sub' (Nat.le_of_lt hi) (Nat.le_trans this (Nat.le_of_eq hr.symm))) (by rw [dropUp hd, dropUp hd]; exact hI)
theorem read_pieces_ok (G : Good C ss fns bs fields) {t : List Nat} {ah : AH} (hs : t.length ≤ 50000) :
    Fn C 40 (adr C.K "read_pieces") [.str t] ah fun r ah' => ∃ f ps N, r = .ref f ∧ ah' = N ++ ah ∧ (f, AObj.list ps) ∈ ah' ∧ PcsV C ah' (itemsOf t) ps ∧ ps.length ≤ 2 * t.length + 1 := by
  refine Fn_W (F := F_read_pieces C.K) (n := 39) rfl G (D_read_pieces G) C_read_pieces rfl rfl fun V => ?_
  refine ⟨by decide, fun f hf => ?_⟩
  refine ⟨RS, fun q => ⟨[(Str.ofString "text", some (.str t)), (Str.ofString "found", some (.ref f)), (Str.ofString "plain", some (.str q.s)), (Str.ofString "at", some (.int q.i)), (Str.ofString "piece", q.pc), (Str.ofString "end", q.en)], q.p1 ++ (f, .list q.ps) :: ah⟩,
    fun q => t.drop q.i = q.m ∧ q.D ++ itF q.m.length q.m q.s = itemsOf t ∧ PcsV C q.p1 q.D q.ps ∧ q.ps.length + 2 * q.m.length ≤ 2 * t.length ∧ q.s.length + q.m.length ≤ t.length, fun q => q.m.length,
    ⟨t, 0, [], [], [], [], none, none⟩, (i05 rfl rfl rfl .nil (by simp) (by simp)), fun q hq => ?_⟩
  obtain ⟨m, i, s, D, ps, p1, pc, en⟩ := q
  refine x04 hq fun hd hI hV hl1 hl2 => ?_
  dsimp only at hd hI hV hl1 hl2
  have hps : ps.length ≤ 100000 := Nat.le_trans (Nat.le_trans (Nat.le_add_right _ _) hl1) (Nat.mul_le_mul_left 2 hs)
  refine ⟨by (first | assumption | exact len_small (by assumption) | exact len_small (by simp only [List.length_append, List.length_cons, List.length_nil, low_len]; omega) | omega | (simp only [List.length_append, List.length_cons, List.length_nil, low_len]; omega)), ?_⟩
  refine ⟨fun hc => ?_, fun hc => ?_⟩
  · have hc : i < t.length := Int.ofNat_lt.mp (of_decide_eq_true hc)
    have hml : m.length = t.length - i := by rw [← hd, List.length_drop]
    have hnl : ∀ n, (t.drop (i + n)).length = t.length - (i + n) := fun n => List.length_drop
    have hdl : ∀ n, 1 ≤ n → t.length - (i + n) < m.length := fun n hn => Nat.lt_of_lt_of_le (Nat.sub_lt_sub_left hc (Nat.lt_add_of_pos_right hn)) (Nat.le_of_eq hml.symm)
    refine ⟨Fn.mono (piece_turn G hd hc (Nat.le_trans hs (by decide)) hI (fun n hn hle hI' => ?_) fun n p pv p1' hn hpv hsub hnn hI' => ?_) (by decide) fun z0 z0 h => h⟩
    · (conv => whnf)
      refine ⟨fun z0 => ?_, fun q => by cases q⟩
      have e1 : ((i + n : Nat) : Int) - 1 = ((i + (n - 1) : Nat) : Int) := (Int.ofNat_sub (Nat.le_trans hn (Nat.le_add_left _ _))).symm.trans (congrArg (fun x : Nat => (x : Int)) (Nat.add_sub_assoc hn i))
      have hin : i + (n - 1) < t.length := Nat.lt_of_lt_of_le (Nat.add_lt_add_left (Nat.sub_lt hn Nat.one_pos) i) hle
      (conv => whnf)
      rw [e1]
      refine ⟨(i02 (by (first | assumption | exact len_small (by assumption) | exact len_small (by simp only [List.length_append, List.length_cons, List.length_nil, low_len]; omega) | omega | (simp only [List.length_append, List.length_cons, List.length_nil, low_len]; omega))) (a_neg (Int.natCast_nonneg _)) (Int.ofNat_lt.mpr hin)), ?_⟩
      rw [head_at hin]
      refine ⟨Nat.le_trans (Nat.succ_le_succ (Nat.le_trans (Nat.le_trans (Nat.le_add_right _ _) hl2) hs)) (by decide), ?_⟩
      refine (i12 ⟨t.drop (i + n), i + n, _, D, ps, p1, some .none, some (.int ((i + n : Nat) : Int))⟩ rfl (i04 rfl hI' hV ?_ ?_) ?_) <;> dsimp only
      · rw [hnl]; exact Nat.le_trans (Nat.add_le_add_left (Nat.mul_le_mul_left 2 (Nat.le_of_lt (hdl n hn))) _) hl1
      · rw [List.length_append, hnl]; exact Nat.le_trans (Nat.le_of_eq (Nat.add_right_comm _ _ _)) (Nat.le_trans (Nat.add_le_add_left (hdl n hn) s.length) hl2)
      · rw [hnl]; exact hdl n hn
    · (conv => whnf)
      refine ⟨fun q => ?_, fun z0 => ?_⟩
      · exfalso; cases pv <;> first | (cases q; done) | exact hnn rfl
      refine ⟨⟨ps, by simp⟩, ?_⟩
      refine ife_plain (s := s) (fun K hK => by (conv => whnf); exact ⟨by simp, fun b z0 => hK b⟩) (fun K hK => by (conv => whnf); exact ⟨by simp, fun b z0 => hK b⟩) (by simp) fun b => ?_
      have hpl := plain_len s
      have v := (hV.mono (ah' := (b, .list (plainPV s)) :: p1') fun x hx => .tail _ (hsub x hx)).append ((plainI_V s).append (.cons (hpv.mono fun x hx => .tail _ hx) .nil))
      rw [← List.append_assoc ps] at v
      refine ⟨ps, plainPV s, _, .head _, .next (UpdH.mid p1' ah), Nat.le_trans (Nat.add_le_add hps hpl) (by decide), ?_⟩
      refine ⟨⟨_, .tail _ (List.mem_append_right _ (.head _))⟩, ?_⟩
      refine ⟨_, _, .next (UpdH.mid p1' ah), by rw [List.length_append]; exact Nat.le_trans (Nat.add_le_add hps hpl) (by decide), ?_⟩
      refine (i12 ⟨t.drop (i + n), i + n, [], D ++ (plainI s ++ [.pc p]), ps ++ plainPV s ++ [pv], (b, .list (plainPV s)) :: p1', some pv, some (.int ((i + n : Nat) : Int))⟩ rfl (i04 rfl ?_ v ?_ ?_) ?_) <;> dsimp only
      · rw [← hI', List.append_assoc, List.append_assoc]; rfl
      · rw [hnl, List.length_append, List.length_append]; exact a_rp hpl (hdl n hn) hl1
      · rw [hnl]; exact Nat.le_trans (Nat.le_of_eq (Nat.zero_add _)) (Nat.sub_le _ _)
      · rw [hnl]; exact hdl n hn
  · have hc : ¬ i < t.length := fun z => of_decide_eq_false hc (Int.ofNat_lt.mpr z)
    have hm : m = [] := by rw [← hd]; exact List.drop_of_length_le (Nat.not_lt.mp hc)
    rw [hm] at hI
    have hI : D ++ plainI s = itemsOf t := hI
    refine ife_plain (s := s) (fun K hK => by (conv => whnf); exact ⟨by simp, fun b z0 => hK b⟩) (fun K hK => by (conv => whnf); exact ⟨by simp, fun b z0 => hK b⟩) (by simp) fun b => ?_
    have hpl := plain_len s
    have v := hV.append (plainI_V s)
    rw [hI] at v
    refine ⟨ps, plainPV s, .tail _ (List.mem_append_right _ (.head _)), .head _, Nat.le_trans (Nat.add_le_add hps hpl) (by decide), by rw [List.length_append]; exact Nat.le_trans (Nat.add_le_add hps hpl) (by decide), fun d hd' => ?_⟩
    exact (i34 d _ ((d, .list (ps ++ plainPV s)) :: (b, .list (plainPV s)) :: (p1 ++ [(f, .list ps)])) rfl (by simp) (.head _) (v.mono fun x hx => .tail _ (.tail _ (List.mem_append_left _ hx))) (by rw [List.length_append]; exact Nat.add_le_add (Nat.le_trans (Nat.le_add_right _ _) hl1) hpl))
end Mine
end
section
open PySem PySem.W PyProof.Rows
set_option Elab.async false
set_option tactic.hygienic false
set_option genSizeOf false
set_option genInjectivity false
set_option maxRecDepth 100000
set_option maxHeartbeats 1000000
set_option linter.unusedVariables false
set_option linter.unusedSimpArgs false
namespace Mine
variable {C : Cx}
/-! ### the pieces with the values in them -/
inductive Val where
  | txt (l : List Nat)
  | num (c e : Int)
inductive ValV : Val → PV → Prop
  | txt {l} : ValV (.txt l) (.str l)
  | num {c e v} : NumV c e v → ValV (.num c e) v
noncomputable def ValOk : Val → Prop
  | .txt l => l.length ≤ 100
  | .num c e => c.natAbs < 2 ^ 62 ∧ e ≤ 100 ∧ -100 ≤ e
noncomputable def putI : Piece → Val → Option (List Nat)
  | .pic P, .num c e => some (numBy P c e)
  | .first, .txt l => some ((l ++ [32]).take 1)
  | .whole, .txt l => some l
  | .wide k, .txt l => some ((l ++ pyMul [32] k).take k)
  | _, _ => none
noncomputable def PieceOk : Piece → Prop
  | .pic P => PicOk P
  | .wide k => k ≤ 100
  | .none => False
  | _ => True
noncomputable abbrev codeTM : List Nat := [84, 77]
noncomputable abbrev codeFC : List Nat := [70, 67]
theorem num_len {P : Pic} {c e : Int} (ok : PicOk P) (hc : c.natAbs < 2 ^ 62) (h1 : e ≤ 100) (h2 : -100 ≤ e) : (numBy P c e).length ≤ 10000 := by
  refine x02 (partsOf_len ok hc h1 h2) fun g1 g2 g3 => ?_
  unfold numBy
  generalize (partsOf P c.natAbs e).1 = A at *
  generalize (partsOf P c.natAbs e).2.1 = B at *
  generalize (partsOf P c.natAbs e).2.2 = T at *
  generalize decide (c < 0) = neg
  have hA : (cutA P neg (grpA P A) B).length ≤ 2000 := by
    have h3 : (grpA P A).length ≤ 2000 := by
      unfold grpA
      split
      · have := grp_len _ A (Nat.le_refl _); exact (Nat.le_trans this (Nat.mul_le_mul_left 2 g1))
      · lia
    unfold cutA
    split
    · simp
    · exact h3
  unfold numOf numOf' wholeOf
  generalize cutA P neg (grpA P A) B = A' at *
  have hl := ok.l
  have hw := width_le hl
  have hr : (roomOf P neg A').toNat ≤ 101 := by unfold roomOf; exact (Nat.le_trans (Nat.le_of_eq (Int.toNat_sub _ _)) (Nat.le_trans (Nat.sub_le _ _) hw))
  have hd : (leadD P neg).length ≤ 2 := by
    have := leadOf_len P neg
    unfold leadD
    rw [List.length_append]
    have : (if P.dollar then [36] else [] : List Nat).length ≤ 1 := ite_str (by decide) (by decide)
    show _ ≤ 1 + 1
    exact Nat.add_le_add (by assumption) (by assumption)
  have ht := tailOf_len P neg
  have hp : (if P.point then [46] else [] : List Nat).length ≤ 1 := ite_str (by decide) (by decide)
  have S := Nat.add_le_add (Nat.add_le_add (Nat.add_le_add (Nat.add_le_add (Nat.add_le_add (Nat.add_le_add hr hd) hA) hp) g2) g3) ht
  split <;> simp only [List.length_cons, List.length_append, List.length_replicate]
  · exact Nat.le_trans (Nat.succ_le_succ S) (by decide)
  · exact Nat.le_trans S (by decide)
theorem put_len {p : Piece} {v : Val} {t : List Nat} (h : putI p v = some t) (hp : PieceOk p) (hv : ValOk v) : t.length ≤ 10000 := by
  cases p <;> cases v <;> first | (cases h; done) | skip
  · cases h; exact num_len hp hv.1 hv.2.1 hv.2.2
  · cases h; rw [List.length_take]; exact Nat.le_trans (Nat.min_le_left _ _) (by decide)
  · cases h; exact Nat.le_trans hv (by decide)
  · cases h; rw [List.length_take]; exact Nat.le_trans (Nat.min_le_left _ _) (Nat.le_trans hp (by decide))
theorem is_plain_ok (G : Good C ss fns bs fields) {x : Item} {p : PV} {ah : AH} (h : PcV C ah x p) : Fn C 10 (adr C.K "is_plain") [p] ah fun r ah' => r = .bool (match x with | .pl _ => true | _ => false) ∧ ah' = ah := by
  refine Fn_W (F := F_is_plain C.K) (n := 9) rfl G (D_is_plain G) C_is_plain rfl rfl fun V => ?_
  cases h with
  | pic hm =>
    refine ⟨⟨_, hm⟩, ?_⟩
    exact ⟨fun q => (by cases q), fun z0 => ⟨rfl, rfl⟩⟩
  | _ =>
    refine ⟨fun z0 => ?_, fun q => (by cases q)⟩
    refine ⟨by simp, ?_⟩
    exact ⟨rfl, rfl⟩
theorem raise_TM (G : Good C ss fns bs fields) {V : Act C (F_value_by C.K)} (hE : C.er = some (exA C, codeTM)) {x : Stmt} {st : St} {Qn : St → Prop} {Qr : Kon} {Qc : St → Prop} {np cp cpos pos : Pos}
    (ex : x = .Raise (some (.Call (.Name (Str.ofString "BasicError") np) [.Constant (.str (Str.ofString "TM")) 0 cp] [] cpos)) none pos) : RawS V 69 x st Qn Qr Qc := by
  have e : Str.ofString "TM" = ⟨codeTM.toArray⟩ := by decide +kernel
  rw [ex, e]
  exact ⟨Ex1_raise (n := 64) (code := codeTM) G valE_01 prtE_ok initP_01 hE (by decide +kernel) (mem_of (by kernel_rfl))⟩
theorem text_by (G : Good C ss fns bs fields) {ps : List PV} {l : List Nat} {ah : AH} {t : List Nat} (hl : l.length ≤ 100) (h : (ps = [.str [102, 105, 114, 115, 116]] ∧ t = (l ++ [32]).take 1) ∨ (ps = [.str [119, 104, 111, 108, 101]] ∧ t = l) ∨ ∃ k : Nat, k ≤ 100 ∧ ps = [.str [119, 105, 100, 101], .int k] ∧ t = (l ++ pyMul [32] k).take k) :
    Fn C 70 (adr C.K "value_by") [.tuple ps, .str l] ah fun r ah' => r = .str t ∧ ah' = ah := by
  refine Fn_W (F := F_value_by C.K) (n := 69) rfl G (D_value_by G) C_value_by rfl rfl fun V => ?_
  rcases h with ⟨rfl, rfl⟩ | ⟨rfl, rfl⟩ | ⟨k, hk, rfl, rfl⟩
  · (conv => whnf)
    refine ⟨fun q => (by cases q), fun z0 => ?_⟩
    refine ⟨fun q => (by cases q), fun z0 => ?_⟩
    refine ⟨by simp, ?_⟩
    refine ⟨fun z0 => ?_, fun q => (by cases q)⟩
    refine ⟨Nat.le_trans (Nat.succ_le_succ hl) (by decide), ?_⟩
    refine ⟨by unfold Small; rw [List.length_append]; exact Nat.le_trans (Nat.succ_le_succ hl) (by decide), ?_⟩
    have := pySlice_to (l ++ [32]) 1
    exact ⟨congrArg PV.str this, rfl⟩
  · (conv => whnf)
    refine ⟨fun q => (by cases q), fun z0 => ?_⟩
    refine ⟨fun q => (by cases q), fun z0 => ?_⟩
    refine ⟨by simp, ?_⟩
    refine ⟨fun q => (by cases q), fun z0 => ?_⟩
    refine ⟨by simp, ?_⟩
    exact ⟨fun z0 => ⟨rfl, rfl⟩, fun q => (by cases q)⟩
  · have hp : (pyMul [32] (k : Int)).length = k := by rw [pyMul_one]; simp
    refine ⟨fun q => (by cases q), fun z0 => ?_⟩
    refine ⟨fun q => (by cases q), fun z0 => ?_⟩
    refine ⟨by simp, ?_⟩
    refine ⟨fun q => (by cases q), fun z0 => ?_⟩
    refine ⟨by simp, ?_⟩
    refine ⟨fun q => (by cases q), fun z0 => ?_⟩
    refine ⟨by simp, ?_⟩
    refine ⟨fill_nat (k := k) (Nat.le_trans hk (by decide)), ?_⟩
    refine ⟨by rw [hp]; exact (Nat.le_trans (Nat.add_le_add hl hk) (by decide)), ?_⟩
    refine ⟨by simp, ?_⟩
    refine ⟨by unfold Small; rw [List.length_append, hp]; exact (Nat.le_trans (Nat.add_le_add hl hk) (by decide)), ?_⟩
    exact ⟨congrArg PV.str (pySlice_to _ k), rfl⟩
theorem num_TM (G : Good C ss fns bs fields) {ps : List PV} {c e : Int} {pv : PV} {ah : AH} {Q : PV → AH → Prop} (hv : NumV c e pv) (hE : C.er = some (exA C, codeTM)) : Fn C 70 (adr C.K "value_by") [.tuple ps, pv] ah Q := by
  refine Fn_W (F := F_value_by C.K) (n := 69) rfl G (D_value_by G) C_value_by rfl rfl fun V => ?_
  cases hv with
  | _ =>
    refine ⟨fun q => (by cases q), fun z0 => ?_⟩
    refine ⟨fun z0 => ?_, fun q => (by cases q)⟩
    exact raise_TM G hE rfl
theorem value_by_ok (G : Good C ss fns bs fields) {p : Piece} {q pv : PV} {v : Val} {ah : AH} (hp : PcV C ah (.pc p) q) (ok : PieceOk p) (hv : ValV v pv) (hvo : ValOk v) (hE : putI p v = none → C.er = some (exA C, codeTM)) :
    Fn C 70 (adr C.K "value_by") [q, pv] ah fun r ah' => ∃ t, putI p v = some t ∧ r = .str t ∧ ah' = ah := by
  cases hp with
  | pic hm =>
    cases hv with
    | num hn =>
      refine Fn_W (F := F_value_by C.K) (n := 69) rfl G (D_value_by G) C_value_by rfl rfl fun V => ?_
      have hb := number_by_ok G hm ok hn hvo.1 hvo.2.1 hvo.2.2
      cases hn with
      | _ =>
        refine ⟨⟨_, hm⟩, ?_⟩
        refine ⟨fun z0 => ?_, fun q => (by cases q)⟩
        refine ⟨fun q => (by cases q), fun z0 => ?_⟩
        exact FnP.eq hb (by decide) (i12 _ rfl rfl rfl)
    | txt =>
      refine Fn_W (F := F_value_by C.K) (n := 69) rfl G (D_value_by G) C_value_by rfl rfl fun V => ?_
      refine ⟨⟨_, hm⟩, ?_⟩
      refine ⟨fun z0 => ?_, fun q => (by cases q)⟩
      refine ⟨fun z0 => ?_, fun q => (by cases q)⟩
      exact raise_TM G (hE rfl) rfl
  | first =>
    cases hv with
    | num hn => exact num_TM G hn (hE rfl)
    | txt => exact (text_by G hvo (.inl ⟨rfl, rfl⟩)).mono (Nat.le_refl _) fun r ah' h => (i11 _ rfl h)
  | whole =>
    cases hv with
    | num hn => exact num_TM G hn (hE rfl)
    | txt => exact (text_by G hvo (.inr (.inl ⟨rfl, rfl⟩))).mono (Nat.le_refl _) fun r ah' h => (i11 _ rfl h)
  | wide =>
    cases hv with
    | num hn => exact num_TM G hn (hE rfl)
    | txt => exact (text_by G hvo (.inr (.inr (i12 _ ok rfl rfl)))).mono (Nat.le_refl _) fun r ah' h => (i11 _ rfl h)
/-! ### what is made of pieces and values, in order -/
inductive Cell where
  | pl (s : List Nat)
  | fd (g : Val → Option (List Nat))
inductive UR where
  | go (f : List Nat) (n : Nat)
  | stop (f : List Nat)
  | bad
noncomputable def roundF : List Cell → List Val → List Nat → Nat → UR
  | [], _, f, n => .go f n
  | .pl s :: r, vs, f, n => roundF r vs (f ++ s) n
  | .fd _ :: _, [], f, _ => .stop f
  | .fd g :: r, v :: vs, f, n => (g v).elim .bad fun t => roundF r vs (f ++ t) (n + 1)
noncomputable def runF : Nat → List Cell → List Val → List Nat → Nat → Option (List Nat)
  | 0, _, _, f, _ => some f
  | k + 1, cs, vs, f, n => match roundF cs (vs.drop n) f n with
    | .bad => none
    | .stop g => some g
    | .go g m => if vs.length ≤ m then some g else runF k cs vs g m
noncomputable def cellI : Item → Cell
  | .pl s => .pl s
  | .pc p => .fd (putI p)
inductive ValsV : List Val → List PV → Prop
  | nil : ValsV [] []
  | cons {v p vs ps} : ValV v p → ValsV vs ps → ValsV (v :: vs) (p :: ps)
theorem ValsV.length {vs : List Val} {ps : List PV} (h : ValsV vs ps) : ps.length = vs.length := by
  induction h with
  | nil => rfl
  | cons _ _ ih => simp [ih]
theorem ValsV.get : ∀ {vs ps} {k : Nat}, ValsV vs ps → k < vs.length → ∃ v p, vs.drop k = v :: vs.drop (k + 1) ∧ ps[k]? = some p ∧ ValV v p
  | _, _, k, .nil, h => by simp at h
  | _, _, 0, .cons a _, _ => (i22 _ _ rfl rfl a)
  | _, _, k + 1, .cons _ b, h => by
    refine x22 (b.get (k := k) (by simpa using h)) fun v p h1 h2 h3 => ?_
    exact (i22 v p (by simpa using h1) (by simpa using h2) h3)
noncomputable def ItemOk : Item → Prop
  | .pl _ => True
  | .pc p => PieceOk p
noncomputable def isPl : Item → Bool
  | .pl _ => true
  | _ => false
noncomputable def plLen : List Item → Nat
  | [] => 0
  | .pl s :: r => s.length + plLen r
  | .pc _ :: r => plLen r
noncomputable abbrev uloc (t : List Nat) (w f : Addr) (fd : List Nat) (k : Nat) (pc : Option PV) : Loc := [(Str.ofString "text", some (.str t)), (Str.ofString "values", some (.ref w)), (Str.ofString "pieces", some (.ref f)), (Str.ofString "found", some (.str fd)), (Str.ofString "at", some (.int (k : Int))), (Str.ofString "piece", pc)]
noncomputable def loB : PB → PB
  | .loop _ b _ => b
  | _ => .nil
noncomputable def forB : PB → PB
  | .forin _ _ _ b _ => b
  | _ => .nil
theorem is_plain_I (G : Good C ss fns bs fields) {x : Item} {p : PV} {ah : AH} (h : PcV C ah x p) : Fn C 10 (adr C.K "is_plain") [p] ah fun r ah' => r = .bool (isPl x) ∧ ah' = ah := by
  have := is_plain_ok G h
  cases x <;> exact this
/-- how a round ends -/
structure RoundQ (cs : List Cell) (vals : List Val) (fd : List Nat) (k : Nat) (A0 : AH) (er : Prop) (Qn : List Nat → Nat → Prop) (Qr : Kon) : Prop where
  go : ∀ f m, roundF cs (vals.drop k) fd k = .go f m → Qn f m
  stop : ∀ f, roundF cs (vals.drop k) fd k = .stop f → ∀ loc N, Qr (.str f) ⟨loc, N :: A0⟩
  bad : roundF cs (vals.drop k) fd k = .bad → er
theorem use_round (G : Good C ss fns bs fields) {V : Act C (F_using_text C.K)} {t : List Nat} {w f it : Addr} {PI : Nat → Obj → Prop} {vals : List Val} {ps all : List PV} {A0 : AH} {Qn : St → Prop} {Qr : Kon} (hw : (w, AObj.list ps) ∈ A0) (hf : (f, AObj.list all) ∈ A0) (hv : ValsV vals ps) (hb : ∀ v ∈ vals, ValOk v) (hl : vals.length ≤ 20) :
    ∀ (xs : List Item) (qs : List PV) (i k : Nat) (fd : List Nat) (pc : Option PV), PcsV C A0 xs qs → (∀ x ∈ xs, ItemOk x) → k ≤ vals.length → fd.length + plLen xs + 10000 * (vals.length - k) ≤ 500000 →
      RoundQ (xs.map cellI) vals fd k A0 (C.er = some (exA C, codeTM)) (fun f' m => ∀ pc', Qn ⟨uloc t w f f' m pc', A0⟩) Qr →
      ForW (fun st' Q => Ws V 129 (forB (loB B_using_text_2)) (foB (hd (whB (hd ((prt 22).body.drop 2))))) st' Q Qr Q) 5 (fun ah => (f, AObj.list all) ∈ ah) PI it Qn qs i ⟨uloc t w f fd k pc, A0⟩
  | [], _, i, k, fd, pc, .nil, _, _, _, h => ⟨hf, h.go _ _ rfl pc⟩
  | x :: xs, q :: qs, i, k, fd, pc, .cons hx hxs, hok, hk, hfl, h => by
    refine ⟨hf, ?_⟩
    have hlen := hv.length
    have ih := use_round G (V := V) (t := t) (it := it) (PI := PI) (Qn := Qn) (Qr := Qr) hw hf hv hb hl xs qs (i + 1)
    have hxo := hok _ (.head _)
    have hokr : ∀ y ∈ xs, ItemOk y := fun y hy => hok y (.tail _ hy)
    have hx' := hx.mono (ah' := (it, .raw (PI (i + 1))) :: A0) fun z hz => .tail _ hz
    refine FnP.eq (is_plain_I G hx') (by decide) ?_
    cases x with
    | pl s =>
      cases hx
      refine ⟨fun z0 => ?_, fun q => by cases q⟩
      refine ⟨by simp, ?_⟩
      have hfl : fd.length + (s.length + plLen xs) + 10000 * (vals.length - k) ≤ 500000 := hfl
      refine ⟨by exact (Nat.le_trans (Nat.le_trans (Nat.add_le_add_left (Nat.le_add_right _ _) _) (Nat.le_add_right _ _)) (Nat.le_trans hfl (by decide))), ?_⟩
      exact (i21 [] A0 rfl (ih k (fd ++ s) _ hxs hokr hk (by rw [List.length_append]; (rw [Nat.add_assoc fd.length]; exact hfl)) ⟨h.go, h.stop, h.bad⟩))
    | pc p =>
      have hfl : fd.length + plLen xs + 10000 * (vals.length - k) ≤ 500000 := hfl
      refine ⟨fun q => (by cases q), fun z0 => ?_⟩
      refine ⟨ps, .tail _ hw, by exact (Nat.le_trans (Nat.le_of_eq hlen) (Nat.le_trans hl (by decide))), ?_⟩
      obtain ⟨h1, h2, h3⟩ := h
      refine ⟨fun hc => ?_, fun hc => ?_⟩
      · have hc : k = ps.length := Int.ofNat.inj (of_decide_eq_true hc)
        have hd : vals.drop k = [] := List.drop_of_length_le (by exact (Nat.le_of_eq (hlen.symm.trans hc.symm)))
        rw [hd] at h2
        exact h2 fd rfl _ _
      · have hc : k < vals.length := Nat.lt_of_le_of_ne hk fun e => of_decide_eq_false hc (by rw [hlen, e])
        refine x22 (hv.get hc) fun v pv g1 g2 g3 => ?_
        have hvo := hb v (List.mem_of_mem_drop (i := k) (by rw [g1]; exact .head _))
        rw [g1] at h1 h2 h3
        refine ⟨_, pv, .tail _ hw, by exact (Nat.le_trans (Nat.le_of_eq hlen) (Nat.le_trans hl (by decide))), by unfold pIx; rw [if_pos (Int.natCast_nonneg _), Int.toNat_natCast]; exact g2, ?_⟩
        refine FnP.dr (av := fun z0 => (it, .raw (PI (i + 1))) :: A0) (pv := fun t => .str t) (A := fun t => putI p v = some t) ((value_by_ok G hx' hxo g3 hvo fun e => h3 (by show (putI p v).elim _ _ = _; rw [e]; rfl)).mono (Nat.le_refl _) fun r ah' zz => x12 zz fun t a b c => (i12 t a b c)) (by decide) fun t ht => ?_
        have ht' := put_len ht hxo hvo
        have er : ∀ f n, roundF (.fd (putI p) :: xs.map cellI) (v :: vals.drop (k + 1)) f n = roundF (xs.map cellI) (vals.drop (k + 1)) (f ++ t) (n + 1) := fun f n => by
          show (putI p v).elim _ _ = _
          rw [ht]; rfl
        refine ⟨by exact (Nat.le_trans (Nat.add_le_add (Nat.le_trans (Nat.le_trans (Nat.le_add_right _ _) (Nat.le_add_right _ _)) hfl) ht') (by decide)), ?_⟩
        exact (i21 [] A0 rfl (ih (k + 1) (fd ++ t) _ hxs hokr hc (by rw [List.length_append]; exact (a_ur ht' hc hfl)) ⟨fun f' m e => h1 f' m ((er _ _).trans e), fun f' e => h2 f' ((er _ _).trans e), fun e => h3 ((er _ _).trans e)⟩))
theorem round_go : ∀ (xs : List Item) (vs : List Val) (f : List Nat) (n : Nat) (g : List Nat) (m : Nat), (∀ x ∈ xs, ItemOk x) → (∀ v ∈ vs, ValOk v) → roundF (xs.map cellI) vs f n = .go g m →
    ∃ j, m = n + j ∧ j ≤ vs.length ∧ g.length ≤ f.length + plLen xs + 10000 * j ∧ ((∃ p, .pc p ∈ xs) → 1 ≤ j)
  | [], vs, f, n, g, m, _, _, h => by cases h; exact (i13 0 rfl (Nat.zero_le _) (Nat.le_refl _) (fun ⟨_, h⟩ => nomatch h))
  | .pl s :: r, vs, f, n, g, m, h1, h2, h => by
    refine x13 (round_go r vs (f ++ s) n g m (fun x hx => h1 x (.tail _ hx)) h2 h) fun j a b c d => ?_
    rw [List.length_append] at c
    refine (i13 j a b (by rw [plLen]; exact (Nat.le_trans c (Nat.le_of_eq (congrArg (· + 10000 * j) (Nat.add_assoc _ _ _))))) (fun ⟨p, hp⟩ => d ⟨p, ?_⟩))
    cases hp with | tail _ hp => exact hp
  | .pc p :: r, [], f, n, g, m, h1, h2, h => nomatch h
  | .pc p :: r, v :: vs, f, n, g, m, h1, h2, h => by
    have h : (putI p v).elim .bad (fun t => roundF (r.map cellI) vs (f ++ t) (n + 1)) = .go g m := h
    cases hp : putI p v with
    | none => rw [hp] at h; cases h
    | some t =>
      rw [hp] at h
      refine x13 (round_go r vs (f ++ t) (n + 1) g m (fun x hx => h1 x (.tail _ hx)) (fun x hx => h2 x (.tail _ hx)) h) fun j a b c z0 => ?_
      have := put_len hp (h1 _ (.head _)) (h2 _ (.head _))
      rw [List.length_append] at c
      exact (i13 (j + 1) (by exact (a.trans (Nat.add_right_comm n 1 j))) (Nat.succ_le_succ b) (by rw [plLen]; lia) (fun z0 => Nat.succ_le_succ (Nat.zero_le _)))
theorem Good.on (G : Good C ss fns bs fields) (e : Option (Addr × List Nat)) : Good (C.on e) ss fns bs fields := ⟨G.obs, G.exc, G.sup⟩
theorem PcV.on {e : Option (Addr × List Nat)} {ah : AH} {x : Item} {p : PV} (h : PcV C ah x p) : PcV (C.on e) ah x p := by
  cases h with
  | pl => exact .pl
  | pic hm => exact .pic hm
  | first => exact .first
  | whole => exact .whole
  | wide => exact .wide
theorem PcsV.length {ah : AH} {xs : List Item} {qs : List PV} (h : PcsV C ah xs qs) : qs.length = xs.length := by
  induction h with
  | nil => rfl
  | cons _ _ ih => simp [ih]
noncomputable def pcs (xs : List Item) : Nat := (xs.filter fun x => !isPl x).length
/-- what the comprehension leaves -/
theorem comp_turns (G : Good C ss fns bs fields) {V : Act C (F_using_text C.K)} {n : Nat} {sc : Scope} {xp yp gp cp np : Pos} {it acc : Addr} {P : Nat → Obj → Prop} {keep : AH → Prop} {loc : Loc} {Qn : List PV → AH → Prop} (hn : 10 ≤ n)
    (hkind : sc.kind = .function) (hx : sc.names.lookup (Str.ofString "piece") = some .local) (hg : ∀ L, (compEnvC sc [] L V.env).kindOf (Str.ofString "is_plain") = some .globalImplicit) {ah : AH} (hkeep : keep ah) :
    ∀ (xs : List Item) (qs : List PV) (k : Nat) (out : List PV), PcsV C ah xs qs → (∀ out', out'.length = out.length + pcs xs → Qn out' ah) →
      CTurns (V.on none) n sc [] (Str.ofString "piece") (.Name (Str.ofString "piece") yp) [.UnaryOp .Not (.Call (.Name (Str.ofString "is_plain") gp) [.Name (Str.ofString "piece") xp] [] cp) np] it acc P keep loc Qn qs k out ah
  | [], _, k, out, .nil, h => ⟨hkeep, h out rfl⟩
  | x :: xs, q :: qs, k, out, .cons hx1 hxs, h => by
    have ih := comp_turns G (V := V) (n := n) (sc := sc) (xp := xp) (yp := yp) (gp := gp) (cp := cp) (np := np) (it := it) (acc := acc) (P := P) (keep := keep) (loc := loc) (Qn := Qn) hn hkind hx hg hkeep xs qs (k + 1)
    refine ⟨hkeep, CTt_not (CTt_plain (CEv_call1 ((G.on none).glob (g := Str.ofString "is_plain") (by decide +kernel)) hkind hx (by decide +kernel) hg (by decide +kernel) fun L m => ?_) fun z0 z0 => rfl)⟩
    refine Fn.mono (is_plain_I (G.on none) (hx1.on.mono (ah' := (L, .raw (NsIs m)) :: (it, .raw (P (k + 1))) :: (acc, .list out) :: ah) fun z hz => .tail _ (.tail _ (.tail _ hz)))) hn ?_
    rintro _ _ ⟨rfl, rfl⟩
    refine (i11 _ rfl (i11 (isPl x) rfl ?_))
    have e : pcs (x :: xs) = (if isPl x then 0 else 1) + pcs xs := by
      unfold pcs
      rw [List.filter_cons]
      cases isPl x
      · exact Nat.add_comm ..
      · exact (Nat.zero_add _).symm
    rw [e] at h
    cases hp : isPl x with
    | true =>
      rw [hp] at h
      exact ⟨[], ah, rfl, ih out hxs fun out' ho => h out' (by rw [ho]; simp)⟩
    | false =>
      rw [hp] at h
      exact CEv_name hkind hx (by decide +kernel) ⟨[], ah, rfl, ih (out ++ [q]) hxs fun out' ho => h out' (by rw [ho, List.length_append]; exact Nat.add_assoc ..)⟩
/-- USING's text up to its loop -/
theorem using_front (G : Good C ss fns bs fields) {t : List Nat} {w : Addr} {ps : List PV} {ah : AH} {Q : PV → AH → Prop} (ht : t.length ≤ 1000) (hw : (w, AObj.list ps) ∈ ah) (hl : ps.length ≤ 20)
    (h1 : (itemsOf t = [] ∨ (pcs (itemsOf t) = 0 ∧ 0 < ps.length)) → C.er = some (exA C, codeFC))
    (h2 : ¬ (itemsOf t = [] ∨ (pcs (itemsOf t) = 0 ∧ 0 < ps.length)) → ∀ (V : Act C (F_using_text C.K)) f all N, (f, AObj.list all) ∈ N ++ ah → PcsV C (N ++ ah) (itemsOf t) all → all.length ≤ 2001 →
      Ws V 129 B_using_text_2 ((prt 22).body.drop 2) ⟨uloc t w f [] 0 none, N ++ ah⟩ (fun st => Q .none st.ah) (fun p st => Q p st.ah) fun z0 => False) :
    Fn C 130 (adr C.K "using_text") [.str t, .ref w] ah Q := by
  refine Fn_W (F := F_using_text C.K) (n := 129) rfl G (D_using_text G) C_using_text rfl rfl fun V => ?_
  refine ⟨Fn.mono (read_pieces_ok G (by lia)) (by decide) ?_⟩
  rintro _ _ ⟨f, all, N, rfl, rfl, hf, hps, hpl2⟩
  have h4 := PcsV.length hps
  have hall : all.length ≤ 2001 := by exact (Nat.le_trans hpl2 (Nat.succ_le_succ (Nat.mul_le_mul_left 2 ht)))
  have e : Str.ofString "FC" = ⟨codeFC.toArray⟩ := by decide +kernel
  have go : ∀ (c : Bool) (st : St) (N' : AH), st = ⟨uloc t w f [] 0 none, N' ++ ah⟩ → (f, AObj.list all) ∈ N' ++ ah → PcsV C (N' ++ ah) (itemsOf t) all → c = decide (itemsOf t = [] ∨ (pcs (itemsOf t) = 0 ∧ 0 < ps.length)) →
      (c = true → Ex V 129 (ifA (hd ((prt 22).body.drop 1))) st (fun st1 => Ws V 129 B_using_text_2 ((prt 22).body.drop 2) st1 (fun st => Q .none st.ah) (fun p st => Q p st.ah) fun z0 => False) (fun p st => Q p st.ah) fun z0 => False) ∧
      (c = false → Ex V 129 [] st (fun st1 => Ws V 129 B_using_text_2 ((prt 22).body.drop 2) st1 (fun st => Q .none st.ah) (fun p st => Q p st.ah) fun z0 => False) (fun p st => Q p st.ah) fun z0 => False) := by
    rintro c _ N' rfl hf' hps' rfl
    refine ⟨fun q => ?_, fun q => ?_⟩
    · refine Ex_cons (V := V) (n := 129) (Ex1_raise (n := 124) (code := codeFC) G valE_01 prtE_ok initP_01 (h1 (of_decide_eq_true q)) (by decide +kernel) (mem_of (by kernel_rfl)))
    · exact Ex_nil (h2 (of_decide_eq_false q) V f all N' hf' hps' hall)
  refine ⟨Ex1_if (Tt_or (Tt.mono ((W_at G (.cmp .Eq (.len (.var 2 "pieces")) (.int 0)) _ ⟨by kernel_rfl, by kernel_rfl⟩).2 _ (fun p st' => p = .bool (decide ((all.length : Int) = 0)) ∧ st' = ⟨uloc t w f [] 0 none, N ++ ah⟩) ?_ ?_) fun b st1 hb1 => ?_))⟩
  · (conv => whnf)
    refine ⟨all, hf, by exact (Nat.le_trans hall (by decide)), ?_⟩
    exact ⟨rfl, rfl⟩
  · rintro p st ⟨rfl, _⟩; exact ⟨_, rfl⟩
  obtain ⟨e1, rfl⟩ := hb1
  cases e1
  have e0 : itemsOf t = [] ↔ all.length = 0 := by rw [h4, List.length_eq_zero_iff]
  refine ⟨fun q => (go true _ N rfl hf hps (decide_eq_true (.inl (e0.mpr (by have := of_decide_eq_true q; lia)))).symm), fun q => ?_⟩
  have hne : ¬ itemsOf t = [] := fun z => of_decide_eq_false q (by rw [e0.mp z]; rfl)
  have hfl : pcs (itemsOf t) ≤ 2001 := Nat.le_trans (List.length_filter_le _ _) (h4 ▸ hall)
  refine Tt_or (Tt_and (Tt_cmp (Ev_len G (by decide +kernel) (by kernel_rfl) rfl (Ev_comp (cl := []) rfl (by decide +kernel) rfl (by decide +kernel) rfl (fun z0 => rfl) ?_)) (by with_unfolding_all rfl)))
  refine Ev.mono ((W_at G (.var 2 "pieces") _ ⟨by kernel_rfl, by kernel_rfl⟩).1 _ (fun p st' => p = .ref f ∧ st' = ⟨uloc t w f [] 0 none, N ++ ah⟩) ?_) fun p st' hp => ?_
  · exact ⟨rfl, rfl⟩
  obtain ⟨rfl, rfl⟩ := hp
  refine (i22 all _ (by exact (Nat.le_trans hall (by decide))) (ItOf_list hf (by exact (Nat.le_trans hall (by decide)))) (fun it P acc hacc => ?_))
  refine comp_turns G (by decide) rfl rfl (fun z0 => rfl) hf _ all 0 [] hps fun out hout => ?_
  have hout : out.length = pcs (itemsOf t) := by simpa using hout
  refine Ca_len_list (ps := out) (.head _) (by exact (Nat.le_trans (Nat.le_of_eq hout) (Nat.le_trans hfl (by decide)))) ?_
  refine Ev.mono ((W_at G (.int 0) _ ⟨by kernel_rfl, by kernel_rfl⟩).1 _ (fun p st' => p = .int 0 ∧ st' = ⟨uloc t w f [] 0 none, (acc, .list out) :: (N ++ ah)⟩) ?_) fun p st' hp => ?_
  · exact ⟨rfl, rfl⟩
  obtain ⟨rfl, rfl⟩ := hp
  refine Co_eq_int ?_
  have hf2 : (f, AObj.list all) ∈ ((acc, AObj.list out) :: N) ++ ah := .tail _ hf
  have hps2 : PcsV C (((acc, AObj.list out) :: N) ++ ah) (itemsOf t) all := hps.mono fun z hz => .tail _ hz
  refine ⟨fun q => ?_, fun q => ?_⟩
  · have hp0 : pcs (itemsOf t) = 0 := hout.symm.trans (Int.natCast_eq_zero.mp (of_decide_eq_true q))
    refine Tt_and (Tt.mono ((W_at G (.cmp .Gt (.len (.var 1 "values")) (.int 0)) _ ⟨by kernel_rfl, by kernel_rfl⟩).2 _ (fun p st' => p = .bool (decide ((0 : Int) < (ps.length : Int))) ∧ st' = ⟨uloc t w f [] 0 none, (acc, AObj.list out) :: (N ++ ah)⟩) ?_ ?_) fun b st1 hb1 => ?_)
    · (conv => whnf)
      refine ⟨ps, .tail _ (List.mem_append_right _ hw), by lia, ?_⟩
      exact ⟨rfl, rfl⟩
    · rintro p st ⟨rfl, _⟩; exact ⟨_, rfl⟩
    obtain ⟨e1, rfl⟩ := hb1
    cases e1
    refine ⟨fun z => Tt_and0 ⟨fun z0 => go true _ _ rfl hf2 hps2 (decide_eq_true (.inr ⟨hp0, Int.ofNat_lt.mp (of_decide_eq_true z)⟩)).symm, fun z => (nomatch z)⟩, fun z => ⟨fun z => (nomatch z), fun z0 => Tt_or0 (go false _ _ rfl hf2 hps2 (decide_eq_false fun y => ?_).symm)⟩⟩
    rcases y with y | y
    · exact hne y
    · exact of_decide_eq_false z (Int.ofNat_lt.mpr y.2)
  · refine ⟨fun z => (nomatch z), fun z0 => Tt_or0 (go false _ _ rfl hf2 hps2 (decide_eq_false fun y => ?_).symm)⟩
    rcases y with y | y
    · exact hne y
    · exact of_decide_eq_false q (by rw [hout, y.1]; rfl)
theorem using_FC (G : Good C ss fns bs fields) {t : List Nat} {w : Addr} {ps : List PV} {ah : AH} {Q : PV → AH → Prop} (ht : t.length ≤ 1000) (hw : (w, AObj.list ps) ∈ ah) (hl : ps.length ≤ 20) (h : itemsOf t = [] ∨ (pcs (itemsOf t) = 0 ∧ 0 < ps.length)) (hE : C.er = some (exA C, codeFC)) :
    Fn C 130 (adr C.K "using_text") [.str t, .ref w] ah Q := using_front G ht hw hl (fun z0 => hE) fun q => absurd h q
structure US where
  k : Nat
  fd : List Nat
  pc : Option PV
  n : Nat
theorem using_text_ok (G : Good C ss fns bs fields) {t : List Nat} {w : Addr} {vals : List Val} {ps : List PV} {ah : AH} {its : List Item} (hi : itemsOf t = its) (hok : ∀ x ∈ its, ItemOk x) (hpic : ∃ p, .pc p ∈ its) (hpl : plLen its ≤ 1000) (ht : t.length ≤ 1000)
    (hw : (w, AObj.list ps) ∈ ah) (hv : ValsV vals ps) (hb : ∀ v ∈ vals, ValOk v) (hl : vals.length ≤ 20) {R : Option (List Nat)} (hR : runF (vals.length + 1) (its.map cellI) vals [] 0 = R) (hE : R = none → C.er = some (exA C, codeTM)) :
    Fn C 130 (adr C.K "using_text") [.str t, .ref w] ah fun r ah' => ∃ f, R = some f ∧ r = .str f ∧ ∃ N, ah' = N ++ ah := by
  have hlen := hv.length
  have hpc : 1 ≤ pcs its := by
    obtain ⟨p, hp⟩ := hpic
    exact List.length_pos_of_mem (List.mem_filter.mpr ⟨hp, rfl⟩)
  refine using_front G ht hw (by lia) (fun q => ?_) fun z0 V f all N hf hps hall => ?_
  · rw [hi] at q
    obtain ⟨p, hp⟩ := hpic
    rcases q with rfl | ⟨q, -⟩
    · cases hp
    · rw [q] at hpc; cases hpc
  rw [hi] at hps
  have hw' : (w, AObj.list ps) ∈ N ++ ah := List.mem_append_right _ hw
  refine ⟨US, fun q => ⟨uloc t w f q.fd q.k q.pc, N ++ ah⟩, fun q => q.k ≤ vals.length ∧ q.fd.length ≤ q.k * 11000 ∧ vals.length - q.k ≤ q.n ∧ runF (q.n + 1) (its.map cellI) vals q.fd q.k = R,
    fun q => vals.length - q.k, ⟨0, [], none, vals.length⟩, (i04 rfl (Nat.zero_le _) (Nat.zero_le _) (Nat.sub_le _ _) hR), fun q hq => ?_⟩
  obtain ⟨k, fd, pc, n⟩ := q
  refine x03 hq fun q1 q3 q4 q5 => ?_
  dsimp only at q1 q3 q4 q5
  have rg := fun g m => round_go its (vals.drop k) fd k g m hok fun v hv => hb v (List.mem_of_mem_drop hv)
  rw [List.length_drop] at rg
  rw [runF] at q5
  refine ⟨fun z0 => ?_, fun q => (by cases q)⟩
  refine ⟨all, _, .list hf (by lia), fun PI it hit => ?_⟩
  refine use_round G hw' hf hv hb hl its all 0 k fd pc hps hok q1 (by exact (Nat.le_trans (Nat.add_le_add (Nat.add_le_add (Nat.le_trans q3 (Nat.mul_le_mul_right 11000 (Nat.le_trans q1 hl))) hpl) (Nat.mul_le_mul_left 10000 (Nat.le_trans (Nat.sub_le _ _) hl))) (by decide))) ⟨fun g m e pc' => ?_, fun g e loc M => ?_, fun e => ?_⟩
  · refine x13 (rg g m e) fun j ez0 r1 r2 r3 => ?_
    obtain rfl := ez0
    have r3 := r3 hpic
    rw [e] at q5
    dsimp only at q5
    refine ⟨ps, hw', by exact (Nat.le_trans (Nat.le_of_eq hlen) (Nat.le_trans hl (by decide))), ?_⟩
    refine ⟨fun hc => ?_, fun hc => ?_⟩
    · have hc : k + j = ps.length := Int.ofNat.inj (of_decide_eq_true hc)
      rw [if_pos (by exact (Nat.le_of_eq (hlen.symm.trans hc.symm)))] at q5
      exact (i12 g q5.symm rfl ⟨N, rfl⟩)
    · have hc : ¬ k + j = ps.length := fun z => of_decide_eq_false hc (congrArg Int.ofNat z)
      have hkj : k + j ≤ vals.length := Nat.add_le_of_le_sub' q1 r1
      rw [if_neg (by exact (fun z => hc (Nat.le_antisymm (Nat.le_trans hkj (Nat.le_of_eq hlen.symm)) (Nat.le_trans (Nat.le_of_eq hlen) z))))] at q5
      cases n with
      | zero => exact (absurd (Nat.le_trans r3 (Nat.le_trans r1 q4)) (by decide))
      | succ n =>
        exact (i12 ⟨k + j, g, pc', n⟩ rfl (i03 (by dsimp only; exact (hkj)) (by dsimp only; lia) (by dsimp only; exact (Nat.le_of_lt_succ (Nat.lt_of_lt_of_le (a_vk r3 r1) q4))) q5) (by dsimp only; exact (a_vk r3 r1)))
  · rw [e] at q5
    exact (i12 g q5.symm rfl ⟨M :: N, rfl⟩)
  · rw [e] at q5
    exact hE q5.symm
end Mine
end
section
open PySem PySem.W PyProof.Rows
set_option Elab.async false
set_option tactic.hygienic false
set_option genSizeOf false
set_option genInjectivity false
set_option maxRecDepth 100000
set_option maxHeartbeats 1000000
set_option linter.unusedVariables false
set_option linter.unusedSimpArgs false
namespace Mine
variable {C : Cx}
/-! ### what the law says of a number -/
theorem low_pad {N j : Nat} (h : nz N ≤ j) : ∀ i : Nat, low (j + i) N = List.replicate i 48 ++ low j N
  | 0 => rfl
  | i + 1 => by
    have h0 : N / 10 ^ (j + i) = 0 := Nat.eq_zero_of_not_pos fun q => Nat.not_lt.mpr (Nat.le_trans h (Nat.le_add_right _ _)) ((nz_pos (j + i) N).mp q)
    show low (j + i + 1) N = _
    rw [low_succ, h0, low_pad h i]
    rfl
theorem digits_low (n : Nat) : (Nat.toDigits 10 n).map Char.toNat = low (max (nz n) 1) n := by
  induction n using Nat.strongRecOn with
  | ind n ih =>
    by_cases h : n < 10
    · have e : max (nz n) 1 = 1 := Nat.max_eq_right (nz_le (k := 1) h)
      rw [Nat.toDigits_of_lt_base h, e]
      show [(Nat.digitChar n).toNat] = [48 + n % 10]
      rw [Nat.toNat_digitChar_of_lt_ten h, Nat.mod_eq_of_lt h]
    · have h1 : 1 ≤ nz (n / 10) := (nz_pos 0 (n / 10)).mp (by (rw [Nat.pow_zero, Nat.div_one]; exact Nat.div_pos (Nat.not_lt.mp h) (by decide)))
      have h2 : nz n = nz (n / 10) + 1 := by rw [nz, if_neg (by exact (fun z => h (by rw [z]; decide)))]
      have e : max (nz n) 1 = max (nz (n / 10)) 1 + 1 := by rw [h2, Nat.max_eq_left (Nat.le_add_left 1 _), Nat.max_eq_left h1]
      rw [Nat.toDigits_of_base_le (by decide) (Nat.not_lt.mp h), List.map_append, ih (n / 10) (by exact (Nat.div_lt_self (Nat.lt_of_lt_of_le (show 0 < 10 by decide) (Nat.not_lt.mp h)) (by decide))), e, low]
      show _ ++ [(Nat.digitChar (n % 10)).toNat] = _
      rw [Nat.toNat_digitChar_of_lt_ten (Nat.mod_lt _ (by decide))]
theorem strI_nat (N : Nat) : strI (N : Int) = low (max (nz N) 1) N := by
  rw [← digits_low]
  show (Str.ofString (Nat.repr N)).cps.toList = _
  rw [Nat.repr_eq_ofList_toDigits, PySem.W.Fast.ofString_ofList]
theorem padded_str {N m : Nat} (h : 0 < N ∨ 0 < m) : pyMul [48] ((m : Int) - (low (max (nz N) 1) N).length) ++ low (max (nz N) 1) N = padded N m := by
  rw [pyMul_one, low_len, padded]
  have h1 : 0 < N → 1 ≤ nz N := fun h => (nz_pos 0 N).mp (by simpa using h)
  rcases Nat.le_total m (max (nz N) 1) with hm | hm
  · have e : max (nz N) m = max (nz N) 1 := by exact (Nat.le_antisymm (Nat.max_le.mpr ⟨Nat.le_max_left _ _, hm⟩) (Nat.max_le.mpr ⟨Nat.le_max_left _ _, h.elim (fun z => Nat.le_trans (h1 z) (Nat.le_max_left _ _)) fun z => Nat.le_trans z (Nat.le_max_right _ _)⟩))
    rw [e, show ((m : Int) - ((max (nz N) 1 : Nat) : Int)).toNat = 0 by exact ((Int.toNat_sub _ _).trans (Nat.sub_eq_zero_of_le hm))]
    rfl
  · obtain ⟨i, rfl⟩ := Nat.le.dest hm
    have e : max (nz N) (max (nz N) 1 + i) = max (nz N) 1 + i := by exact (Nat.max_eq_right (Nat.le_trans (Nat.le_max_left _ _) (Nat.le_add_right _ _)))
    rw [e, low_pad (Nat.le_max_left _ _), show (((max (nz N) 1 + i : Nat) : Int) - ((max (nz N) 1 : Nat) : Int)).toNat = i by exact ((Int.toNat_sub _ _).trans (Nat.add_sub_cancel_left ..))]
theorem nd_ge : ∀ N : Nat, 0 < N → 10 ^ (nd N - 1) ≤ N := by
  intro N
  induction N using Nat.strongRecOn with
  | ind N ih =>
    intro h
    unfold nd
    split
    · exact h
    · have h1 := ih (N / 10) (by exact (Nat.div_lt_self h (by decide))) (by exact (Nat.div_pos (Nat.not_lt.mp (by assumption)) (by decide)))
      have h2 : 1 ≤ nd (N / 10) := by unfold nd; split <;> lia
      obtain ⟨k, hk⟩ := Nat.le.dest h2
      rw [← hk] at h1 ⊢
      rw [Nat.add_sub_cancel_left] at h1
      rw [Nat.add_sub_cancel, Nat.add_comm, Nat.pow_succ]
      exact ((Nat.le_div_iff_mul_le (by decide)).mp h1)
theorem nd_pos (N : Nat) : 1 ≤ nd N := by unfold nd; split <;> lia
theorem nz_nd {N : Nat} (h : 0 < N) : max (nz N) 1 = nd N := by
  have h1 := nz_le (nd_lt N)
  have h2 : nd N - 1 < nz N := (nz_pos (nd N - 1) N).mp (Nat.div_pos (nd_ge N h) (Nat.pow_pos (by decide)))
  have := nd_pos N
  rw [Nat.le_antisymm h1 (Nat.le_of_pred_lt h2)]; exact Nat.max_eq_left this
theorem near_le (a u : Nat) : halfEven a u ≤ a / u + 1 := by unfold halfEven; split <;> lia
theorem near_ge (a u : Nat) : a / u ≤ halfEven a u := by unfold halfEven; split <;> lia
theorem near_one (a : Nat) : halfEven a 1 = a := by unfold halfEven; rw [Nat.mod_one, Nat.div_one, if_neg (by lia)]
theorem near_zero {N u : Nat} (h : 2 * N < u) : halfEven N u = 0 := by
  unfold halfEven
  rw [Nat.mod_eq_of_lt (by exact (Nat.lt_of_le_of_lt (Nat.le_mul_of_pos_left N (by decide)) h)), Nat.div_eq_of_lt (by exact (Nat.lt_of_le_of_lt (Nat.le_mul_of_pos_left N (by decide)) h)), if_neg (by exact (fun z => z.elim (fun w => Nat.lt_asymm h w) fun w => Nat.ne_of_lt h w.1))]
theorem near_far {N p : Nat} (h : nd N < p) : halfEven N (10 ^ p) = 0 := by
  have h1 := nd_lt N
  have h2 : 10 ^ nd N * 10 ≤ 10 ^ p := by rw [← Nat.pow_succ]; exact Nat.pow_le_pow_right (by decide) h
  exact near_zero (by exact (Nat.lt_of_lt_of_le (by rw [Nat.mul_comm]; exact Nat.lt_of_lt_of_le (Nat.mul_lt_mul_of_pos_right h1 (by decide)) (Nat.mul_le_mul_left _ (by decide))) h2))
theorem sc_down {N p : Nat} (hp : 0 < p) : sc N (-(p : Int)) = halfEven N (10 ^ p) := by
  rw [sc, if_neg (by exact (Int.not_le.mpr (Int.neg_neg_of_pos (Int.natCast_pos.mpr hp)))), Int.neg_neg, roundedBy, if_neg (by lia)]
  split
  · exact (near_far (by exact (Nat.lt_of_succ_lt (Int.ofNat_lt.mp (show ((nd N + 1 : Nat) : Int) < p by assumption))))).symm
  · rfl
theorem sc_up {N k : Nat} : sc N (k : Int) = N * 10 ^ k := by rw [sc, if_pos (Int.natCast_nonneg _), Int.toNat_natCast]
theorem near_sc (N : Nat) (k : Int) : halfEven (N * 10 ^ (max k 0).toNat) (10 ^ (max (0 - k) 0).toNat) = sc N k := by
  rcases Int.le_total 0 k with h | h
  · obtain ⟨j, rfl⟩ := Int.eq_ofNat_of_zero_le h
    rw [show (max (0 - (j : Int)) 0).toNat = 0 by exact ((congrArg Int.toNat (a_max0 0 j)).trans (Nat.zero_sub j)), show (max (j : Int) 0).toNat = j by exact (congrArg Int.toNat (Int.max_eq_left (Int.natCast_nonneg j))), Nat.pow_zero, near_one, sc_up]
  · obtain ⟨j, hj⟩ := Int.eq_ofNat_of_zero_le (a := -k) (by lia)
    obtain rfl : k = -(j : Int) := by exact ((Int.neg_neg k).symm.trans (congrArg Neg.neg hj))
    rw [show (max (0 - -(j : Int)) 0).toNat = j by (rw [Int.zero_sub, Int.neg_neg]; exact congrArg Int.toNat (Int.max_eq_left (Int.natCast_nonneg j))), show (max (-(j : Int)) 0).toNat = 0 by exact (congrArg Int.toNat (Int.max_eq_right h)), Nat.pow_zero, Nat.mul_one]
    cases j with
    | zero => rw [Nat.pow_zero, near_one]; exact ((sc_up (k := 0)).trans (Nat.mul_one N)).symm
    | succ j => exact (sc_down (Nat.succ_pos _)).symm
theorem sc_big {N m j : Nat} (hN : 0 < N) (hj : 1 ≤ j) : 10 ^ m ≤ sc N ((m : Int) + j - nd N) := by
  have h1 := nd_ge N hN
  have h2 := nd_pos N
  rcases Nat.le_total (nd N) (m + j) with h | h
  · obtain ⟨k, hk⟩ := Nat.le.dest h
    rw [show (m : Int) + j - nd N = (k : Int) by exact (a_s1 hk), sc_up]
    refine Nat.le_trans ?_ (Nat.mul_le_mul_right _ h1)
    rw [← Nat.pow_add]
    exact Nat.pow_le_pow_right (by decide) (by exact (a_s2 hj h2 hk))
  · obtain ⟨k, hk⟩ := Nat.le.dest h
    cases k with
    | zero =>
      rw [show (m : Int) + j - nd N = ((0 : Nat) : Int) by exact (a_s1 (k := 0) hk.symm), sc_up, Nat.pow_zero, Nat.mul_one]
      exact Nat.le_trans (Nat.pow_le_pow_right (by decide) (by exact (a_s2 (k := 0) hj h2 hk.symm))) h1
    | succ k =>
      rw [show (m : Int) + j - nd N = -((k + 1 : Nat) : Int) by exact (a_s3 hk), sc_down (Nat.succ_pos _)]
      refine Nat.le_trans ((Nat.le_div_iff_mul_le (Nat.pow_pos (by decide))).mpr ?_) (near_ge _ _)
      rw [← Nat.pow_add]
      exact Nat.le_trans (Nat.pow_le_pow_right (by decide) (by exact (a_s4 hj hk))) h1
theorem sc_small (N m : Nat) : sc N ((m : Int) - 1 - nd N) < 10 ^ m := by
  have h1 := nd_lt N
  rcases Nat.le_total (nd N + 1) m with h | h
  · obtain ⟨k, hk⟩ := Nat.le.dest h
    rw [show (m : Int) - 1 - nd N = (k : Int) by exact (a_s5 hk), sc_up]
    refine Nat.lt_of_lt_of_le (Nat.mul_lt_mul_of_pos_right h1 (Nat.pow_pos (by decide))) ?_
    rw [← Nat.pow_add]
    exact Nat.pow_le_pow_right (by decide) (by exact (hk ▸ Nat.add_le_add_right (Nat.le_succ _) _))
  · obtain ⟨k, hk⟩ := Nat.le.dest h
    cases k with
    | zero =>
      rw [show (m : Int) - 1 - nd N = ((0 : Nat) : Int) by exact (a_s5 (k := 0) hk.symm), sc_up, Nat.pow_zero, Nat.mul_one]
      exact Nat.lt_of_lt_of_le h1 (Nat.pow_le_pow_right (by decide) (by exact (Nat.le_of_succ_le (Nat.le_of_eq hk.symm))))
    | succ k =>
      rw [show (m : Int) - 1 - nd N = -((k + 1 : Nat) : Int) by exact (a_s6 hk), sc_down (Nat.succ_pos _)]
      cases m with
      | zero => rw [near_far (by exact (Nat.lt_of_lt_of_eq (Nat.lt_succ_self _) (hk.symm.trans (Nat.zero_add _))))]; exact Nat.one_pos
      | succ m =>
        have h3 : N / 10 ^ (k + 1) < 10 ^ m := (Nat.div_lt_iff_lt_mul (Nat.pow_pos (by decide))).mpr (by rw [← Nat.pow_add]; exact Nat.lt_of_lt_of_le h1 (Nat.pow_le_pow_right (by decide) (by exact (Nat.le_of_succ_le_succ (Nat.le_of_eq (hk.symm.trans (Nat.succ_add m (k + 1))))))))
        have h4 := near_le N (10 ^ (k + 1))
        rw [Nat.pow_succ]
        exact (Nat.lt_of_le_of_lt (Nat.le_trans h4 h3) (Nat.pow_lt_pow_right (by decide) (Nat.lt_succ_self m)))
theorem sc_lt' {N : Nat} {k : Int} (hN : N < 2 ^ 62) (hk : k ≤ 300) : sc N k < 10 ^ 400 := by
  have h1 : (2 : Nat) ^ 62 ≤ 10 ^ 19 := by decide
  have h9 : (10 : Nat) ^ 19 * 10 ^ 300 ≤ 10 ^ 400 := by rw [← Nat.pow_add]; exact Nat.pow_le_pow_right (by decide) (by lia)
  have h8 : (10 : Nat) ^ 19 * 1 ≤ 10 ^ 19 * 10 ^ 300 := Nat.mul_le_mul_left _ (Nat.one_le_pow _ _ (by decide))
  unfold sc
  split
  · have h3 : N * 10 ^ k.toNat ≤ N * 10 ^ 300 := Nat.mul_le_mul_left _ (Nat.pow_le_pow_right (by decide) (by exact (Int.toNat_le.mpr hk)))
    have h4 : N * 10 ^ 300 < 10 ^ 19 * 10 ^ 300 := Nat.mul_lt_mul_of_pos_right (by exact (Nat.lt_of_lt_of_le hN h1)) (Nat.pow_pos (by decide))
    exact (Nat.lt_of_le_of_lt h3 (Nat.lt_of_lt_of_le h4 h9))
  · have := roundedBy_le N (-k)
    have h6 : (2 : Nat) ^ 62 < 10 ^ 19 := by decide
    exact (Nat.lt_of_le_of_lt this (Nat.lt_of_le_of_lt hN (Nat.lt_of_lt_of_le h6 (Nat.le_trans (Nat.le_trans (Nat.le_of_eq (Nat.mul_one _).symm) h8) h9))))
/-! ### a drawn number -/
structure SP where
  A : List Nat
  T : List Nat
  l : Nat
  r : Nat
  c : Bool
  pw : Bool
  pt : Bool
noncomputable def marksOf (A : List Nat) : Nat := (A.filter (· != 43)).length
noncomputable def signOf (A Tl : List Nat) : List Nat := if A = [43] then [43, 97, 104, 101, 97, 100] else if Tl = [] then [] else Tl ++ [98, 101, 104, 105, 110, 100]
noncomputable abbrev aheads : List (List Nat) := [[], [43], [42, 42], [36, 36], [42, 42, 36]]
noncomputable abbrev tails : List (List Nat) := [[], [43], [45]]
structure SP.Ok (S : SP) : Prop where
  a : S.A ∈ aheads
  t : S.T ∈ tails
  at_ : S.A = [43] → S.T = []
  l1 : 1 ≤ S.l
  l5 : S.l ≤ 5
  r : S.r ≤ 3
  rp : 0 < S.r → S.pt = true
noncomputable def SP.pic (S : SP) : Pic := ⟨S.l + marksOf S.A + (if S.c then 1 else 0), S.r, S.pt, decide (42 ∈ S.A), decide (36 ∈ S.A), S.c, S.pw, signOf S.A S.T⟩
noncomputable abbrev spF (S : SP) : List (Str × PV) := [(Str.ofString "ahead", .str S.A), (Str.ofString "left", .int S.l), (Str.ofString "tail", .str S.T), (Str.ofString "right", .int S.r), (Str.ofString "comma", .bool S.c), (Str.ofString "power", .bool S.pw), (Str.ofString "point", .bool S.pt)]
noncomputable abbrev spO (C : Cx) (S : SP) : AObj := .raw (DictIs C (spF S))
section
variable {a : Addr} {S : SP} {st : St} {Q : Kon}
theorem d_ahead (hm : (a, spO C S) ∈ st.ah) (h : Q (.str S.A) st) : ItD C a [97, 104, 101, 97, 100] st Q := ⟨Str.ofString "ahead", _, _, by decide +kernel, hm, by simp, h⟩
theorem d_left (hm : (a, spO C S) ∈ st.ah) (h : Q (.int S.l) st) : ItD C a [108, 101, 102, 116] st Q := ⟨Str.ofString "left", _, _, by decide +kernel, hm, by simp, h⟩
theorem d_tail (hm : (a, spO C S) ∈ st.ah) (h : Q (.str S.T) st) : ItD C a [116, 97, 105, 108] st Q := ⟨Str.ofString "tail", _, _, by decide +kernel, hm, by simp, h⟩
theorem d_right (hm : (a, spO C S) ∈ st.ah) (h : Q (.int S.r) st) : ItD C a [114, 105, 103, 104, 116] st Q := ⟨Str.ofString "right", _, _, by decide +kernel, hm, by simp, h⟩
theorem d_comma (hm : (a, spO C S) ∈ st.ah) (h : Q (.bool S.c) st) : ItD C a [99, 111, 109, 109, 97] st Q := ⟨Str.ofString "comma", _, _, by decide +kernel, hm, by simp, h⟩
theorem d_power (hm : (a, spO C S) ∈ st.ah) (h : Q (.bool S.pw) st) : ItD C a [112, 111, 119, 101, 114] st Q := ⟨Str.ofString "power", _, _, by decide +kernel, hm, by simp, h⟩
theorem d_point (hm : (a, spO C S) ∈ st.ah) (h : Q (.bool S.pt) st) : ItD C a [112, 111, 105, 110, 116] st Q := ⟨Str.ofString "point", _, _, by decide +kernel, hm, by simp, h⟩
end
theorem law_near_ok (G : Good C ss fns bs fields) {a u : Nat} {ah : AH} (hu : 0 < u) (hl : u.log2 < 9000) : Fn C 10 (adr C.K "_law_near") [.tuple [.int a, .int u]] ah fun r ah' => r = .int (halfEven a u) ∧ ah' = ah := by
  refine Fn_W (F := F_law_near C.K) (n := 9) rfl G (D_law_near G) C_law_near rfl rfl fun V => ?_
  refine ⟨⟨Int.natCast_pos.mpr hu, hl⟩, ?_⟩
  refine ⟨Int.natCast_pos.mpr hu, ?_⟩
  refine ⟨.inl (by decide), ?_⟩
  refine ⟨.inl (by decide), ?_⟩
  refine ⟨by decide, ?_⟩
  refine ⟨congrArg PV.int ?_, rfl⟩
  unfold halfEven
  have e1 : (a : Int) / u = ((a / u : Nat) : Int) := by simp
  have e2 : (a : Int) % u = ((a % u : Nat) : Int) := by simp
  rw [e1, e2]
  generalize a / u = x
  generalize a % u = y
  split <;> rename_i h <;> simp only [Bool.or_eq_true, Bool.and_eq_true, decide_eq_true_eq] at h
  · rw [if_pos (by exact ((a_half _ _ _).mp h))]; rfl
  · rw [if_neg (by exact (fun z => h ((a_half _ _ _).mpr z)))]; simp
theorem law_lifted_ok (G : Good C ss fns bs fields) {N : Nat} {k : Int} {ah : AH} (hN : N < 2 ^ 62) (h1 : k ≤ 1000) (h2 : -1000 ≤ k) : Fn C 10 (adr C.K "_law_lifted") [.int N, .int k] ah fun r ah' => r = .tuple [.int ((N * 10 ^ (max k 0).toNat : Nat) : Int), .int ((10 ^ (max (0 - k) 0).toNat : Nat) : Int)] ∧ ah' = ah := by
  refine Fn_W (F := F_law_lifted C.K) (n := 9) rfl G (D_law_lifted G) C_law_lifted rfl rfl fun V => ?_
  refine ⟨powSide (by exact (Int.le_max_right _ _)) (by exact (Int.max_le.mpr ⟨h1, by decide⟩)), ?_⟩
  refine ⟨.inl hN, ?_⟩
  refine ⟨powSide (by exact (Int.le_max_right _ _)) (by exact (Int.max_le.mpr ⟨by rw [Int.zero_sub]; exact Int.neg_le_of_neg_le h2, by decide⟩)), ?_⟩
  exact ⟨by simp, rfl⟩
theorem near_sc_ok (G : Good C ss fns bs fields) {N : Nat} {k : Int} {ah : AH} (h2 : -1000 ≤ k) : Fn C 10 (adr C.K "_law_near") [.tuple [.int ((N * 10 ^ (max k 0).toNat : Nat) : Int), .int ((10 ^ (max (0 - k) 0).toNat : Nat) : Int)]] ah fun r ah' => r = .int (sc N k) ∧ ah' = ah := by
  have := log10 (k := (max (0 - k) 0).toNat) (by exact (Int.toNat_le.mpr (Int.max_le.mpr ⟨by rw [Int.zero_sub]; exact Int.neg_le_of_neg_le h2, by decide⟩)))
  rw [Int.natAbs_pow] at this
  rw [← near_sc N k]
  exact law_near_ok G (Nat.pow_pos (by decide)) this
theorem law_figures_ok (G : Good C ss fns bs fields) {N m : Nat} {ah : AH} (hN : N < 10 ^ 400) (hm : m ≤ 1000) : Fn C 10 (adr C.K "_law_figures") [.int N, .int m] ah fun r ah' => r = .str (padded N m) ∧ ah' = ah := by
  refine Fn_W (F := F_law_figures C.K) (n := 9) rfl G (D_law_figures G) C_law_figures rfl rfl fun V => ?_
  have hz := nz_le hN
  have hlog : (N : Int).natAbs.log2 < 1920 := by
    show N.log2 < 1920
    by_cases h0 : N = 0
    · subst h0; decide
    · refine (Nat.log2_lt h0).mpr (Nat.lt_trans hN (Nat.lt_of_le_of_lt (Nat.pow_le_pow_left (m := 16) (by decide) 400) ?_))
      rw [show 16 = 2 ^ 4 from rfl, ← Nat.pow_mul]
      exact Nat.pow_lt_pow_right (by decide) (by decide)
  clear hN
  have hlen : (low (max (nz N) 1) N).length ≤ 400 := by rw [low_len]; exact (Nat.max_le.mpr ⟨hz, by decide⟩)
  refine ⟨hlog, ?_⟩
  rw [strI_nat]
  refine ⟨fun h => ?_, fun h => ?_⟩ <;> simp only [Bool.or_eq_true, Bool.or_eq_false_iff, decide_eq_true_eq, decide_eq_false_iff_not] at h
  · have hp := padded_str (N := N) (m := m) (by exact (h.imp Int.natCast_pos.mp Int.natCast_pos.mp))
    generalize low (max (nz N) 1) N = t at hlen hp
    have hq : (pyMul [48] ((m : Int) - t.length)).length ≤ 1000 := by rw [pyMul_one, List.length_replicate]; exact ((a_dif hm hlen).2.2)
    refine ⟨by unfold Small; lia, ?_⟩
    refine ⟨(i02 (by exact ((a_dif hm hlen).1)) (by exact ((a_dif hm hlen).2.1)) (by simp only [List.length_cons, List.length_nil]; exact (Nat.le_trans (Nat.le_of_eq (Nat.one_mul _)) (Nat.le_trans (a_dif hm hlen).2.2 (by decide))))), ?_⟩
    refine ⟨by exact (Nat.le_trans (Nat.add_le_add hq hlen) (by decide)), ?_⟩
    rw [hp]
    exact ⟨rfl, rfl⟩
  · (conv => whnf)
    obtain rfl : N = 0 := by exact (Nat.eq_zero_of_not_pos fun z => h.1 (Int.natCast_pos.mpr z))
    obtain rfl : m = 0 := by exact (Nat.eq_zero_of_not_pos fun z => h.2 (Int.natCast_pos.mpr z))
    refine ⟨?_, rfl⟩
    have : nz 0 = 0 := by rw [nz]; rfl
    rw [padded, this]; rfl
theorem A_len {A : List Nat} (h : A ∈ aheads) : A.length ≤ 3 := by
  have : ∀ A ∈ aheads, A.length ≤ 3 := by decide
  exact this A h
theorem T_len {T : List Nat} (h : T ∈ tails) : T.length ≤ 1 := by
  have : ∀ A ∈ tails, A.length ≤ 1 := by decide
  exact this T h
theorem marks_le {A : List Nat} (h : A ∈ aheads) : marksOf A ≤ 3 := Nat.le_trans (List.length_filter_le _ _) (A_len h)
theorem law_places_ok (G : Good C ss fns bs fields) {a : Addr} {S : SP} {ah : AH} (hm : (a, spO C S) ∈ ah) (ok : S.Ok) : Fn C 10 (adr C.K "_law_places") [.ref a] ah fun r ah' => r = .int S.pic.left ∧ ah' = ah := by
  refine Fn_W (F := F_law_places C.K) (n := 9) rfl G (D_law_places G) C_law_places rfl rfl fun V => ?_
  have := A_len ok.a
  have := marks_le ok.a
  refine d_left hm ?_
  refine ⟨(i33 (Str.ofString "ahead") _ (.str S.A) rfl hm (by simp) ?_)⟩
  refine ⟨by lia, ?_⟩
  refine ⟨by have h : marksOf S.A < 1000000 := by exact (Nat.lt_of_le_of_lt this (by decide))
             unfold Small; exact Nat.le_of_lt h, ?_⟩
  refine d_comma hm ?_
  refine ⟨congrArg PV.int ?_, rfl⟩
  show (S.l : Int) + (marksOf S.A : Int) + _ = ((S.l + marksOf S.A + _ : Nat) : Int)
  split <;> lia
theorem lift_spec {P : Pic} {N : Nat} {e l : Int} (hN : 0 < N) (h1 : e + nd N - exPl P - 2 ≤ l) (h2 : l ≤ liftOf P N e) : 10 ^ (exPl P + P.right) ≤ sc N (e - l + P.right) ↔ l < liftOf P N e := by
  have b := fun j => sc_big (N := N) (m := exPl P + P.right) (j := j) hN
  have s := sc_small N (exPl P + P.right)
  unfold liftOf at h2 ⊢
  by_cases c2 : l = e + nd N - exPl P - 2
  · have := b 2 (by decide)
    rw [show ((exPl P + P.right : Nat) : Int) + (2 : Nat) - nd N = e - l + P.right by exact (a_l1 (r := P.right) c2)] at this
    exact ⟨fun z0 => a_l2 (by decide) c2, fun z0 => this⟩
  by_cases c1 : l = e + nd N - exPl P - 1
  · have := b 1 (by decide)
    rw [show ((exPl P + P.right : Nat) : Int) + (1 : Nat) - nd N = e - l + P.right by exact (a_l1 (r := P.right) c1)] at this
    exact ⟨fun z0 => a_l2 (by decide) c1, fun z0 => this⟩
  by_cases c0 : l = e + nd N - exPl P
  · subst c0
    split <;> rename_i h
    · exact ⟨fun z0 => by lia, fun z0 => h⟩
    · exact ⟨fun z => absurd z h, fun z => absurd z (Int.lt_irrefl _)⟩
  · have e1 : l = e + nd N - exPl P + 1 := a_l3 h1 h2 c2 c1 c0
    rw [show ((exPl P + P.right : Nat) : Int) - 1 - nd N = e - l + P.right by exact (a_l4 (r := P.right) e1)] at s
    refine ⟨fun z => absurd z (Nat.not_le.mpr s), fun z => ?_⟩
    exact (a_l5 e1 z).elim
theorem law_by_power_ok (G : Good C ss fns bs fields) {a : Addr} {S : SP} {N : Nat} {e : Int} {ah : AH} (hm : (a, spO C S) ∈ ah) (ok : S.Ok) (hN : N < 2 ^ 62) (h1 : e ≤ 100) (h2 : -100 ≤ e) :
    Fn C 20 (adr C.K "_law_by_power") [.ref a, .int N, .int e] ah fun r ah' => r = .tuple [.str ((withExp S.pic N e).1 ++ (withExp S.pic N e).2.1), .str (withExp S.pic N e).2.2, .int (exPl S.pic)] ∧ ah' = ah := by
  refine Fn_W (F := F_law_by_power C.K) (n := 19) rfl G (D_law_by_power G) C_law_by_power rfl rfl fun V => ?_
  have hmk := marks_le ok.a
  have hr := ok.r
  have l1 := ok.l1
  have l5 := ok.l5
  have hpr : S.pic.right = S.r := rfl
  have hpl : S.pic.left = S.l + marksOf S.A + (if S.c then 1 else 0) := rfl
  have hx : (S.pic.left : Int) - (if (!decide (S.A = [43]) && decide (S.T = [])) = true then 1 else 0) = ((exPl S.pic : Nat) : Int) := by
    have : (!decide (S.A = [43]) && decide (S.T = [])) = decide (S.pic.sign = []) := by
      show _ = decide (signOf S.A S.T = [])
      unfold signOf
      by_cases hA : S.A = [43]
      · rw [if_pos hA]; simp [hA]
      · rw [if_neg hA]
        by_cases hT : S.T = [] <;> simp [hA, hT]
    unfold exPl
    rw [this]
    by_cases hs : S.pic.sign = []
    · rw [if_pos (decide_eq_true hs), if_pos hs]; exact ((Int.ofNat_sub (show 1 ≤ S.pic.left from Nat.le_trans l1 (Nat.le_trans (Nat.le_add_right _ (marksOf S.A)) (Nat.le_add_right _ _)))).symm)
    · rw [if_neg (by simpa using hs), if_neg hs]; lia
  have hx9 : exPl S.pic ≤ 9 := Nat.le_trans (Nat.sub_le _ _) (Nat.le_trans (Nat.add_le_add (Nat.add_le_add l5 hmk) a_c1) (by decide))
  refine FnP.eq (law_places_ok G hm ok) (by decide) ?_
  refine d_ahead hm ?_
  refine d_tail hm ?_
  (conv => whnf)
  rw [hx]
  clear hx hpl
  generalize hpx : exPl S.pic = x at hx9
  refine ⟨fun hc => ?_, fun hc => ?_⟩
  · obtain rfl : N = 0 := Int.ofNat.inj (of_decide_eq_true hc)
    refine d_right hm ?_
    refine ⟨fill_nat (k := x + S.r) (Nat.le_trans (Nat.add_le_add hx9 hr) (by decide)), ?_⟩
    refine ⟨?_, rfl⟩
    rw [withExp, if_pos rfl, hpx, pyMul_one, List.replicate_append_replicate, hpr]
    rfl
  have hc : 0 < N := Nat.pos_of_ne_zero fun q => of_decide_eq_false hc (by rw [q]; rfl)
  have hnd := nd20 hN
  have hlift := fun l => lift_spec (P := S.pic) (N := N) (e := e) (l := l) hc
  have hL : e + nd N - x ≤ liftOf S.pic N e ∧ liftOf S.pic N e ≤ e + nd N - x + 1 := by
    unfold liftOf; rw [hpx]; split <;> lia
  rw [hpr, hpx] at hlift
  have hexp : withExp S.pic N e = ((padded (sc N (e - liftOf S.pic N e + S.r)) (x + S.r)).take x, (padded (sc N (e - liftOf S.pic N e + S.r)) (x + S.r)).drop x, expTold (liftOf S.pic N e)) := by
    rw [withExp, if_neg (Nat.ne_of_gt hc), expFig, hpx, hpr]
  have hlog : (N : Int).natAbs.log2 < 1920 := Nat.lt_trans ((Nat.log2_lt (Nat.ne_of_gt hc)).mpr hN) (by decide)
  refine ⟨hlog, ?_⟩
  rw [strI_nat, nz_nd hc]
  refine ⟨len_small (by rw [low_len]; lia), ?_⟩
  rw [low_len]
  refine ⟨Int, fun l => ⟨[(Str.ofString "spec", some (.ref a)), (Str.ofString "size", some (.int N)), (Str.ofString "power", some (.int e)), (Str.ofString "room", some (.int x)), (Str.ofString "lift", some (.int l)), (Str.ofString "units", none), (Str.ofString "told", none)], ah⟩,
    fun l => e + nd N - x - 2 ≤ l ∧ l ≤ liftOf S.pic N e, fun l => (liftOf S.pic N e - l).toNat, e + nd N - x - 2, (i02 rfl (by lia) (by exact (Int.le_trans (Int.sub_le_self _ (by decide)) hL.1))), fun l hl => ?_⟩
  have hl' := hlift l hl.1 hl.2
  clear hlift
  obtain ⟨g1, g2⟩ := hl
  generalize liftOf S.pic N e = L at *
  refine d_right hm ?_
  refine FnP.eq (law_lifted_ok G hN (by exact (Int.le_trans (a_p1 hr hx9 g1) (by decide))) (by exact (a_p2 hnd hL.2 g2))) (by decide) ?_
  refine FnP.eq (near_sc_ok G (by exact (a_p2 hnd hL.2 g2))) (by decide) ?_
  refine d_right hm ?_
  refine ⟨powSide (by lia) (by exact (Int.ofNat_le.mpr (Nat.le_trans (Nat.add_le_add hx9 hr) (by decide)))), ?_⟩
  have e2 : ((10 : Int) ^ ((x : Int) + (S.r : Int)).toNat) = ((10 ^ (x + S.r) : Nat) : Int) := by rw [show ((x : Int) + (S.r : Int)).toNat = x + S.r by exact (rfl), Int.natCast_pow]; rfl
  (conv => whnf)
  rw [e2]
  refine ⟨fun hd => ?_, fun hd => ?_⟩
  · have hd := hl'.mp (Int.ofNat_le.mp (of_decide_eq_true hd))
    exact (i12 (l + 1) rfl ⟨by exact (Int.le_trans g1 (Int.le_add_of_nonneg_right (by decide))), by exact (hd)⟩ (a_p3 hd))
  · have hd : ¬ l < L := fun z => of_decide_eq_false hd (Int.ofNat_le.mpr (hl'.mpr z))
    obtain rfl : l = L := by exact (Int.le_antisymm g2 (Int.not_lt.mp hd))
    refine d_right hm ?_
    refine FnP.eq (law_lifted_ok G hN (by exact (Int.le_trans (a_p1 hr hx9 g1) (by decide))) (by exact (a_p2 hnd hL.2 g2))) (by decide) ?_
    refine FnP.eq (near_sc_ok G (by exact (a_p2 hnd hL.2 g2))) (by decide) ?_
    have hu : sc N (e - l + S.r) < 10 ^ 400 := sc_lt' hN (by exact (a_p1 hr hx9 g1))
    clear e2 hl'
    generalize sc N (e - l + S.r) = u at *
    have ea := a_ab l
    refine ⟨by split <;> simp, ?_⟩
    (conv => whnf)
    rw [ea]
    have hl3 : l.natAbs < 10 ^ 3 := by exact (Nat.lt_of_le_of_lt (a_abs (a_p4 h1 h2 hx9 hnd hL)) (by decide))
    refine FnP.eq (law_figures_ok G (N := l.natAbs) (m := 2) (Nat.lt_of_lt_of_le hl3 (Nat.pow_le_pow_right (by decide) (by decide))) (by decide)) (by decide) ?_
    have ht : (padded l.natAbs 2).length ≤ 3 := by
      have := nz_le hl3
      rw [padded, low_len]; exact (Nat.max_le.mpr ⟨this, by decide⟩)
    refine ⟨by split <;> simp only [List.length_append, List.length_cons, List.length_nil] <;> lia, ?_⟩
    refine d_right hm ?_
    refine FnP.eq (law_figures_ok G (m := x + S.r) hu (by exact (Nat.le_trans (Nat.add_le_add hx9 hr) (by decide)))) (by decide) ?_
    refine ⟨?_, rfl⟩
    rw [hexp]
    dsimp only
    rw [List.take_append_drop, expTold]
    by_cases h0 : l < 0 <;> simp [h0]
/-! ### the law's own groups of three -/
noncomputable def gS : List Nat → List Nat
  | [] => []
  | c :: r => (if (r.length + 1) % 3 = 0 then [44] else []) ++ c :: gS r
noncomputable def gL : List Nat → List Nat
  | [] => []
  | c :: r => c :: gS r
theorem gS_three : ∀ (x y : List Nat), y.length = 3 → gS (x ++ y) = gS x ++ gS y
  | [], _, _ => rfl
  | c :: x, y, h => by
    show (if ((x ++ y).length + 1) % 3 = 0 then [44] else []) ++ c :: gS (x ++ y) = ((if (x.length + 1) % 3 = 0 then [44] else []) ++ c :: gS x) ++ gS y
    have e : (x.length + 3 + 1) % 3 = (x.length + 1) % 3 := Nat.add_mod_right (x.length + 1) 3 ▸ rfl
    rw [gS_three x y h, List.length_append, h, e, List.append_assoc]
    rfl
theorem grp_gL : ∀ (n : Nat) (l : List Nat), l.length ≤ n → grp l = gL l
  | 0, l, h => by obtain rfl := List.length_eq_zero_iff.mp (Nat.le_zero.mp h); exact grp_short (by decide)
  | n + 1, l, h => by
    by_cases h3 : l.length ≤ 3
    · rw [grp_short h3]
      match l, h3 with
      | [], _ => rfl
      | [_], _ => rfl
      | [_, _], _ => rfl
      | [_, _, _], _ => rfl
    · have hl : (l.take (l.length - 3)).length = l.length - 3 := List.length_take_of_le (Nat.sub_le _ _)
      have hd : (l.drop (l.length - 3)).length = 3 := by rw [List.length_drop]; exact (Nat.sub_sub_self (Nat.le_of_lt (Nat.not_le.mp h3)))
      rw [grp_long (Nat.not_le.mp h3), grp_gL n _ (by exact (Nat.le_trans (Nat.le_of_eq hl) (Nat.sub_le_of_le_add (Nat.le_trans h (Nat.add_le_add_left (by decide) n)))))]
      conv => rhs; rw [← List.take_append_drop (l.length - 3) l]
      generalize l.take (l.length - 3) = x at hl
      generalize l.drop (l.length - 3) = y at hd
      have hy : gS y = 44 :: y := by match y, hd with | [_, _, _], _ => simp [gS]
      cases x with
      | nil => exact absurd hl (Nat.ne_of_lt (Nat.sub_pos_of_lt (Nat.not_le.mp h3)))
      | cons c x => show c :: gS x ++ 44 :: y = c :: gS (x ++ y); rw [gS_three x y hd, hy]; rfl
theorem gS_len : ∀ l : List Nat, (gS l).length ≤ 2 * l.length
  | [] => Nat.le_refl _
  | c :: r => by
    have := gS_len r
    show ((if (r.length + 1) % 3 = 0 then [44] else []) ++ c :: gS r).length ≤ _
    rw [List.length_append]
    exact Nat.le_trans (Nat.add_le_add (lenI (k := 1) (by decide) (by decide)) (Nat.succ_le_succ this)) (Nat.le_of_eq (Nat.add_comm 1 _))
noncomputable abbrev grT : PT := .tup (.cons (.name 2 "at") (.cons (.name 3 "sign") .nil))
noncomputable def grB : PB :=
  (.asg 4 "left" (.bin .Sub (.len (.var 0 "figures")) (.var 2 "at"))
  (.asg 1 "found" (.bin .Add (.bin .Add (.var 1 "found") (.ifj (.and (.cmp .Gt (.var 2 "at") (.int 0)) (.cmp .Eq (.bin .Mod (.var 4 "left") (.int 3)) (.int 0))) (.str [44]) (.str []))) (.var 3 "sign"))
  .nil))
noncomputable abbrev grX : Stmt := hd ((prt 31).body.drop 1)
noncomputable abbrev grE : Expr := svS grX
theorem grX_eq : grX = .For (.Tuple (kids (tgS grX)) (knd (tgS grX)) (tgS grX).pos) (.Call (.Name (Str.ofString "enumerate") (kid grE 0).pos) [kid grE 1] [] grE.pos) (foB grX) [] grX.pos := by kernel_rfl
theorem grT_ok : okT ⟨["figures", "found", "at", "sign", "left"], ["enumerate", "len"], fns, bs⟩ grT (.Tuple (kids (tgS grX)) (knd (tgS grX)) (tgS grX).pos) = true ∧ rebT grT (.Tuple (kids (tgS grX)) (knd (tgS grX)) (tgS grX).pos) = .Tuple (kids (tgS grX)) (knd (tgS grX)) (tgS grX).pos := ⟨by kernel_rfl, by kernel_rfl⟩
theorem grB_ok : okB ⟨["figures", "found", "at", "sign", "left"], ["enumerate", "len"], fns, bs⟩ grB (foB grX) = true ∧ rebB grB (foB grX) = foB grX := ⟨by kernel_rfl, by kernel_rfl⟩
section
variable {F : FnI} {V : Act C F} {n : Nat}
theorem T_at (G : Good C ss fns bs fields) {t : PT} {x : Expr} {k : Ck} (hk : F.ck fns bs = k) (h : okT k t x = true ∧ rebT t x = x) {p : PV} {st : St} {Q : St → Prop} (hW : WT C n t p st Q) : As V n x p st Q := by
  have := WT_as (V := V) (n := n) G t x (by rw [hk]; exact h.1) p st Q hW
  rwa [h.2] at this
theorem B_at (G : Good C ss fns bs fields) {b : PB} {xs : List Stmt} {k : Ck} (hk : F.ck fns bs = k) (h : okB k b xs = true ∧ rebB b xs = xs) {st : St} {Qn : St → Prop} {Qr : Kon} {Qc : St → Prop} (hW : Ws V n b xs st Qn Qr Qc) : Ex V n xs st Qn Qr Qc := by
  have := Ws_ex (V := V) (n := n) G b xs (by rw [hk]; exact h.1) st Qn Qr Qc hW
  rwa [h.2] at this
end
theorem gr_turns (G : Good C ss fns bs fields) {V : Act C (F_law_grouped C.K)} {l : List Nat} {e it : Addr} {y : Str} {ah : AH} {Qn : Loc → Prop} (hl : l.length ≤ 2000) (hQ : ∀ o1 o2 o3, Qn [(Str.ofString "figures", some (.str l)), (Str.ofString "found", some (.str (gL l))), (Str.ofString "at", o1), (Str.ofString "sign", o2), (Str.ofString "left", o3)]) :
    ∀ (r : List Nat) (k : Nat) (fd : List Nat) (o1 o2 o3 : Option PV), k + r.length = l.length → fd.length ≤ 2 * k → fd ++ (if k = 0 then gL r else gS r) = gL l →
      EnT V 9 (.Tuple (kids (tgS grX)) (knd (tgS grX)) (tgS grX).pos) (foB grX) e it y ah Qn r k [(Str.ofString "figures", some (.str l)), (Str.ofString "found", some (.str fd)), (Str.ofString "at", o1), (Str.ofString "sign", o2), (Str.ofString "left", o3)]
  | [], k, fd, o1, o2, o3, hk, hf, h => by
    have : fd = gL l := by rw [← h]; split <;> exact (List.append_nil _).symm
    rw [this]
    exact hQ _ _ _
  | c :: r, k, fd, o1, o2, o3, hk, hf, h => by
    rw [List.length_cons] at hk
    refine T_at G (t := grT) rfl grT_ok ?_
    refine ⟨rfl, B_at G rfl grB_ok ?_⟩
    refine ⟨len_small (by lia), ?_⟩
    refine ⟨by decide, ?_⟩
    have hfd : fd.length ≤ 4000 := Nat.le_trans hf (Nat.mul_le_mul_left 2 (Nat.le_trans (Nat.le_trans (Nat.le_add_right _ _) (Nat.le_of_eq hk)) hl))
    refine ⟨Nat.le_trans (Nat.add_le_add hfd (lenI (k := 1) (by decide) (by decide))) (by decide), ?_⟩
    refine ⟨by rw [List.length_append]; exact Nat.le_trans (Nat.add_le_add (Nat.add_le_add hfd (lenI (k := 1) (by decide) (by decide))) (Nat.le_refl 1)) (by decide), ?_⟩
    refine ⟨rfl, gr_turns G hl hQ r (k + 1) _ _ _ _ (by lia) ?_ ?_⟩
    · rw [List.length_append, List.length_append]
      show _ ≤ 2 * k + 1 + 1
      exact Nat.add_le_add (Nat.add_le_add hf (lenI (k := 1) (by decide) (by decide))) (Nat.le_refl 1)
    · rw [if_neg (Nat.succ_ne_zero k), ← h]
      have e1 : ((l.length : Int) - k) % 3 = (((r.length + 1) % 3 : Nat) : Int) := by rw [← hk, Int.natCast_add, Int.add_comm, Int.add_sub_cancel]; rfl
      rw [e1]
      by_cases h0 : k = 0
      · rw [if_pos h0, if_neg (fun z => absurd (of_decide_eq_true (Bool.and_eq_true_iff.mp z).1) (by rw [h0]; decide)), List.append_nil, List.append_assoc]; rfl
      · rw [if_neg h0]
        by_cases h3 : (r.length + 1) % 3 = 0
        · rw [if_pos (by rw [h3]; exact Bool.and_eq_true_iff.mpr ⟨decide_eq_true (Int.natCast_pos.mpr (Nat.pos_of_ne_zero h0)), rfl⟩)]; simp [gS, h3]
        · rw [if_neg fun z => h3 (Int.natCast_eq_zero.mp (of_decide_eq_true (Bool.and_eq_true_iff.mp z).2))]; simp [gS, h3]
theorem law_grouped_ok (G : Good C ss fns bs fields) {l : List Nat} {ah : AH} (hl : l.length ≤ 2000) : Fn C 10 (adr C.K "_law_grouped") [.str l] ah fun r ah' => r = .str (grp l) ∧ ah' = ah := by
  refine Fn_W (F := F_law_grouped C.K) (n := 9) rfl G (D_law_grouped G) C_law_grouped rfl rfl fun V => ?_
  refine ⟨?_⟩
  show Ex1 V 9 grX _ _ _ _
  rw [grX_eq]
  refine Ex1_enum (fun z0 => rfl) (Ev_tcall (G.bi (by decide +kernel) bo_enum (by decide +kernel)) (mem_of (by kernel_rfl)) rfl ?_)
  refine Ev.mono ((W_at G (.var 0 "figures") _ ⟨by kernel_rfl, by kernel_rfl⟩).1 _ (fun p st' => p = .str l ∧ st' = ⟨[(Str.ofString "figures", some (.str l)), (Str.ofString "found", some (.str [])), (Str.ofString "at", none), (Str.ofString "sign", none), (Str.ofString "left", none)], ah⟩) ?_) fun p st' hp => ?_
  · exact ⟨rfl, rfl⟩
  obtain ⟨rfl, rfl⟩ := hp
  refine Ca_enum fun y e it hy => (i42 e it y ah rfl rfl ?_)
  refine gr_turns G hl (fun o1 o2 o3 => ?_) _ 0 [] none none none (by rw [hy]; exact Nat.zero_add _) (Nat.zero_le _) (by rw [hy]; rfl)
  exact ⟨by rw [grp_gL _ l (Nat.le_refl _)], rfl⟩
/-! ### the law's number in full -/
theorem sp_ok {S : SP} (ok : S.Ok) : PicOk S.pic := by
  have h1 := ok.l5
  have h2 := ok.r
  have h3 := marks_le ok.a
  have h4 := T_len ok.t
  refine ⟨?_, Nat.le_trans h2 (by decide), ?_⟩
  · show S.l + marksOf S.A + (if S.c then 1 else 0) ≤ 100
    exact Nat.le_trans (Nat.add_le_add (Nat.add_le_add h1 h3) a_c1) (by decide)
  · show (signOf S.A S.T).length ≤ 10
    unfold signOf
    split
    · decide
    · split
      · decide
      · rw [List.length_append]; exact Nat.le_trans (Nat.add_le_add h4 (Nat.le_refl 6)) (by decide)
noncomputable abbrev picS (A T : List Nat) : Pic := ⟨0, 0, false, false, false, false, false, signOf A T⟩
noncomputable abbrev endOf (T : List Nat) (neg : Bool) : List Nat := if T = [] then [] else if T = [43] then (if neg then [45] else [43]) else (if neg then [45] else [32])
theorem sign_all : ∀ A ∈ aheads, ∀ T ∈ tails, (A = [43] → T = []) → ∀ neg : Bool, leadOf (picS A T) neg = (if decide (A = [43]) = true then (if neg = true then [45] else [43]) else if (neg && decide (T = [])) = true then [45] else []) ∧
    tailOf (picS A T) neg = endOf T neg ∧ widthOf (picS A T) = (if decide (A = [43]) = true then 1 else 0) := by decide +kernel
theorem sp_lead {S : SP} (ok : S.Ok) (neg : Bool) : (if decide (S.A = [43]) = true then (if neg = true then [45] else [43]) else if (neg && decide (S.T = [])) = true then [45] else []) ++ (if decide (36 ∈ S.A) = true then [36] else []) = leadD S.pic neg := by
  rw [← (sign_all _ ok.a _ ok.t ok.at_ neg).1]; rfl
theorem sp_end {S : SP} (ok : S.Ok) (neg : Bool) : ∃ key : Str, key.cps.toList = S.T ∧ (key, PV.str (tailOf S.pic neg)) ∈ (["", "+", "-"].map Str.ofString).zip [PV.str [], .str (if neg = true then [45] else [43]), .str (if neg = true then [45] else [32])] := by
  have e : tailOf S.pic neg = endOf S.T neg := (sign_all _ ok.a _ ok.t ok.at_ neg).2.1
  rw [e]
  have h := ok.t
  generalize S.T = T at h
  simp only [tails, List.mem_cons, List.not_mem_nil, or_false] at h
  rcases h with rfl | rfl | rfl
  · exact (i11 _ rfl (.head _))
  · exact (i11 (Str.ofString "+") (by decide +kernel) (.tail _ (.head _)))
  · exact (i11 (Str.ofString "-") (by decide +kernel) (.tail _ (.tail _ (.head _))))
theorem sp_width {S : SP} (ok : S.Ok) : (S.pic.left : Int) + (if decide (S.A = [43]) = true then 1 else 0) = (widthOf S.pic : Int) := by
  have h := (sign_all _ ok.a _ ok.t ok.at_ false).2.2
  have e : widthOf S.pic = S.pic.left + widthOf (picS S.A S.T) := by
    show S.pic.left + _ = S.pic.left + (0 + _)
    rw [Nat.zero_add]; rfl
  rw [e, h]
  split <;> rfl
noncomputable abbrev shl (a : Addr) (v sz pw : PV) (neg : Bool) (fg : Option PV) (T : List Nat) (rm : Option PV) (A B : List Nat) (r : Loc) : Loc := (Str.ofString "spec", some (.ref a)) :: (Str.ofString "value", some v) :: (Str.ofString "size", some sz) :: (Str.ofString "power", some pw) :: (Str.ofString "is_below", some (.bool neg)) ::
  (Str.ofString "figures", fg) :: (Str.ofString "told", some (.str T)) :: (Str.ofString "room", rm) :: (Str.ofString "ahead", some (.str A)) :: (Str.ofString "behind", some (.str B)) :: r
theorem leadD_len (P : Pic) (neg : Bool) : (leadD P neg).length ≤ 2 := by
  have := leadOf_len P neg
  have h2 := ite_str (c := P.dollar) (a := [36]) (b := []) (k := 1) (by decide) (by decide)
  unfold leadD
  rw [List.length_append]
  exact (Nat.add_le_add this h2)
theorem law_shown_7 (G : Good C ss fns bs fields) {V : Act C (F_law_shown C.K)} {a : Addr} {S : SP} {ah : AH} (hm : (a, spO C S) ∈ ah) (ok : S.Ok) {v sz pw : PV} {neg : Bool} {fg rm : Option PV} {A B T : List Nat} (hA : A.length ≤ 2000) (hB : B.length ≤ 1000) (hT : T.length ≤ 1010) :
    Ws V 29 B_law_shown_7 ((prt 32).body.drop 7) ⟨shl a v sz pw neg fg T rm A B [(Str.ofString "sign", some (.str (leadD S.pic neg))), (Str.ofString "width", some (.int (widthOf S.pic))), (Str.ofString "is_wide", none), (Str.ofString "fill", none), (Str.ofString "end", none)], ah⟩ (fun z0 => False)
      (fun r st => r = .str (numOf' S.pic neg A B T) ∧ ∃ N, st.ah = N ++ ah) (fun z0 => False) := by
  have hld := leadD_len S.pic neg
  have hw := width_le (sp_ok ok).l
  have hpt := ite_str (c := S.pt) (a := [46]) (b := []) (k := 1) (by decide) (by decide)
  have htl := tailOf_len S.pic neg
  have hen := sp_end ok neg
  have hnum : numOf' S.pic neg A B T = (if decide (roomOf S.pic neg A < 0) = true then [37] else []) ++ wholeOf S.pic neg A B T := by
    unfold numOf'
    by_cases h : roomOf S.pic neg A < 0 <;> simp [h]
  have hwh : wholeOf S.pic neg A B T = List.replicate (roomOf S.pic neg A).toNat (if decide (42 ∈ S.A) then 42 else 32) ++ leadD S.pic neg ++ A ++ (if S.pt then [46] else []) ++ B ++ T ++ tailOf S.pic neg := rfl
  have hr1 : (widthOf S.pic : Int) - ((leadD S.pic neg ++ A).length : Int) = roomOf S.pic neg A := rfl
  have hr2 : decide ((widthOf S.pic : Int) < ((leadD S.pic neg ++ A).length : Int)) = decide (roomOf S.pic neg A < 0) := by rw [← hr1]; congr 1; apply propext; exact (⟨Int.sub_neg_of_lt, Int.lt_of_sub_neg⟩)
  have hr3 : roomOf S.pic neg A ≤ 101 ∧ -3000 ≤ roomOf S.pic neg A := by rw [← hr1, List.length_append]; exact (⟨(a_room hw hld hA).2, (a_room hw hld hA).1⟩)
  rw [hnum, hwh]
  generalize leadD S.pic neg = L at *
  generalize roomOf S.pic neg A = R at *
  generalize tailOf S.pic neg = E at *
  have hw0 := ite_str (c := decide (R < 0)) (a := [37]) (b := []) (k := 1) (by decide) (by decide)
  generalize hW : (if decide (R < 0) = true then [37] else [] : List Nat) = W at hw0 ⊢
  refine ⟨add_small hld hA rfl, ?_⟩
  refine ⟨to_small (le_app hld hA) rfl, ?_⟩
  refine d_ahead hm ?_
  refine ⟨add_small hld hA rfl, ?_⟩
  refine ⟨to_small (le_app hld hA) rfl, ?_⟩
  have es : (if decide (42 ∈ S.A) = true then [42] else [32]) = [if decide (42 ∈ S.A) = true then 42 else 32] := by split <;> rfl
  (conv => whnf)
  rw [es, hr1, hr2]
  refine ⟨fill_ok hr3.2 (Int.le_trans hr3.1 (by decide)), ?_⟩
  rw [pyMul_one]
  have hq : (List.replicate R.toNat (if decide (42 ∈ S.A) = true then 42 else 32)).length ≤ 101 := by rw [List.length_replicate]; exact (Int.toNat_le.mpr hr3.1)
  generalize List.replicate R.toNat (if decide (42 ∈ S.A) = true then 42 else 32) = q at hq
  refine ⟨fun d hd => ?_⟩
  refine ⟨fun p hp => ?_, (d, .raw (DictIs C ((["", "+", "-"].map Str.ofString).zip [PV.str [], .str (if neg = true then [45] else [43]), .str (if neg = true then [45] else [32])]))) :: ah, .here, ?_⟩
  · simp only [List.mem_cons, List.not_mem_nil, or_false] at hp
    rcases hp with rfl | rfl | rfl <;> trivial
  refine d_tail (.tail _ hm) ?_
  refine x11 hen fun key hk1 hk2 => ?_
  refine ⟨key, _, _, hk1, .head _, hk2, ?_⟩
  (conv => whnf)
  rw [hW]
  have l1 := le_app hw0 hq
  have l2 := le_app l1 hld
  have l3 := le_app l2 hA
  have l4 := le_app l3 hpt
  have l5 := le_app l4 hB
  have l6 := le_app l5 hT
  refine ⟨add_small hw0 hq rfl, ?_⟩
  refine ⟨add_small l1 hld rfl, ?_⟩
  refine ⟨add_small l2 hA rfl, ?_⟩
  refine d_point (.tail _ hm) ?_
  refine ⟨add_small l3 hpt rfl, ?_⟩
  refine ⟨add_small l4 hB rfl, ?_⟩
  refine ⟨add_small l5 hT rfl, ?_⟩
  refine ⟨add_small l6 htl rfl, ?_⟩
  exact ⟨by simp only [List.append_assoc], [_], rfl⟩
theorem law_shown_3 (G : Good C ss fns bs fields) {V : Act C (F_law_shown C.K)} {a : Addr} {S : SP} {ah : AH} (hm : (a, spO C S) ∈ ah) (ok : S.Ok) {v sz pw : PV} {neg : Bool} {fg rm : Option PV} {A B T : List Nat} (hA : A.length ≤ 2000) (hB : B.length ≤ 1000) (hT : T.length ≤ 1010) :
    Ws V 29 B_law_shown_3 ((prt 32).body.drop 3) ⟨shl a v sz pw neg fg T rm A B [(Str.ofString "sign", none), (Str.ofString "width", none), (Str.ofString "is_wide", none), (Str.ofString "fill", none), (Str.ofString "end", none)], ah⟩ (fun z0 => False)
      (fun r st => r = .str (numOf' S.pic neg (cutA S.pic neg A B) B T) ∧ ∃ N, st.ah = N ++ ah) (fun z0 => False) := by
  have hld := leadD_len S.pic neg
  have e1 := sp_lead ok neg
  have e2 := sp_width ok
  have f7 := fun A' (hA' : A'.length ≤ 2000) => law_shown_7 (V := V) (v := v) (sz := sz) (pw := pw) (neg := neg) (fg := fg) (rm := rm) (A := A') (B := B) (T := T) G hm ok hA' hB hT
  refine d_ahead hm ?_
  refine d_tail hm ?_
  refine d_ahead hm ?_
  refine ⟨by rw [← List.length_append, e1]; lia, ?_⟩
  rw [e1]
  refine FnP.eq (law_places_ok G hm ok) (by decide) ?_
  refine d_ahead hm ?_
  (conv => whnf)
  rw [e2]
  refine ⟨by exact (Nat.le_trans (Nat.add_le_add hld hA) (by decide)), ?_⟩
  refine ⟨len_small (by rw [List.length_append]; exact (Nat.le_trans (Nat.add_le_add hld hA) (by decide))), ?_⟩
  refine ⟨fun hc => ?_, fun hc => ?_⟩ <;> simp only [Bool.and_eq_true, Bool.and_eq_false_iff, decide_eq_true_eq, decide_eq_false_iff_not, Bool.not_eq_true', Bool.not_eq_false', Int.ofNat_lt] at hc
  · have e : cutA S.pic neg A B = [] := by rw [cutA, if_pos hc]
    rw [e]
    exact f7 [] (by simp)
  · have e : cutA S.pic neg A B = A := by
      rw [cutA, if_neg]
      intro q
      rcases hc with h | h | h
      · exact h q.1
      · exact h q.2.1
      · exact q.2.2 h
    rw [e]
    exact f7 A hA
theorem exp_len (P : Pic) (N : Nat) (e : Int) : (withExp P N e).1.length = exPl P := by
  unfold withExp
  split
  · exact List.length_replicate
  · rw [List.length_take, expFig, padded, low_len]
    exact (Nat.min_eq_left (Nat.le_trans (Nat.le_add_right _ _) (Nat.le_max_right _ _)))
theorem law_shown_2 (G : Good C ss fns bs fields) {V : Act C (F_law_shown C.K)} {a : Addr} {S : SP} {ah : AH} (hm : (a, spO C S) ∈ ah) (ok : S.Ok) {v : PV} {c e : Int} (hN : c.natAbs < 2 ^ 62) (h1 : e ≤ 100) (h2 : -100 ≤ e) :
    Ws V 29 B_law_shown_2 ((prt 32).body.drop 2) ⟨[(Str.ofString "spec", some (.ref a)), (Str.ofString "value", some v), (Str.ofString "size", some (.int c.natAbs)), (Str.ofString "power", some (.int e)), (Str.ofString "is_below", some (.bool (decide (c < 0)))), (Str.ofString "figures", none), (Str.ofString "told", none), (Str.ofString "room", none), (Str.ofString "ahead", none), (Str.ofString "behind", none),
      (Str.ofString "sign", none), (Str.ofString "width", none), (Str.ofString "is_wide", none), (Str.ofString "fill", none), (Str.ofString "end", none)], ah⟩ (fun z0 => False) (fun r st => r = .str (numBy S.pic c e) ∧ ∃ N, st.ah = N ++ ah) (fun z0 => False) := by
  have hpl := partsOf_len (sp_ok ok) hN h1 h2
  have hr := ok.r
  have hpr : S.pic.right = S.r := rfl
  have hx : exPl S.pic ≤ 100 := Nat.le_trans (Nat.sub_le _ _) (sp_ok ok).l
  refine d_power hm ?_
  refine ⟨fun hp => ?_, fun hp => ?_⟩
  · have ep : partsOf S.pic c.natAbs e = withExp S.pic c.natAbs e := by rw [partsOf]; exact if_pos hp
    have eg : ∀ A, grpA S.pic A = A := fun A => if_neg (by show ¬ (S.c && !S.pw) = true; rw [hp]; simp)
    rw [numBy, numOf, ep, eg]
    rw [ep] at hpl
    have hxl := exp_len S.pic c.natAbs e
    refine FnP.eq (law_by_power_ok G hm ok hN h1 h2) (by decide) ?_
    generalize withExp S.pic c.natAbs e = q at *
    refine ⟨len_small (by rw [List.length_append]; exact (Nat.le_trans (Nat.add_le_add hpl.1 hpl.2.1) (by decide))), ?_⟩
    refine ⟨len_small (by rw [List.length_append]; exact (Nat.le_trans (Nat.add_le_add hpl.1 hpl.2.1) (by decide))), ?_⟩
    rw [pySlice_to, pySlice_from]
    rw [← hxl, List.take_left, List.drop_left]
    exact law_shown_3 G hm ok (by exact (Nat.le_trans hpl.1 (by decide))) hpl.2.1 hpl.2.2
  · have ep : partsOf S.pic c.natAbs e = ((padded (sc c.natAbs (e + S.r)) (S.r + 1)).take ((padded (sc c.natAbs (e + S.r)) (S.r + 1)).length - S.r),
      (padded (sc c.natAbs (e + S.r)) (S.r + 1)).drop ((padded (sc c.natAbs (e + S.r)) (S.r + 1)).length - S.r), []) := by
      rw [partsOf]; exact if_neg (by show ¬ S.pw = true; rw [hp]; decide)
    have eg : ∀ A, grpA S.pic A = if S.c then grp A else A := fun A => by
      show (if (S.c && !S.pw) = true then _ else _) = _
      rw [hp, Bool.not_false, Bool.and_true]
    have hu := sc_lt' hN (k := e + S.r) (by exact (a_er h1 (Nat.le_trans hr (by decide)) (by decide)))
    rw [numBy, numOf, ep, eg]
    rw [ep] at hpl
    have hlen : S.r + 1 ≤ (padded (sc c.natAbs (e + S.r)) (S.r + 1)).length ∧ (padded (sc c.natAbs (e + S.r)) (S.r + 1)).length ≤ 1000 := by
      have := nz_le hu
      rw [padded, low_len]; exact (⟨Nat.le_max_right _ _, Nat.max_le.mpr ⟨Nat.le_trans this (by decide), Nat.le_trans (Nat.succ_le_succ hr) (by decide)⟩⟩)
    refine d_right hm ?_
    refine FnP.eq (law_lifted_ok G hN (by exact (a_er h1 (Nat.le_trans hr (by decide)) (by decide))) (by exact (a_er' h2))) (by decide) ?_
    refine FnP.eq (near_sc_ok G (by exact (a_er' h2))) (by decide) ?_
    refine d_right hm ?_
    refine FnP.eq (law_figures_ok G (m := S.r + 1) hu (by exact (Nat.le_trans (Nat.succ_le_succ hr) (by decide)))) (by decide) ?_
    clear hu ep
    generalize padded (sc c.natAbs (e + S.r)) (S.r + 1) = f at *
    have ef : (f.length : Int) - S.r = ((f.length - S.r : Nat) : Int) := by exact ((Int.ofNat_sub (Nat.le_of_succ_le hlen.1)).symm)
    refine ⟨len_small (by exact (Nat.le_trans hlen.2 (by decide))), ?_⟩
    refine d_right hm ?_
    refine ⟨len_small (by exact (Nat.le_trans hlen.2 (by decide))), ?_⟩
    rw [ef, pySlice_to]
    refine ⟨len_small (by exact (Nat.le_trans hlen.2 (by decide))), ?_⟩
    refine d_right hm ?_
    refine ⟨len_small (by exact (Nat.le_trans hlen.2 (by decide))), ?_⟩
    rw [ef, pySlice_from]
    refine d_comma hm ?_
    refine ⟨fun hc => ?_, fun hc => ?_⟩
    · have := grp_len _ (f.take (f.length - S.r)) (Nat.le_refl _)
      have hl1 : (f.take (f.length - S.r)).length ≤ 1000 := hpl.1
      rw [hc]
      refine FnP.eq (law_grouped_ok G (by exact (Nat.le_trans hpl.1 (by decide)))) (by decide) ?_
      exact law_shown_3 G hm ok (by exact (Nat.le_trans this (Nat.mul_le_mul_left 2 hpl.1))) hpl.2.1 (by simp)
    · rw [hc]
      exact law_shown_3 G hm ok (Nat.le_trans hpl.1 (by decide)) hpl.2.1 (by simp)
theorem law_shown_ok (G : Good C ss fns bs fields) {a : Addr} {S : SP} {ah : AH} (hm : (a, spO C S) ∈ ah) (ok : S.Ok) {v : PV} {c e : Int} (hv : NumV c e v) (hN : c.natAbs < 2 ^ 62) (h1 : e ≤ 100) (h2 : -100 ≤ e) :
    Fn C 30 (adr C.K "_law_shown") [.ref a, v] ah fun r ah' => r = .str (numBy S.pic c e) ∧ ∃ N, ah' = N ++ ah := by
  refine Fn_W (F := F_law_shown C.K) (n := 29) rfl G (D_law_shown G) C_law_shown rfl rfl fun V => ?_
  have ea := a_ab c
  cases hv with
  | int h0 =>
    subst h0
    refine ⟨fun q => (by cases q), fun z0 => ?_⟩
    refine ⟨fun q => (by cases q), fun z0 => ?_⟩
    (conv => whnf)
    rw [ea]
    exact law_shown_2 G hm ok hN h1 h2
  | dec =>
    refine ⟨fun z0 => ?_, fun q => (by cases q)⟩
    refine ⟨by simp, ?_⟩
    refine ⟨by simp, ?_⟩
    refine ⟨fun z0 => ?_, fun q => (by cases q)⟩
    refine ⟨by simp, ?_⟩
    (conv => whnf)
    rw [ea]
    exact law_shown_2 G hm ok hN h1 h2
end Mine
end
section
open PySem PySem.W PyProof.Rows
set_option Elab.async false
set_option tactic.hygienic false
set_option genSizeOf false
set_option genInjectivity false
set_option maxRecDepth 100000
set_option maxHeartbeats 1000000
set_option linter.unusedVariables false
set_option linter.unusedSimpArgs false
namespace Mine
variable {C : Cx}
/-! ### what the law draws -/
noncomputable def intsPV (ns : List Int) : List PV := ns.map .int
/-- the purse: the script, and how often it was asked -/
noncomputable abbrev purO (L : Addr) (k : Nat) : AObj := .list [.ref L, .int (k : Int)]
structure Purse (L : Addr) (ns : List Int) (ah2 : AH) : Prop where
  mem : (L, AObj.list (intsPV ns)) ∈ ah2
  len : ns.length ≤ 100000
theorem pIx_ints {ns : List Int} {k : Nat} (h : k < ns.length) : ∃ i, pIx (intsPV ns) (k : Int) = some (.int i) := by
  refine ⟨ns[k], ?_⟩
  unfold pIx
  rw [if_pos (by lia)]
  simp [intsPV, h]
section
variable {d L : Addr} {ns : List Int} {p1 ah2 : AH} {k : Nat}
theorem law_draw_ok (G : Good C ss fns bs fields) {lim : Nat} (hD : Purse L ns ah2) (hl : 0 < lim) :
    Fn C 10 (adr C.K "_law_draw") [.ref d, .int lim] (p1 ++ (d, purO L k) :: ah2) fun r ah' => ∃ v : Nat, v < lim ∧ r = .int v ∧ ah' = p1 ++ (d, purO L (k + 1)) :: ah2 := by
  refine Fn_W (F := F_law_draw C.K) (n := 9) rfl G (D_law_draw G) C_law_draw rfl rfl fun V => ?_
  have md : ∀ {j : Int}, (d, AObj.list [.ref L, .int j]) ∈ p1 ++ (d, .list [.ref L, .int j]) :: ah2 := List.mem_append_right _ (.head _)
  have mL : ∀ {j : Int}, (L, AObj.list (intsPV ns)) ∈ p1 ++ (d, .list [.ref L, .int j]) :: ah2 := List.mem_append_right _ (.tail _ hD.mem)
  have hn := hD.len
  have hlen : (intsPV ns).length = ns.length := List.length_map ..
  have ek : (k : Int) + 1 - 1 = (k : Int) := Int.add_sub_cancel ..
  refine ⟨_, .int k, md, by simp, rfl, ?_⟩
  refine ⟨_, _, by decide, by simp, by simp, UpdH.mid p1 ah2, ?_⟩
  refine ⟨_, _, md, by simp, rfl, ?_⟩
  refine ⟨_, _, md, by simp, rfl, ?_⟩
  rw [ek]
  refine ⟨_, mL, by lia, ?_⟩
  refine ⟨fun hc => ?_, fun hc => ?_⟩
  · have hc : k < ns.length := Nat.lt_of_lt_of_eq (Int.ofNat_lt.mp (of_decide_eq_true hc)) hlen
    refine ⟨_, _, md, by simp, rfl, ?_⟩
    obtain ⟨i, hi⟩ := pIx_ints hc
    refine ⟨_, _, mL, by lia, hi, ?_⟩
    refine ⟨by exact (Int.natCast_pos.mpr hl), ?_⟩
    have ev : (if i < 0 then -i else i) % (lim : Int) = ((i.natAbs % lim : Nat) : Int) := by
      have : (if i < 0 then -i else i) = ((i.natAbs : Nat) : Int) := a_ab i
      rw [this]; lia
    exact (i12 (i.natAbs % lim) (Nat.mod_lt _ hl) (by rw [ev]) rfl)
  · (conv => whnf)
    refine ⟨.inl (by decide), ?_⟩
    refine ⟨by decide, ?_⟩
    refine ⟨by exact (Int.natCast_pos.mpr hl), ?_⟩
    have ev : (5 * (k : Int) + (k : Int) / 2) % (lim : Int) = (((5 * k + k / 2) % lim : Nat) : Int) := by
      have h : 5 * (k : Int) + (k : Int) / 2 = ((5 * k + k / 2 : Nat) : Int) := by lia
      rw [h]; exact (Int.natCast_emod ..).symm
    exact (i12 ((5 * k + k / 2) % lim) (Nat.mod_lt _ hl) (by rw [ev]) rfl)
theorem draw_at (G : Good C ss fns bs fields) (hD : Purse L ns ah2) {n lim : Nat} {ah : AH} (p1 : AH) (he : ah = p1 ++ (d, purO L k) :: ah2) (hl : 0 < lim) (hn : 10 ≤ n) {Q : PV → AH → Prop} (h : ∀ v : Nat, v < lim → Q (.int v) (p1 ++ (d, purO L (k + 1)) :: ah2)) :
    FnP C n (Str.ofString "_law_draw") [.ref d, .int lim] ah Q := by
  subst he
  exact FnP.dr (pv := fun v : Nat => .int v) (av := fun z0 => p1 ++ (d, purO L (k + 1)) :: ah2) (law_draw_ok G hD hl) hn h
noncomputable def SP.text (S : SP) : List Nat := S.A ++ List.replicate S.l 35 ++ (if S.c = true then [44] else []) ++ (if S.pt = true then [46] else []) ++ List.replicate S.r 35 ++ (if S.pw = true then [94, 94, 94, 94] else []) ++ S.T
theorem pIx_strs {ls : List (List Nat)} {k : Nat} (h : k < ls.length) : pIx (ls.map .str) (k : Int) = some (.str (ls[k])) := by
  unfold pIx
  rw [if_pos (by lia)]
  simp [h]
theorem getElem_mem' {ls : List (List Nat)} {k : Nat} (h : k < ls.length) : ls[k] ∈ ls := List.getElem_mem h
theorem notKey {ks : List String} {k : Str} {ps : List (Str × PV)} (h : (ks.map Str.ofString).contains k = false) (he : ps.map (·.1) = ks.map Str.ofString) : k ∉ ps.map (·.1) := by
  rw [he]
  intro z
  rw [List.contains_iff_mem.mpr z] at h
  cases h
/-- the text of a field -/
theorem law_field_5 (G : Good C ss fns bs fields) {V : Act C (F_law_field C.K)} {u : Addr} {S : SP} {ah : AH} (hm : (u, spO C S) ∈ ah) (ok : S.Ok) {Qr : Kon} (hQ : ∀ loc, Qr (.tuple [.str S.text, .ref u]) ⟨loc, ah⟩) :
    Ws V 29 B_law_field_5 ((prt 25).body.drop 5) ⟨[(Str.ofString "purse", some (.ref d)), (Str.ofString "spec", some (.ref u)), (Str.ofString "text", none)], ah⟩ (fun z0 => False) Qr (fun z0 => False) := by
  have hA := A_len ok.a
  have hT := T_len ok.t
  have hl := ok.l5
  have hr := ok.r
  have i1 := ite_str (c := S.c) (a := [44]) (b := []) (k := 1) (by decide) (by decide)
  have i2 := ite_str (c := S.pt) (a := [46]) (b := []) (k := 1) (by decide) (by decide)
  have i3 := ite_str (c := S.pw) (a := [94, 94, 94, 94]) (b := []) (k := 4) (by decide) (by decide)
  have er : ∀ k : Nat, pyMul [35] (k : Int) = List.replicate k 35 := fun k => by rw [pyMul_one, Int.toNat_natCast]
  have hs : ∀ k : Nat, k ≤ 5 → -1000000 < (k : Int) ∧ (k : Int) < 1000000 ∧ [35].length * (k : Int).toNat ≤ 1000000 := fun k hk => fill_nat (Nat.le_trans hk (by decide))
  refine d_ahead hm ?_
  refine d_left hm ?_
  refine ⟨hs _ hl, ?_⟩
  rw [er]
  refine ⟨by rw [List.length_replicate]; exact (Nat.le_trans (Nat.add_le_add hA hl) (by decide)), ?_⟩
  refine d_comma hm ?_
  refine ⟨by rw [List.length_append, List.length_replicate]; exact (Nat.le_trans (Nat.add_le_add (Nat.add_le_add hA hl) i1) (by decide)), ?_⟩
  refine d_point hm ?_
  refine ⟨by simp only [List.length_append, List.length_replicate]; exact (Nat.le_trans (Nat.add_le_add (Nat.add_le_add (Nat.add_le_add hA hl) i1) i2) (by decide)), ?_⟩
  refine d_right hm ?_
  refine ⟨hs _ (Nat.le_trans hr (by decide)), ?_⟩
  rw [er]
  refine ⟨by simp only [List.length_append, List.length_replicate]; exact (Nat.le_trans (Nat.add_le_add (Nat.add_le_add (Nat.add_le_add (Nat.add_le_add hA hl) i1) i2) hr) (by decide)), ?_⟩
  refine d_power hm ?_
  refine ⟨by simp only [List.length_append, List.length_replicate]; exact (Nat.le_trans (Nat.add_le_add (Nat.add_le_add (Nat.add_le_add (Nat.add_le_add (Nat.add_le_add hA hl) i1) i2) hr) i3) (by decide)), ?_⟩
  refine d_tail hm ?_
  refine ⟨by simp only [List.length_append, List.length_replicate]; exact (Nat.le_trans (Nat.add_le_add (Nat.add_le_add (Nat.add_le_add (Nat.add_le_add (Nat.add_le_add (Nat.add_le_add hA hl) i1) i2) hr) i3) hT) (by decide)), ?_⟩
  exact hQ _
noncomputable abbrev tails4 : List (List Nat) := [[], [], [43], [45]]
theorem tails_4 {k : Nat} (h : k < tails4.length) : tails4[k] ∈ tails := by
  have : ∀ T ∈ tails4, T ∈ tails := by decide
  exact this _ (List.getElem_mem h)
theorem law_field_4 (G : Good C ss fns bs fields) (hD : Purse L ns ah2) {V : Act C (F_law_field C.K)} {u : Addr} {S : SP} {x : Addr × AObj} (ok : S.Ok) (h0 : S.T = []) {Qr : Kon}
    (hQ : ∀ (S : SP) (k' : Nat) loc N, S.Ok → Qr (.tuple [.str S.text, .ref u]) ⟨loc, N ++ (u, spO C S) :: (p1 ++ (d, purO L k') :: ah2)⟩) :
    Ws V 29 B_law_field_4 ((prt 25).body.drop 4) ⟨[(Str.ofString "purse", some (.ref d)), (Str.ofString "spec", some (.ref u)), (Str.ofString "text", none)], x :: (u, spO C S) :: (p1 ++ (d, purO L k) :: ah2)⟩ (fun z0 => False) Qr (fun z0 => False) := by
  refine d_ahead (.tail _ (.head _)) ?_
  refine ⟨fun hc => ?_, fun z0 => law_field_5 G (.tail _ (.head _)) ok fun loc => hQ S k loc [x] ok⟩
  have hA : ¬ S.A = [43] := by simpa using hc
  refine ⟨by simp, fun u2 hu2 => ?_⟩
  refine draw_at G hD (lim := 4) ((u2, .list (tails4.map .str)) :: x :: (u, spO C S) :: p1) rfl (by decide) (by decide) fun v hv => ?_
  refine ⟨_, _, .head _, by decide, pIx_strs (ls := tails4) (k := v) hv, ?_⟩
  have hT := tails_4 (k := v) hv
  generalize tails4[v] = T at hT
  refine ⟨Str.ofString "tail", spF S, spF { S with T := T }, _, by decide +kernel, .inl (.next (.next .here)), trivial, by simp, .next (.next .here), ?_⟩
  have ok' : SP.Ok { S with T := T } := ⟨ok.a, hT, fun z => absurd z hA, ok.l1, ok.l5, ok.r, ok.rp⟩
  exact law_field_5 G (.tail _ (.tail _ (.head _))) ok' fun loc => hQ _ (k + 1) loc [(u2, _), x] ok'
noncomputable abbrev D3 (A : List Nat) (l : Nat) : List (Str × PV) := [(Str.ofString "ahead", .str A), (Str.ofString "left", .int l), (Str.ofString "tail", .str [])]
noncomputable abbrev D4 (A : List Nat) (l r : Nat) : List (Str × PV) := D3 A l ++ [(Str.ofString "right", .int r)]
noncomputable abbrev D5 (A : List Nat) (l r : Nat) (c : Bool) : List (Str × PV) := D4 A l r ++ [(Str.ofString "comma", .bool c)]
noncomputable abbrev D6 (A : List Nat) (l r : Nat) (c pw : Bool) : List (Str × PV) := D5 A l r c ++ [(Str.ofString "power", .bool pw)]
theorem law_field_ok (G : Good C ss fns bs fields) (hD : Purse L ns ah2) :
    Fn C 30 (adr C.K "_law_field") [.ref d] (p1 ++ (d, purO L k) :: ah2) fun r ah' => ∃ (S : SP) (k' : Nat) (u : Addr) (N : AH), S.Ok ∧ r = .tuple [.str S.text, .ref u] ∧ ah' = N ++ (p1 ++ (d, purO L k') :: ah2) ∧ (u, spO C S) ∈ N := by
  refine Fn_W (F := F_law_field C.K) (n := 29) rfl G (D_law_field G) C_law_field rfl rfl fun V => ?_
  refine ⟨fun u hu => ?_⟩
  refine ⟨by simp, fun u1 hu1 => ?_⟩
  refine draw_at G hD (lim := 5) ((u1, .list (aheads.map .str)) :: (u, .raw (DictIs C [])) :: p1) rfl (by decide) (by decide) fun v1 hv1 => ?_
  refine ⟨_, _, .head _, by decide, pIx_strs (ls := aheads) (k := v1) hv1, ?_⟩
  have hA := getElem_mem' (ls := aheads) (k := v1) hv1
  generalize aheads[v1] = A at hA
  generalize hx : (u1, AObj.list (aheads.map .str)) = x
  refine draw_at G hD (lim := 5) (x :: (u, .raw (DictIs C [])) :: p1) (by rw [← hx]) (by decide) (by decide) fun v2 hv2 => ?_
  have e1 : 1 + (v2 : Int) = ((v2 + 1 : Nat) : Int) := by lia
  (conv => whnf)
  rw [e1]
  refine ⟨fun p hp => ?_, x :: (u, .raw (DictIs C (D3 A (v2 + 1)))) :: (p1 ++ (d, purO L (k + 1 + 1)) :: ah2), .next .here, ?_⟩
  · simp only [List.mem_cons, List.not_mem_nil, or_false] at hp
    rcases hp with rfl | rfl | rfl <;> trivial
  generalize hl : v2 + 1 = l
  refine draw_at G hD (lim := 4) (x :: (u, .raw (DictIs C (D3 A l))) :: p1) rfl (by decide) (by decide) fun v3 hv3 => ?_
  refine draw_at G hD (lim := 2) (x :: (u, .raw (DictIs C (D3 A l))) :: p1) rfl (by decide) (by decide) fun v4 hv4 => ?_
  (conv => whnf)
  generalize decide ((v4 : Int) = 1) = cm
  refine ⟨rfl, ?_⟩
  refine ⟨Str.ofString "right", D3 A l, _, _, by decide +kernel, .inr ⟨notKey (ks := ["ahead", "left", "tail"]) (by decide +kernel) rfl, rfl⟩, trivial, by simp, .next .here, ?_⟩
  refine ⟨Str.ofString "comma", D4 A l v3, _, _, by decide +kernel, .inr ⟨notKey (ks := ["ahead", "left", "tail", "right"]) (by decide +kernel) rfl, rfl⟩, trivial, by simp, .next .here, ?_⟩
  refine draw_at G hD (lim := 5) (x :: (u, .raw (DictIs C (D5 A l v3 cm))) :: p1) rfl (by decide) (by decide) fun v5 hv5 => ?_
  (conv => whnf)
  generalize decide ((v5 : Int) = 4) = pw
  refine ⟨Str.ofString "power", D5 A l v3 cm, _, _, by decide +kernel, .inr ⟨notKey (ks := ["ahead", "left", "tail", "right", "comma"]) (by decide +kernel) rfl, rfl⟩, trivial, by simp, .next .here, ?_⟩
  have g6 : ∀ {k' : Nat} {Q : Kon} {loc : Loc}, Q (.int v3) ⟨loc, x :: (u, .raw (DictIs C (D6 A l v3 cm pw))) :: (p1 ++ (d, purO L k') :: ah2)⟩ → ItD C u [114, 105, 103, 104, 116] ⟨loc, x :: (u, .raw (DictIs C (D6 A l v3 cm pw))) :: (p1 ++ (d, purO L k') :: ah2)⟩ Q :=
    fun h => ⟨Str.ofString "right", _, _, by decide +kernel, .tail _ (.head _), .tail _ (.tail _ (.tail _ (.head _))), h⟩
  refine g6 ?_
  have fin : ∀ (pt : Bool) (k' : Nat), (0 < v3 → pt = true) → SetD C u [112, 111, 105, 110, 116] (.bool pt) ⟨[(Str.ofString "purse", some (.ref d)), (Str.ofString "spec", some (.ref u)), (Str.ofString "text", none)], x :: (u, .raw (DictIs C (D6 A l v3 cm pw))) :: (p1 ++ (d, purO L k') :: ah2)⟩
      (fun st => Ws V 29 B_law_field_4 ((prt 25).body.drop 4) st (fun z0 => False) (fun r st => ∃ (S : SP) (k' : Nat) (u : Addr) (N : AH), S.Ok ∧ r = .tuple [.str S.text, .ref u] ∧ st.ah = N ++ (p1 ++ (d, purO L k') :: ah2) ∧ (u, spO C S) ∈ N) (fun z0 => False)) := fun pt k' hpt =>
    ⟨Str.ofString "point", D6 A l v3 cm pw, spF ⟨A, [], l, v3, cm, pw, pt⟩, _, by decide +kernel, .inr ⟨notKey (ks := ["ahead", "left", "tail", "right", "comma", "power"]) (by decide +kernel) rfl, rfl⟩, trivial, by simp, .next .here,
      law_field_4 G hD ⟨hA, .head _, fun z0 => rfl, by dsimp only; lia, by dsimp only; exact (Nat.le_trans (Nat.le_of_eq hl.symm) hv2), by dsimp only; lia, hpt⟩ rfl fun S k' loc N ok => (i43 S k' u (N ++ [(u, spO C S)]) ok rfl (by rw [List.append_assoc]; rfl) (List.mem_append_right _ (.head _)))⟩
  refine ⟨fun h => ?_, fun h => ?_⟩
  · (conv => whnf)
    exact fin true _ fun z0 => rfl
  · have h0 : ¬ 0 < v3 := fun z => of_decide_eq_false h (Int.natCast_pos.mpr z)
    refine draw_at G hD (lim := 2) (x :: (u, .raw (DictIs C (D6 A l v3 cm pw))) :: p1) rfl (by decide) (by decide) fun v6 hv6 => ?_
    exact fin _ _ fun z => absurd z h0
end
/-! ### the law's parts -/
inductive Part where
  | num (S : SP)
  | wide (m : Nat)
  | first
  | all
  | plain (t u : List Nat)
noncomputable abbrev kNum : List Nat := [110, 117, 109, 98, 101, 114]
noncomputable abbrev kWide : List Nat := [119, 105, 100, 101]
noncomputable abbrev kFirst : List Nat := [102, 105, 114, 115, 116]
noncomputable abbrev kAll : List Nat := [97, 108, 108]
noncomputable abbrev kPlain : List Nat := [112, 108, 97, 105, 110]
noncomputable abbrev wideT (m : Nat) : List Nat := [92] ++ List.replicate m 32 ++ [92]
inductive PartV (C : Cx) (ah : AH) : Part → PV → Prop
  | num {S u} : (u, spO C S) ∈ ah → PartV C ah (.num S) (.tuple [.str kNum, .str S.text, .ref u])
  | wide {m} : PartV C ah (.wide m) (.tuple [.str kWide, .str (wideT m), .int ((m + 2 : Nat) : Int)])
  | first : PartV C ah .first (.tuple [.str kFirst, .str [33], .int 0])
  | all : PartV C ah .all (.tuple [.str kAll, .str [38], .int 0])
  | plain {t u} : PartV C ah (.plain t u) (.tuple [.str kPlain, .str t, .str u])
theorem PartV.mono {ah ah' : AH} (h : ∀ x ∈ ah, x ∈ ah') {x : Part} {p : PV} (r : PartV C ah x p) : PartV C ah' x p := by
  cases r with
  | num m => exact .num (h _ m)
  | wide => exact .wide
  | first => exact .first
  | all => exact .all
  | plain => exact .plain
inductive PartsV (C : Cx) (ah : AH) : List Part → List PV → Prop
  | nil : PartsV C ah [] []
  | cons {x p xs ps} : PartV C ah x p → PartsV C ah xs ps → PartsV C ah (x :: xs) (p :: ps)
theorem PartsV.mono {ah ah' : AH} (h : ∀ x ∈ ah, x ∈ ah') {xs : List Part} {ps : List PV} (r : PartsV C ah xs ps) : PartsV C ah' xs ps := by
  induction r with
  | nil => exact .nil
  | cons a _ ih => exact .cons (a.mono h) ih
theorem PartsV.snoc {ah : AH} {xs : List Part} {ps : List PV} {x : Part} {p : PV} (r : PartsV C ah xs ps) (h : PartV C ah x p) : PartsV C ah (xs ++ [x]) (ps ++ [p]) := by
  induction r with
  | nil => exact .cons h .nil
  | cons a _ ih => exact .cons a ih
theorem PartsV.length {ah : AH} {xs : List Part} {ps : List PV} (r : PartsV C ah xs ps) : ps.length = xs.length := by
  induction r with
  | nil => rfl
  | cons _ _ ih => exact congrArg (· + 1) ih
noncomputable abbrev plains : List (List Nat × List Nat) := [([32], [32]), ([32, 95, 35, 58, 32], [32, 35, 58, 32]), ([120], [120]), ([32, 95, 33, 32], [32, 33, 32])]
noncomputable def FOk : Part → Prop
  | .num S => S.Ok
  | .wide m => m ≤ 3
  | .plain _ _ => False
  | _ => True
/-- so many fields, each with plain signs behind it -/
inductive Drawn : Nat → List Part → Prop
  | nil : Drawn 0 []
  | cons {n p t u l} : FOk p → (t, u) ∈ plains → Drawn n l → Drawn (n + 1) (p :: .plain t u :: l)
theorem Drawn.snoc {n : Nat} {l : List Part} {p : Part} {t u : List Nat} (h : Drawn n l) (hp : FOk p) (hq : (t, u) ∈ plains) : Drawn (n + 1) (l ++ [p] ++ [.plain t u]) := by
  induction h with
  | nil => exact .cons hp hq .nil
  | cons a b _ ih => exact .cons a b ih
theorem pIx_map {α : Type} (f : α → PV) {ls : List α} {k : Nat} (h : k < ls.length) : pIx (ls.map f) (k : Int) = some (f ls[k]) := by
  unfold pIx
  rw [if_pos (Int.natCast_nonneg _)]
  simp [h]
noncomputable abbrev drLoc (d f : Addr) (a b c : Option PV) : Loc := [(Str.ofString "purse", some (.ref d)), (Str.ofString "parts", some (.ref f)), (Str.ofString "turn", a), (Str.ofString "form", b), (Str.ofString "many", c)]
noncomputable def restB : PB → PB
  | .asg _ _ _ r => r
  | .ifs _ _ _ r => r
  | _ => .nil
section
variable {d L : Addr} {ns : List Int} {p1 ah2 : AH}
theorem draw_bg (G : Good C ss fns bs fields) (hD : Purse L ns ah2) {n lim : Nat} {f : Addr} {o : AObj} {k : Nat} (N : AH) (hl : 0 < lim) (hn : 10 ≤ n) {Q : PV → AH → Prop} (h : ∀ v : Nat, v < lim → Q (.int v) (N ++ (f, o) :: (p1 ++ (d, purO L (k + 1)) :: ah2))) :
    FnP C n (Str.ofString "_law_draw") [.ref d, .int lim] (N ++ (f, o) :: (p1 ++ (d, purO L k) :: ah2)) Q := by
  have e : ∀ j, N ++ (f, o) :: (p1 ++ (d, purO L j) :: ah2) = (N ++ (f, o) :: p1) ++ (d, purO L j) :: ah2 := fun j => by rw [List.append_assoc]; rfl
  rw [e]
  refine draw_at G hD (N ++ (f, o) :: p1) rfl hl hn fun v hv => ?_
  rw [← e]
  exact h v hv
/-- the plain signs behind a field -/
theorem drawn_tail (G : Good C ss fns bs fields) (hD : Purse L ns ah2) {V : Act C (F_law_drawn C.K)} {f : Addr} {N : AH} {ps : List PV} {a b c : Option PV} {k : Nat} {Qn : St → Prop} {Qr : Kon} {Qc : St → Prop} (hl : ps.length ≤ 100)
    (hQ : ∀ t u x, (t, u) ∈ plains → Qn ⟨drLoc d f a b c, x :: (N ++ (f, .list (ps ++ [.tuple [.str kPlain, .str t, .str u]])) :: (p1 ++ (d, purO L (k + 1)) :: ah2))⟩) :
    Ws V 59 (restB (restB (forB B_law_drawn_1))) (tlS (tlS (foB (hd ((prt 33).body.drop 1))))) ⟨drLoc d f a b c, N ++ (f, .list ps) :: (p1 ++ (d, purO L k) :: ah2)⟩ Qn Qr Qc := by
  refine ⟨⟨ps, List.mem_append_right _ (.head _)⟩, ?_⟩
  refine ⟨by simp, fun x hx => ?_⟩
  refine draw_bg (n := 59) G hD (k := k) (lim := 4) ((x, .list (plains.map fun q => .tuple [.str q.1, .str q.2])) :: N) (by decide) (by decide) fun v hv => ?_
  refine ⟨_, _, .head _, by simp, pIx_map (fun q : List Nat × List Nat => .tuple [.str q.1, .str q.2]) (ls := plains) hv, ?_⟩
  have hm : plains[v] ∈ plains := List.getElem_mem hv
  generalize plains[v] = q at hm
  refine ⟨(i02 (List.cons_ne_nil _ _) (List.cons_ne_nil _ _) (by simp)), ?_⟩
  refine ⟨ps, (x, .list (plains.map fun q => .tuple [.str q.1, .str q.2])) :: (N ++ (f, .list (ps ++ [.tuple [.str kPlain, .str q.1, .str q.2]])) :: (p1 ++ (d, purO L (k + 1)) :: ah2)), .next (UpdH.mid N _), by lia, ?_⟩
  exact hQ _ _ _ hm
theorem drawn_turns (G : Good C ss fns bs fields) (hD : Purse L ns ah2) {V : Act C (F_law_drawn C.K)} {f it : Addr} {P : Nat → Obj → Prop} {Qn : St → Prop} {Qr : Kon}
    {K : Nat} (hQ : ∀ parts pvs N k a b c, PartsV C N parts pvs → Drawn K parts → Qn ⟨drLoc d f a b c, N ++ (f, .list pvs) :: (p1 ++ (d, purO L k) :: ah2)⟩) (hK : K ≤ 3) :
    ∀ (xs : List PV) (i : Nat) (parts : List Part) (pvs : List PV) (N : AH) (k j : Nat) (a b c : Option PV), PartsV C N parts pvs → Drawn j parts → parts.length = 2 * j → j + xs.length = K →
      ForW (fun st' Q => Ws V 59 (forB B_law_drawn_1) (foB (hd ((prt 33).body.drop 1))) st' Q Qr Q) 2 (fun z0 => True) P it Qn xs i ⟨drLoc d f a b c, N ++ (f, .list pvs) :: (p1 ++ (d, purO L k) :: ah2)⟩
  | [], i, parts, pvs, N, k, j, a, b, c, h1, h2, h3, h4 => by
    obtain rfl : j = K := h4
    exact ⟨trivial, hQ parts pvs N k a b c h1 h2⟩
  | p :: xs, i, parts, pvs, N, k, j, a, b, c, h1, h2, h3, h4 => by
    refine ⟨trivial, ?_⟩
    have hlen := h1.length
    rw [List.length_cons] at h4
    -- what is left once a field stands
    have fin : ∀ (x : Part) (q : PV) (N2 : AH) (k2 : Nat) (b c : Option PV), FOk x → PartV C (N2 ++ N) x q →
        Ws V 59 (restB (restB (forB B_law_drawn_1))) (tlS (tlS (foB (hd ((prt 33).body.drop 1))))) ⟨drLoc d f (some p) b c, N2 ++ ((it, .raw (P (i + 1))) :: N ++ (f, .list (pvs ++ [q])) :: (p1 ++ (d, purO L k2) :: ah2))⟩
          (fun st2 => ∃ pre post, st2.ah = pre ++ (it, .raw (P (i + 1))) :: post ∧ ForW (fun st' Q => Ws V 59 (forB B_law_drawn_1) (foB (hd ((prt 33).body.drop 1))) st' Q Qr Q) 2 (fun z0 => True) P it Qn xs (i + 1) ⟨st2.loc, pre ++ post⟩) Qr
          (fun st2 => ∃ pre post, st2.ah = pre ++ (it, .raw (P (i + 1))) :: post ∧ ForW (fun st' Q => Ws V 59 (forB B_law_drawn_1) (foB (hd ((prt 33).body.drop 1))) st' Q Qr Q) 2 (fun z0 => True) P it Qn xs (i + 1) ⟨st2.loc, pre ++ post⟩) := by
      intro x q N2 k2 b c hx hq
      rw [← List.append_assoc N2]
      refine drawn_tail G hD (by rw [List.length_append, hlen, h3]; simp only [List.length_cons, List.length_nil]; exact (Nat.le_trans (Nat.succ_le_succ (Nat.mul_le_mul_left 2 (Nat.le_trans (Nat.le_trans (Nat.le_add_right _ _) (Nat.le_of_eq h4)) hK))) (by decide))) fun t u y htu => ?_
      refine (i21 (y :: N2) (N ++ (f, .list (pvs ++ [q] ++ [.tuple [.str kPlain, .str t, .str u]])) :: (p1 ++ (d, purO L (k2 + 1)) :: ah2)) (by simp) ?_)
      have := drawn_turns G hD (V := V) (it := it) (P := P) (Qr := Qr) hQ hK xs (i + 1) (parts ++ [x] ++ [.plain t u]) (pvs ++ [q] ++ [.tuple [.str kPlain, .str t, .str u]]) (y :: N2 ++ N) (k2 + 1) (j + 1) (some p) b c
        (((h1.mono fun z hz => .tail _ (List.mem_append_right _ hz)).snoc (hq.mono fun z hz => .tail _ hz)).snoc .plain) (h2.snoc hx htu) (by simp only [List.length_append, List.length_cons, List.length_nil]; lia) (by lia)
      rw [List.append_assoc] at this
      exact this
    refine draw_bg (n := 59) G hD (k := k) (lim := 7) ((it, .raw (P (i + 1))) :: N) (by decide) (by decide) fun v hv => ?_
    refine ⟨fun hc => ?_, fun hc => ?_⟩
    · (conv => whnf)
      refine ⟨⟨pvs, List.mem_append_right _ (.head _)⟩, ?_⟩
      have eb : ∀ j, (it, AObj.raw (P (i + 1))) :: N ++ (f, .list pvs) :: (p1 ++ (d, purO L j) :: ah2) = ((it, .raw (P (i + 1))) :: N ++ (f, .list pvs) :: p1) ++ (d, purO L j) :: ah2 := fun j => by simp
      refine ⟨?_⟩
      rw [show (it, AObj.raw (P (i + 1))) :: N ++ (f, .list pvs) :: (p1 ++ (d, purO L (k + 1)) :: ah2) = _ from eb _]
      refine Fn.mono (law_field_ok G hD) (by decide) ?_
      rintro _ _ ⟨S, k2, u, N2, ok, rfl, rfl, hu⟩
      rw [← eb k2]
      refine ⟨(i02 (List.cons_ne_nil _ _) (List.cons_ne_nil _ _) (by simp)), ?_⟩
      have U := UpdH.skip (UpdH.mid (a := f) (o := .list pvs) (o' := .list (pvs ++ [.tuple [.str kNum, .str S.text, .ref u]])) ((it, .raw (P (i + 1))) :: N) (p1 ++ (d, purO L k2) :: ah2)) N2
      refine ⟨pvs, _, U, by exact (Nat.le_trans (Nat.le_of_eq (hlen.trans h3)) (Nat.le_trans (Nat.mul_le_mul_left 2 (Nat.le_trans (Nat.le_trans (Nat.le_add_right _ _) (Nat.le_of_eq h4)) hK)) (by decide))), ?_⟩
      exact fin (.num S) _ N2 k2 _ _ ok (.num (List.mem_append_left _ hu))
    · have hc : ¬ v < 4 := fun z => of_decide_eq_false hc (by exact (Int.ofNat_lt.mpr z))
      refine ⟨fun h6 => ?_, fun h6 => ?_⟩
      · (conv => whnf)
        refine draw_bg (n := 59) G hD (k := k + 1) (lim := 4) ((it, .raw (P (i + 1))) :: N) (by decide) (by decide) fun m hm => ?_
        refine ⟨⟨pvs, List.mem_append_right _ (.head _)⟩, ?_⟩
        refine ⟨fill_nat (k := m) (Nat.le_trans (Nat.le_of_lt hm) (by decide)), ?_⟩
        rw [pyMul_one, Int.toNat_natCast]
        have hr : (List.replicate m 32).length ≤ 4 := by rw [List.length_replicate]; lia
        refine ⟨Nat.le_trans (Nat.add_le_add_left hr _) (by decide), ?_⟩
        refine ⟨by rw [List.length_append]; exact Nat.le_trans (Nat.add_le_add_right (Nat.add_le_add_left hr _) _) (by decide), ?_⟩
        refine ⟨pvs, _, UpdH.mid ((it, .raw (P (i + 1))) :: N) _, by exact (Nat.le_trans (Nat.le_of_eq (hlen.trans h3)) (Nat.le_trans (Nat.mul_le_mul_left 2 (Nat.le_trans (Nat.le_trans (Nat.le_add_right _ _) (Nat.le_of_eq h4)) hK)) (by decide))), ?_⟩
        exact fin (.wide m) _ [] (k + 1 + 1) _ _ (Nat.le_of_lt_succ hm) .wide
      · have h6 : v = 4 ∨ v = 5 := by have : ¬ v = 6 := fun z => of_decide_eq_false h6 (by rw [z]; rfl)
                                      lia
        rcases h6 with rfl | rfl
        · (conv => whnf)
          refine ⟨⟨pvs, List.mem_append_right _ (.head _)⟩, ?_⟩
          refine ⟨by simp, fun x hx => ?_⟩
          refine ⟨_, _, .head _, by simp, rfl, ?_⟩
          refine ⟨(i02 (by decide) (by decide) (by decide)), ?_⟩
          refine ⟨pvs, _, UpdH.mid ((x, _) :: (it, .raw (P (i + 1))) :: N) _, by exact (Nat.le_trans (Nat.le_of_eq (hlen.trans h3)) (Nat.le_trans (Nat.mul_le_mul_left 2 (Nat.le_trans (Nat.le_trans (Nat.le_add_right _ _) (Nat.le_of_eq h4)) hK)) (by decide))), ?_⟩
          exact fin .first _ [(x, _)] (k + 1) _ _ trivial .first
        · (conv => whnf)
          refine ⟨⟨pvs, List.mem_append_right _ (.head _)⟩, ?_⟩
          refine ⟨by simp, fun x hx => ?_⟩
          refine ⟨_, _, .head _, by simp, rfl, ?_⟩
          refine ⟨(i02 (by decide) (by decide) (by decide)), ?_⟩
          refine ⟨pvs, _, UpdH.mid ((x, _) :: (it, .raw (P (i + 1))) :: N) _, by exact (Nat.le_trans (Nat.le_of_eq (hlen.trans h3)) (Nat.le_trans (Nat.mul_le_mul_left 2 (Nat.le_trans (Nat.le_trans (Nat.le_add_right _ _) (Nat.le_of_eq h4)) hK)) (by decide))), ?_⟩
          exact fin .all _ [(x, _)] (k + 1) _ _ trivial .all
theorem law_drawn_ok (G : Good C ss fns bs fields) (hD : Purse L ns ah2) {k : Nat} :
    Fn C 60 (adr C.K "_law_drawn") [.ref d] (p1 ++ (d, purO L k) :: ah2) fun r ah' => ∃ (j : Nat) (parts : List Part) (pvs : List PV) (k' : Nat) (f : Addr) (N : AH), 1 ≤ j ∧ j ≤ 3 ∧ r = .ref f ∧ ah' = N ++ (f, .list pvs) :: (p1 ++ (d, purO L k') :: ah2) ∧ PartsV C N parts pvs ∧ Drawn j parts := by
  refine Fn_W (F := F_law_drawn C.K) (n := 59) rfl G (D_law_drawn G) C_law_drawn rfl rfl fun V => ?_
  refine ⟨by simp, fun f hf => ?_⟩
  refine draw_bg (n := 59) G hD (k := k) (lim := 3) [] (by decide) (by decide) fun v hv => ?_
  have e1 : 1 + (v : Int) = ((1 + v : Nat) : Int) := by lia
  (conv => whnf)
  rw [e1]
  refine ⟨1 + v, rfl, fun a ha => ?_⟩
  refine ⟨_, _, .range (.head _) (by exact (Nat.le_trans (Nat.add_le_add_left (Nat.le_of_lt hv) 1) (by decide))), fun P it hit => ?_⟩
  refine drawn_turns G hD (K := 1 + v) (fun parts pvs N k' a b c h1 h2 => ?_) (by exact (Nat.le_trans (Nat.le_of_eq (Nat.add_comm 1 v)) hv)) _ 0 [] [] [(a, _)] (k + 1) 0 none none none .nil .nil rfl (by simp)
  exact (i65 (1 + v) parts pvs k' f N (Nat.le_add_right _ _) (by exact (Nat.le_trans (Nat.le_of_eq (Nat.add_comm 1 v)) hv)) rfl rfl h1 h2)
noncomputable abbrev Qr_v (d L : Addr) (p1 ah2 : AH) (r : PV) (ah' : AH) : Prop := ∃ (v : Val) (k' : Nat), ValOk v ∧ ValV v r ∧ ah' = p1 ++ (d, purO L k') :: ah2
theorem law_value_ok (G : Good C ss fns bs fields) (hD : Purse L ns ah2) {k : Nat} {kind : List Nat} :
    Fn C 20 (adr C.K "_law_value") [.ref d, .str kind] (p1 ++ (d, purO L k) :: ah2) fun r ah' => ∃ (v : Val) (k' : Nat), ValOk v ∧ ValV v r ∧ ah' = p1 ++ (d, purO L k') :: ah2 := by
  refine Fn_W (F := F_law_value C.K) (n := 19) rfl G (D_law_value G) C_law_value rfl rfl fun V => ?_
  refine draw_at G hD (lim := 12) p1 rfl (by decide) (by decide) fun v1 hv1 => ?_
  refine ⟨fun hc => ?_, fun hc => ?_⟩
  · (conv => whnf)
    refine draw_at G hD (lim := 8) p1 rfl (by decide) (by decide) fun v2 hv2 => ?_
    refine ⟨len_small (by decide), ?_⟩
    rw [pySlice_to]
    exact (i22 (.txt _) _ (Nat.le_trans (List.length_take_le _ _) (by lia)) .txt rfl)
  · (conv => whnf)
    refine draw_at G hD (lim := 100000) p1 rfl (by decide) (by decide) fun v2 hv2 => ?_
    refine ⟨by decide, ?_⟩
    have h1 : ((v2 : Int) - 20000).natAbs < 2 ^ 62 := Nat.lt_of_le_of_lt (Nat.le_trans (Int.natAbs_sub_le _ _) (Nat.add_le_add_right (Nat.le_of_lt hv2) _)) (by decide)
    (conv => whnf)
    generalize (v2 : Int) - 20000 = c at *
    have fin : ∀ k', Qr_v d L p1 ah2 (.int c) (p1 ++ (d, purO L k') :: ah2) := fun k' => (i22 (.num c 0) k' (i02 h1 (by decide) (by decide)) (.num (.int rfl)) rfl)
    refine ⟨fun z0 => ?_, fun z0 => ?_⟩
    · (conv => whnf)
      refine ⟨fun z0 => ?_, fun q => (by cases q)⟩
      exact fin _
    · (conv => whnf)
      refine draw_at G hD (lim := 3) p1 rfl (by decide) (by decide) fun v3 hv3 => ?_
      refine ⟨fun z0 => ?_, fun z0 => ?_⟩
      · (conv => whnf)
        exact fin _
      · (conv => whnf)
        refine draw_at G hD (lim := 9) p1 rfl (by decide) (by decide) fun v4 hv4 => ?_
        exact (i22 (.num c ((v4 : Int) - 6)) _ (i02 h1 (by lia) (by lia)) (.num .dec) rfl)
end
/-! ### what the law puts for a part -/
noncomputable def pieceOf : Part → Piece
  | .num S => .pic S.pic
  | .wide m => .wide (m + 2)
  | .first => .first
  | .all => .whole
  | .plain _ _ => .none
noncomputable def optPV : Option (List Nat) → PV
  | some t => .str t
  | none => .none
theorem tri3 {a b c : PV} : [a, b, c].length ≤ 1000000 := Nat.le_of_ble_eq_true rfl
theorem take_pad (l : List Nat) {k a b : Nat} (ha : k ≤ a) (hb : k ≤ b) : (l ++ List.replicate a 32).take k = (l ++ List.replicate b 32).take k := by
  rw [List.take_append, List.take_append, List.take_replicate, List.take_replicate, Nat.min_eq_left (by exact (Nat.le_trans (Nat.sub_le _ _) (by assumption))), Nat.min_eq_left (by exact (Nat.le_trans (Nat.sub_le _ _) (by assumption)))]
theorem put_text (G : Good C ss fns bs fields) {kd t l T : List Nat} {p : PV} {ah : AH} (hl : l.length ≤ 100) (h : (kd = kFirst ∧ T = (l ++ [32]).take 1) ∨ (kd = kAll ∧ T = l) ∨ ∃ k : Nat, k ≤ 9 ∧ kd = kWide ∧ p = .int k ∧ T = (l ++ pyMul [32] k).take k) :
    Fn C 40 (adr C.K "_law_put") [.tuple [.str kd, .str t, p], .str l] ah fun r ah' => r = .str T ∧ ∃ N, ah' = N ++ ah := by
  refine Fn_W (F := F_law_put C.K) (n := 39) rfl G (D_law_put G) C_law_put rfl rfl fun V => ?_
  have h9 : pyMul [32] 9 = List.replicate 9 32 := pyMul_one 32 9
  have sl : (l ++ List.replicate 9 32).length ≤ 1000000 := by rw [List.length_append, List.length_replicate]; lia
  have tl : ∀ {k : Nat}, k ≤ 9 → pySlice none (some (k : Int)) (l ++ List.replicate 9 32) = (l ++ List.replicate k 32).take k := fun {k} hk => (pySlice_to _ k).trans (take_pad l hk (Nat.le_refl k))
  refine ⟨tri3, ?_⟩
  have hn : decide (kd = kNum) = false := by
    rcases h with ⟨rfl, -⟩ | ⟨rfl, -⟩ | ⟨k, -, rfl, -⟩ <;> decide
  (conv => whnf)
  rw [hn]
  refine ⟨fun q => (by cases q), fun z0 => ?_⟩
  refine ⟨tri3, ?_⟩
  (conv => whnf)
  rw [hn]
  refine ⟨fun q => (by cases q), fun z0 => ?_⟩
  refine ⟨tri3, ?_⟩
  rcases h with ⟨rfl, rfl⟩ | ⟨rfl, rfl⟩ | ⟨k, hk, rfl, rfl, rfl⟩
  · (conv => whnf)
    refine ⟨fun q => (by cases q), fun z0 => ?_⟩
    refine ⟨(i02 (by decide) (by decide) (by decide)), ?_⟩
    rw [h9]
    refine ⟨by rw [List.length_append] at sl; lia, ?_⟩
    refine ⟨tri3, ?_⟩
    refine ⟨fun z0 => ?_, fun q => (by cases q)⟩
    refine ⟨sl, ?_⟩
    exact ⟨congrArg PV.str (tl (k := 1) (by decide)), [], rfl⟩
  · (conv => whnf)
    refine ⟨fun z0 => ?_, fun q => (by cases q)⟩
    exact ⟨rfl, [], rfl⟩
  · (conv => whnf)
    refine ⟨fun q => (by cases q), fun z0 => ?_⟩
    refine ⟨(i02 (by decide) (by decide) (by decide)), ?_⟩
    rw [h9]
    refine ⟨by rw [List.length_append] at sl; lia, ?_⟩
    refine ⟨tri3, ?_⟩
    refine ⟨fun q => (by cases q), fun z0 => ?_⟩
    refine ⟨tri3, ?_⟩
    refine ⟨sl, ?_⟩
    rw [pyMul_one, Int.toNat_natCast]
    exact ⟨congrArg PV.str (tl hk), [], rfl⟩
theorem put_none (G : Good C ss fns bs fields) {kd t : List Nat} {p v : PV} {b : Bool} {ah : AH} (hb : isStrPV v = some b) (h : (b != !decide (kd = kNum)) = true) :
    Fn C 40 (adr C.K "_law_put") [.tuple [.str kd, .str t, p], v] ah fun r ah' => r = .none ∧ ∃ N, ah' = N ++ ah := by
  refine Fn_W (F := F_law_put C.K) (n := 39) rfl G (D_law_put G) C_law_put rfl rfl fun V => ?_
  (conv => whnf)
  rw [hb]
  refine ⟨tri3, ?_⟩
  (conv => whnf)
  rw [h]
  refine ⟨fun z0 => ?_, fun q => (by cases q)⟩
  exact ⟨rfl, [], rfl⟩
theorem put_num (G : Good C ss fns bs fields) {S : SP} {u : Addr} {t : List Nat} {v : PV} {c e : Int} {ah : AH} (hm : (u, spO C S) ∈ ah) (ok : S.Ok) (hv : NumV c e v) (ho : ValOk (.num c e)) :
    Fn C 40 (adr C.K "_law_put") [.tuple [.str kNum, .str t, .ref u], v] ah fun r ah' => r = .str (numBy S.pic c e) ∧ ∃ N, ah' = N ++ ah := by
  refine Fn_W (F := F_law_put C.K) (n := 39) rfl G (D_law_put G) C_law_put rfl rfl fun V => ?_
  have hb : isStrPV v = some false := by cases hv <;> rfl
  have hs := law_shown_ok G hm ok hv ho.1 ho.2.1 ho.2.2
  (conv => whnf)
  rw [hb]
  refine ⟨tri3, ?_⟩
  refine ⟨fun q => (by cases q), fun z0 => ?_⟩
  refine ⟨tri3, ?_⟩
  refine ⟨fun z0 => ?_, fun q => (by cases q)⟩
  refine ⟨tri3, ?_⟩
  exact FnP.ex hs (by decide) fun N => ⟨rfl, N, rfl⟩
theorem law_put_ok (G : Good C ss fns bs fields) {x : Part} {q pv : PV} {v : Val} {ah : AH} (hx : PartV C ah x q) (ok : FOk x) (hv : ValV v pv) (hvo : ValOk v) :
    Fn C 40 (adr C.K "_law_put") [q, pv] ah fun r ah' => r = optPV (putI (pieceOf x) v) ∧ ∃ N, ah' = N ++ ah := by
  have hnum : ∀ {c e : Int} {p : PV}, NumV c e p → isStrPV p = some false := fun h => by cases h <;> rfl
  cases hx with
  | num hm =>
    cases hv with
    | num hn => exact put_num G hm ok hn hvo
    | txt => exact put_none G (b := true) rfl rfl
  | wide =>
    cases hv with
    | num hn => exact put_none G (hnum hn) rfl
    | txt => exact put_text G hvo (.inr (.inr (i13 _ (Nat.le_trans (Nat.add_le_add_right ok 2) (by decide)) rfl rfl rfl)))
  | first =>
    cases hv with
    | num hn => exact put_none G (hnum hn) rfl
    | txt => exact put_text G hvo (.inl ⟨rfl, rfl⟩)
  | all =>
    cases hv with
    | num hn => exact put_none G (hnum hn) rfl
    | txt => exact put_text G hvo (.inr (.inl ⟨rfl, rfl⟩))
  | plain => exact ok.elim
/-! ### what is due -/
noncomputable def itemP : Part → Item
  | .plain _ u => .pl u
  | x => .pc (pieceOf x)
noncomputable def PartOk : Part → Prop
  | .plain t u => (t, u) ∈ plains
  | x => FOk x
theorem itemP_ok {x : Part} (h : PartOk x) : ItemOk (itemP x) := by
  cases x with
  | num S => exact sp_ok h
  | wide m => exact Nat.le_trans (Nat.add_le_add_right (show m ≤ 3 from h) 2) (by decide)
  | first => trivial
  | all => trivial
  | plain => trivial
theorem Drawn.ok {n : Nat} {l : List Part} (h : Drawn n l) : ∀ x ∈ l, PartOk x := by
  induction h with
  | nil => intro x hx; cases hx
  | @cons n p t u l a b c ih =>
    intro x hx
    cases hx with
    | head => cases p <;> first | exact a | exact a.elim
    | tail _ hx =>
      cases hx with
      | head => exact b
      | tail _ hx => exact ih x hx
theorem round_ne : ∀ (xs : List Item) (vs : List Val) (f : List Nat) (n : Nat) (g : List Nat) (m : Nat), roundF (xs.map cellI) vs f n = .go g m → (f ≠ [] ∨ ∃ s, Item.pl s ∈ xs ∧ s ≠ []) → g ≠ []
  | [], vs, f, n, g, m, h, hf => by
    cases h
    rcases hf with hf | ⟨s, hs, -⟩
    · exact hf
    · cases hs
  | .pl s :: r, vs, f, n, g, m, h, hf => by
    refine round_ne r vs (f ++ s) n g m h ?_
    rcases hf with hf | ⟨s', hs, hn⟩
    · exact .inl fun z => hf (List.append_eq_nil_iff.mp z).1
    · cases hs with
      | head => exact .inl fun z => hn (List.append_eq_nil_iff.mp z).2
      | tail _ hs => exact .inr (i11 s' hs hn)
  | .pc p :: r, [], f, n, g, m, h, hf => nomatch h
  | .pc p :: r, v :: vs, f, n, g, m, h, hf => by
    have h : (putI p v).elim .bad (fun t => roundF (r.map cellI) vs (f ++ t) (n + 1)) = .go g m := h
    cases hp : putI p v with
    | none => rw [hp] at h; cases h
    | some t =>
      rw [hp] at h
      refine round_ne r vs (f ++ t) (n + 1) g m h ?_
      rcases hf with hf | ⟨s', hs, hn⟩
      · exact .inl fun z => hf (List.append_eq_nil_iff.mp z).1
      · cases hs with
        | tail _ hs => exact .inr (i11 s' hs hn)
noncomputable abbrev dueL (f w : Addr) (fd : List Nat) (k : Nat) (pc to : Option PV) : Loc := [(Str.ofString "parts", some (.ref f)), (Str.ofString "values", some (.ref w)), (Str.ofString "found", some (.str fd)), (Str.ofString "at", some (.int (k : Int))), (Str.ofString "part", pc), (Str.ofString "told", to)]
structure DueQ (f w : Addr) (cs : List Cell) (vals : List Val) (fd : List Nat) (k : Nat) (A0 : AH) (Qn : St → Prop) (Qr : Kon) : Prop where
  go : ∀ f' m, roundF cs (vals.drop k) fd k = .go f' m → ∀ pc to N, Qn ⟨dueL f w f' m pc to, N ++ A0⟩
  stop : ∀ f', roundF cs (vals.drop k) fd k = .stop f' → ∀ loc N, Qr (.str f') ⟨loc, N ++ A0⟩
  bad : roundF cs (vals.drop k) fd k = .bad → ∀ loc N, Qr .none ⟨loc, N ++ A0⟩
theorem PartV.kind {ah : AH} {x : Part} {q : PV} (h : PartV C ah x q) : (∃ t u, x = .plain t u ∧ q = .tuple [.str kPlain, .str t, .str u]) ∨
    ∃ kd t p, q = .tuple [.str kd, .str t, p] ∧ decide (kd = kPlain) = false ∧ itemP x = .pc (pieceOf x) ∧ (PartOk x → FOk x) := by
  cases h with
  | plain => exact .inl (i21 _ _ rfl rfl)
  | _ => exact .inr (i33 _ _ _ rfl (by decide) rfl id)
theorem due_round (G : Good C ss fns bs fields) {V : Act C (F_law_due C.K)} {w f it : Addr} {PI : Nat → Obj → Prop} {vals : List Val} {ps all : List PV} {A0 : AH} {Qn : St → Prop} {Qr : Kon} (hw : (w, AObj.list ps) ∈ A0) (hf : (f, AObj.list all) ∈ A0) (hv : ValsV vals ps) (hb : ∀ v ∈ vals, ValOk v) (hl : vals.length ≤ 20) :
    ∀ (xs : List Part) (qs : List PV) (i k : Nat) (fd : List Nat) (pc to : Option PV) (N : AH), PartsV C A0 xs qs → (∀ x ∈ xs, PartOk x) → k ≤ vals.length → fd.length + plLen (xs.map itemP) + 10000 * (vals.length - k) ≤ 500000 →
      DueQ f w ((xs.map itemP).map cellI) vals fd k A0 Qn Qr →
      ForW (fun st' Q => Ws V 49 (forB (loB B_law_due_1)) (foB (hd (whB (hd ((prt 36).body.drop 1))))) st' Q Qr Q) 4 (fun ah => (f, AObj.list all) ∈ ah) PI it Qn qs i ⟨dueL f w fd k pc to, N ++ A0⟩
  | [], _, i, k, fd, pc, to, N, .nil, _, _, _, h => ⟨List.mem_append_right _ hf, h.go _ _ rfl pc to N⟩
  | x :: xs, q :: qs, i, k, fd, pc, to, N, .cons hx hxs, hok, hk, hfl, h => by
    refine ⟨List.mem_append_right _ hf, ?_⟩
    have hlen := hv.length
    have ih := due_round G (V := V) (it := it) (PI := PI) (Qn := Qn) (Qr := Qr) hw hf hv hb hl xs qs (i + 1)
    have hxo := hok _ (.head _)
    have hokr : ∀ y ∈ xs, PartOk y := fun y hy => hok y (.tail _ hy)
    have hx' := hx.mono (ah' := (it, .raw (PI (i + 1))) :: (N ++ A0)) fun z hz => .tail _ (List.mem_append_right _ hz)
    have hw' : (w, AObj.list ps) ∈ (it, AObj.raw (PI (i + 1))) :: (N ++ A0) := .tail _ (List.mem_append_right _ hw)
    rcases hx.kind with ⟨t, u, rfl, rfl⟩ | ⟨kd, t, p, rfl, hkd, hix, hfo⟩
    · have hfl : fd.length + (u.length + plLen (xs.map itemP)) + 10000 * (vals.length - k) ≤ 500000 := hfl
      refine ⟨tri3, ?_⟩
      refine ⟨fun z0 => ?_, fun q => by cases q⟩
      refine ⟨tri3, ?_⟩
      refine ⟨by exact (Nat.le_trans (Nat.le_trans (Nat.add_le_add_left (Nat.le_add_right _ _) _) (Nat.le_add_right _ _)) (Nat.le_trans hfl (by decide))), ?_⟩
      exact (i21 [] (N ++ A0) rfl (ih k (fd ++ u) _ _ N hxs hokr hk (by rw [List.length_append]; (rw [Nat.add_assoc fd.length]; exact hfl)) ⟨h.go, h.stop, h.bad⟩))
    · rw [List.map_cons, hix] at hfl h
      have hfl : fd.length + plLen (xs.map itemP) + 10000 * (vals.length - k) ≤ 500000 := hfl
      refine ⟨tri3, ?_⟩
      (conv => whnf)
      rw [hkd]
      refine ⟨fun q => (by cases q), fun z0 => ?_⟩
      refine ⟨ps, hw', by lia, ?_⟩
      obtain ⟨h1, h2, h3⟩ := h
      refine ⟨fun hc => ?_, fun hc => ?_⟩
      · have hc : k = ps.length := Int.ofNat.inj (of_decide_eq_true hc)
        have hd : vals.drop k = [] := List.drop_of_length_le (by exact (Nat.le_of_eq (hlen.symm.trans hc.symm)))
        rw [hd] at h2
        exact h2 fd rfl _ ((it, _) :: N)
      · have hc : k < vals.length := Nat.lt_of_le_of_ne hk fun e => of_decide_eq_false hc (by rw [hlen, e])
        refine x22 (hv.get hc) fun v pv g1 g2 g3 => ?_
        have hvo := hb v (List.mem_of_mem_drop (i := k) (by rw [g1]; exact .head _))
        rw [g1] at h1 h2 h3
        refine ⟨_, pv, hw', by lia, by unfold pIx; rw [if_pos (Int.natCast_nonneg _), Int.toNat_natCast]; exact g2, ?_⟩
        refine FnP.ex (law_put_ok G hx' (hfo hxo) g3 hvo) (by decide) fun M => ?_
        cases hp : putI (pieceOf x) v with
        | none =>
          have e3 : ∀ f n, roundF (cellI (.pc (pieceOf x)) :: (xs.map itemP).map cellI) (v :: vals.drop (k + 1)) f n = .bad := fun f n => by
            show (putI (pieceOf x) v).elim _ _ = _
            rw [hp]; rfl
          refine ⟨fun z0 => ?_, fun q => (by cases q)⟩
          have := h3 (e3 _ _) (dueL f w fd k (some (.tuple [.str kd, .str t, p])) (some .none)) (M ++ (it, .raw (PI (i + 1))) :: N)
          rw [List.append_assoc] at this
          exact this
        | some t' =>
          have ht' := put_len hp (by have := itemP_ok hxo; rw [hix] at this; exact this) hvo
          have er : ∀ f n, roundF (cellI (.pc (pieceOf x)) :: (xs.map itemP).map cellI) (v :: vals.drop (k + 1)) f n = roundF ((xs.map itemP).map cellI) (vals.drop (k + 1)) (f ++ t') (n + 1) := fun f n => by
            show (putI (pieceOf x) v).elim _ _ = _
            rw [hp]; rfl
          refine ⟨fun q => (by cases q), fun z0 => ?_⟩
          refine ⟨by exact (Nat.le_trans (Nat.add_le_add (Nat.le_trans (Nat.le_trans (Nat.le_add_right _ _) (Nat.le_add_right _ _)) hfl) ht') (by decide)), ?_⟩
          have := ih (k + 1) (fd ++ t') (some (.tuple [.str kd, .str t, p])) (some (.str t')) (M ++ N) hxs hokr hc (by rw [List.length_append]; exact (a_ur ht' hc hfl)) ⟨fun f' m e => h1 f' m ((er _ _).trans e), fun f' e => h2 f' ((er _ _).trans e), fun e => h3 ((er _ _).trans e)⟩
          rw [List.append_assoc] at this
          exact (i21 M (N ++ A0) rfl this)
theorem Drawn.pls {n : Nat} {l : List Part} (h : Drawn n l) : (l.map itemP).length = 2 * n ∧ plLen (l.map itemP) ≤ 5 * n := by
  induction h with
  | nil => exact ⟨rfl, Nat.zero_le _⟩
  | @cons n p t u l a b c ih =>
    have hu : u.length ≤ 5 := by
      have : ∀ q ∈ plains, q.2.length ≤ 5 := by decide
      exact this _ b
    have e : plLen ((p :: .plain t u :: l).map itemP) = u.length + plLen (l.map itemP) := by cases p <;> first | rfl | exact a.elim
    rw [e]
    refine ⟨?_, Nat.le_trans (Nat.add_le_add hu ih.2) (Nat.le_of_eq (Nat.add_comm 5 _))⟩
    have := ih.1
    simp only [List.map_cons, List.length_cons]
    lia
theorem Drawn.has {n : Nat} {l : List Part} (h : Drawn n l) (hn : 1 ≤ n) : (∃ p, Item.pc p ∈ l.map itemP) ∧ ∃ s, Item.pl s ∈ l.map itemP ∧ s ≠ [] := by
  cases h with
  | nil => cases hn
  | @cons n p t u l a b c =>
    refine ⟨⟨pieceOf p, ?_⟩, (i11 u (.tail _ (.head _)) ?_)⟩
    · have : itemP p = .pc (pieceOf p) := by cases p <;> first | rfl | exact a.elim
      exact this ▸ .head _
    · have : ∀ q ∈ plains, q.2 ≠ [] := by decide
      exact this _ b
structure DS where
  k : Nat
  fd : List Nat
  pc : Option PV
  to : Option PV
  N : AH
  n : Nat
theorem law_due_ok (G : Good C ss fns bs fields) {w f : Addr} {parts : List Part} {vals : List Val} {ps all : List PV} {A0 : AH} {j : Nat} (hw : (w, AObj.list ps) ∈ A0) (hf : (f, AObj.list all) ∈ A0) (hv : ValsV vals ps) (hb : ∀ v ∈ vals, ValOk v) (hl : vals.length ≤ 20) (h1 : 1 ≤ vals.length)
    (hP : PartsV C A0 parts all) (hD : Drawn j parts) (hj : 1 ≤ j) (hj3 : j ≤ 3) {R : Option (List Nat)} (hR : runF (vals.length + 1) ((parts.map itemP).map cellI) vals [] 0 = R) :
    Fn C 50 (adr C.K "_law_due") [.ref f, .ref w] A0 fun r ah' => r = optPV R ∧ ∃ N, ah' = N ++ A0 := by
  refine Fn_W (F := F_law_due C.K) (n := 49) rfl G (D_law_due G) C_law_due rfl rfl fun V => ?_
  have hlen := hv.length
  have hpl := hD.pls
  have hhas := hD.has hj
  have hok := fun x (hx : x ∈ parts.map itemP) => (by
    refine x11 (List.mem_map.mp hx) fun y hy ez0 => ?_
    obtain rfl := ez0
    exact itemP_ok (hD.ok y hy) : ItemOk x)
  have hall : all.length = 2 * j := by rw [hP.length, ← List.length_map (f := itemP), hpl.1]
  refine ⟨DS, fun q => ⟨dueL f w q.fd q.k q.pc q.to, q.N ++ A0⟩, fun q => (q.k < vals.length ∧ q.fd.length ≤ q.k * 11000 ∧ vals.length - q.k ≤ q.n ∧ runF (q.n + 1) ((parts.map itemP).map cellI) vals q.fd q.k = R) ∨ (vals.length = q.k ∧ q.fd ≠ [] ∧ R = some q.fd),
    fun q => vals.length - q.k, ⟨0, [], none, none, [], vals.length⟩, ⟨rfl, .inl (i03 h1 (Nat.zero_le _) (Nat.sub_le _ _) hR)⟩, fun q hq => ?_⟩
  obtain ⟨k, fd, pc, to, N, n⟩ := q
  dsimp only at hq ⊢
  refine ⟨ps, List.mem_append_right _ hw, by lia, ?_⟩
  (conv => whnf)
  rcases hq with ⟨q1, q3, q4, q5⟩ | ⟨q1, q2, q3⟩
  · refine ⟨fun z0 => ?_, fun z => absurd z (by rw [hlen, decide_eq_true (by exact (Int.ofNat_lt.mpr q1))]; simp)⟩
    have rg := fun g m => round_go (parts.map itemP) (vals.drop k) fd k g m hok fun v hv => hb v (List.mem_of_mem_drop hv)
    rw [List.length_drop] at rg
    rw [runF] at q5
    refine ⟨all, _, .list (List.mem_append_right _ hf) (by lia), fun PI it hit => ?_⟩
    refine due_round G hw hf hv hb hl parts all 0 k fd pc to N hP hD.ok (Nat.le_of_lt q1) (by exact (Nat.le_trans (Nat.add_le_add (Nat.add_le_add (Nat.le_trans q3 (Nat.mul_le_mul_right 11000 (Nat.le_trans (Nat.le_of_lt q1) hl))) (Nat.le_trans hpl.2 (Nat.mul_le_mul_left 5 hj3))) (Nat.mul_le_mul_left 10000 (Nat.le_trans (Nat.sub_le _ _) hl))) (by decide))) ⟨fun g m e pc' to' M => ?_, fun g e loc M => ?_, fun e loc M => ?_⟩
    · refine x13 (rg g m e) fun i ez0 r1 r2 r3 => ?_
      obtain rfl := ez0
      have r3 := r3 hhas.1
      have gn := round_ne _ _ _ _ _ _ e (.inr hhas.2)
      rw [e] at q5
      dsimp only at q5
      by_cases hc : vals.length ≤ k + i
      · rw [if_pos hc] at q5
        exact (i12 ⟨k + i, g, pc', to', M, 0⟩ rfl (.inr (i02 (by dsimp only; exact (Nat.le_antisymm hc (Nat.add_le_of_le_sub' (Nat.le_of_lt q1) r1))) gn q5.symm)) (by dsimp only; exact (a_vk r3 r1)))
      · rw [if_neg hc] at q5
        cases n with
        | zero => exact (absurd (Nat.le_trans r3 (Nat.le_trans r1 q4)) (by decide))
        | succ n => exact (i12 ⟨k + i, g, pc', to', M, n⟩ rfl (.inl (i03 (by dsimp only; exact (Nat.not_le.mp hc)) (by dsimp only; lia) (by dsimp only; exact (Nat.le_of_lt_succ (Nat.lt_of_lt_of_le (a_vk r3 r1) q4))) q5)) (by dsimp only; exact (a_vk r3 r1)))
    · rw [e] at q5
      exact ⟨congrArg optPV q5, M, rfl⟩
    · rw [e] at q5
      exact ⟨congrArg optPV q5, M, rfl⟩
  · refine ⟨fun z => absurd z (by rw [hlen, decide_eq_false (by exact (Int.not_lt.mpr (Int.ofNat_le.mpr (Nat.le_of_eq q1)))), decide_eq_false q2]; decide), fun z0 => ?_⟩
    exact ⟨congrArg optPV q3.symm, N, rfl⟩
end Mine
end
section
open PySem PySem.W PyProof.Rows
set_option Elab.async false
set_option tactic.hygienic false
set_option genSizeOf false
set_option genInjectivity false
set_option maxRecDepth 100000
set_option maxHeartbeats 1000000
set_option linter.unusedVariables false
set_option linter.unusedSimpArgs false
namespace Mine
variable {C : Cx}
/-! ### the reading of the law's own texts -/
theorem seqR_eats {f g : Pic → List Nat → Pic × Nat} {P P1 P2 : Pic} {x y l : List Nat} (h1 : f P (x ++ (y ++ l)) = (P1, x.length)) (h2 : g P1 (y ++ l) = (P2, y.length)) : seqR f g P (x ++ (y ++ l)) = (P2, (x ++ y).length) := by
  unfold seqR
  rw [h1]
  dsimp only
  rw [List.drop_left, h2, List.length_append]
theorem rdL_marks : ∀ (k : Nat) (P : Pic) (y : List Nat), rdL P (List.replicate k 35 ++ y) = ((rdL { P with left := P.left + k } y).1, (rdL { P with left := P.left + k } y).2 + k)
  | 0, P, y => rfl
  | k + 1, P, y => by
    rw [List.replicate_succ, List.cons_append, rdL_some (.inl rfl), rdL_marks k]
    have e : P.left + 1 + k = P.left + (k + 1) := by lia
    have e2 : (P.comma || decide ((35 : Nat) = 44)) = P.comma := Bool.or_false _
    dsimp only
    rw [e, e2]
    rfl
theorem rdR_marks : ∀ (k : Nat) (P : Pic) (y : List Nat), rdR P (List.replicate k 35 ++ y) = ((rdR { P with right := P.right + k } y).1, (rdR { P with right := P.right + k } y).2 + k)
  | 0, P, y => rfl
  | k + 1, P, y => by
    rw [List.replicate_succ, List.cons_append, rdR_some, rdR_marks k]
    have e : P.right + 1 + k = P.right + (k + 1) := by lia
    dsimp only
    rw [e]
    rfl
/-- a sign that stands behind a field -/
noncomputable def Gap (l : List Nat) : Prop := ∃ c r, l = c :: r ∧ (c = 32 ∨ c = 120)
/-- no mark of a number's places comes next -/
noncomputable def Ends (l : List Nat) : Prop := ∃ c r, l = c :: r ∧ c ≠ 35 ∧ c ≠ 44 ∧ c ≠ 46
theorem rdL_ends {P : Pic} {l : List Nat} (h : Ends l) : rdL P l = (P, 0) := by
  refine x23 h fun c r ez0 h1 h2 h3 => ?_
  obtain rfl := ez0
  rw [rdL, if_neg (by lia)]
theorem rdR_ends {P : Pic} {l : List Nat} (h : Ends l) : rdR P l = (P, 0) := by
  refine x23 h fun c r ez0 h1 h2 h3 => ?_
  obtain rfl := ez0
  rw [rdR, if_neg h1]
theorem rdQ_ends {P : Pic} {l : List Nat} (h : Ends l) : rdQ P l = (P, 0) := by
  refine x23 h fun c r ez0 h1 h2 h3 => ?_
  obtain rfl := ez0
  exact if_neg (fun z => h3 (List.cons.inj z).1)
noncomputable abbrev ptT (pt : Bool) (r : Nat) : List Nat := (if pt = true then [46] else []) ++ List.replicate r 35
noncomputable abbrev cmT (c : Bool) : List Nat := if c = true then [44] else []
theorem rdQ_pt {left r : Nat} {star dollar comma power pt : Bool} {sign l : List Nat} (hr : 0 < r → pt = true) (h : Ends l) : rdQ ⟨left, 0, false, star, dollar, comma, power, sign⟩ (ptT pt r ++ l) = (⟨left, r, pt, star, dollar, comma, power, sign⟩, (ptT pt r).length) := by
  cases pt with
  | true =>
    have e : ∀ (P : Pic) (m : List Nat), rdQ P (46 :: m) = ((rdR { P with point := true } m).1, (rdR { P with point := true } m).2 + 1) := fun P m => if_pos rfl
    refine (e _ (List.replicate r 35 ++ l)).trans ?_
    rw [rdR_marks, rdR_ends h]
    simp [ptT]
  | false =>
    have : r = 0 := Nat.eq_zero_of_not_pos fun z => nomatch hr z
    subst this
    exact rdQ_ends h
theorem rdP_sp {left p r : Nat} {star dollar power c pt : Bool} {sign l : List Nat} (hr : 0 < r → pt = true) (h : Ends l) :
    rdP ⟨left, 0, false, star, dollar, false, power, sign⟩ (((List.replicate p 35 ++ cmT c) ++ ptT pt r) ++ l) = (⟨left + p + (if c then 1 else 0), r, pt, star, dollar, c, power, sign⟩, ((List.replicate p 35 ++ cmT c) ++ ptT pt r).length) := by
  have stop : ∀ P, rdL P (ptT pt r ++ l) = (P, 0) := fun P => by
    cases pt with
    | true => rfl
    | false =>
      have : r = 0 := Nat.eq_zero_of_not_pos fun z => nomatch hr z
      subst this
      exact rdL_ends h
  have hL : rdL ⟨left, 0, false, star, dollar, false, power, sign⟩ ((List.replicate p 35 ++ cmT c) ++ (ptT pt r ++ l)) = (⟨left + p + (if c then 1 else 0), 0, false, star, dollar, c, power, sign⟩, (List.replicate p 35 ++ cmT c).length) := by
    rw [List.append_assoc, rdL_marks, List.length_append, List.length_replicate]
    cases c with
    | true =>
      rw [show cmT true ++ (ptT pt r ++ l) = 44 :: (ptT pt r ++ l) from rfl, rdL_some (.inr rfl), stop]
      exact Prod.ext rfl (Nat.add_comm 1 p)
    | false =>
      rw [show cmT false ++ (ptT pt r ++ l) = ptT pt r ++ l from rfl, stop]
      exact Prod.ext rfl (Nat.zero_add p)
  have := seqR_eats (f := rdL) (g := rdQ) hL (rdQ_pt hr h)
  rw [← List.append_assoc] at this
  exact this
theorem rdS_sp {left r : Nat} {star dollar comma power pt : Bool} {sign l T : List Nat} (ht : T ∈ tails) (hP : sign ≠ [] → T = []) (h : Gap l) : rdS ⟨left, r, pt, star, dollar, comma, power, sign⟩ (T ++ l) = (⟨left, r, pt, star, dollar, comma, power, if T = [] then sign else T ++ [98, 101, 104, 105, 110, 100]⟩, T.length) := by
  simp only [tails, List.mem_cons, List.not_mem_nil, or_false] at ht
  have key : T ≠ [] → sign = [] := fun q => Classical.byContradiction fun z => q (hP z)
  rcases ht with rfl | rfl | rfl
  · obtain ⟨c, r, rfl, rfl | rfl⟩ := h <;> exact if_neg fun z => absurd z.2 (by decide)
  · rw [key (by decide)]; rfl
  · rw [key (by decide)]; rfl
theorem ends_tail {l T : List Nat} (ht : T ∈ tails) (h : Gap l) : Ends (T ++ l) ∧ (T ++ l).take 4 ≠ [94, 94, 94, 94] := by
  refine x21 h fun c r ez0 hc => ?_
  obtain rfl := ez0
  simp only [tails, List.mem_cons, List.not_mem_nil, or_false] at ht
  rcases ht with rfl | rfl | rfl
  · exact ⟨(i23 c r rfl (by lia) (by lia) (by lia)), fun z => by have := (List.cons.inj z).1; lia⟩
  · exact ⟨(i23 43 _ rfl (by decide) (by decide) (by decide)), fun z => by have := (List.cons.inj z).1; lia⟩
  · exact ⟨(i23 45 _ rfl (by decide) (by decide) (by decide)), fun z => by have := (List.cons.inj z).1; lia⟩
theorem rdA1_sp {A l : List Nat} (ha : A ∈ aheads) : rdA1 pic0 (A ++ (35 :: l)) = (⟨marksOf A, 0, false, decide (42 ∈ A), decide (36 ∈ A), false, false, if A = [43] then [43, 97, 104, 101, 97, 100] else []⟩, A.length) := by
  simp only [aheads, List.mem_cons, List.not_mem_nil, or_false] at ha
  rcases ha with rfl | rfl | rfl | rfl | rfl <;> simp [rdA1, rdA, pic0, marksOf]
theorem rdPic_sp {S : SP} (ok : S.Ok) {l : List Nat} (h : Gap l) : rdPic (S.text ++ l) = (S.pic, S.text.length) := by
  obtain ⟨A, T, p, r, c, pw, pt⟩ := S
  obtain ⟨ha, ht, hat, hp1, hp5, hr, hrp⟩ := ok
  dsimp only at *
  generalize hpw : (if pw = true then [94, 94, 94, 94] else [] : List Nat) = W
  have et : SP.text ⟨A, T, p, r, c, pw, pt⟩ = (((A ++ ((List.replicate p 35 ++ cmT c) ++ ptT pt r)) ++ W) ++ T) := by
    rw [← hpw]
    simp only [SP.text, ptT, cmT, List.append_assoc]
  obtain ⟨q, rfl⟩ : ∃ q, p = q + 1 := ⟨p - 1, by exact ((Nat.sub_add_cancel hp1).symm)⟩
  obtain ⟨e1, e2⟩ := ends_tail ht h
  have eW : Ends (W ++ (T ++ l)) := by
    subst hpw
    cases pw
    · exact e1
    · exact (i23 94 _ rfl (by decide) (by decide) (by decide))
  have s2 := seqR_eats (rdA1_sp (A := A) (l := (List.replicate q 35 ++ cmT c) ++ ptT pt r ++ (W ++ (T ++ l))) ha) (rdP_sp (p := q + 1) (c := c) hrp eW)
  have s3 : ∀ (left r : Nat) (star dollar comma pt : Bool) (sign : List Nat), rdPow ⟨left, r, pt, star, dollar, comma, false, sign⟩ (W ++ (T ++ l)) = (⟨left, r, pt, star, dollar, comma, pw, sign⟩, W.length) := fun left r star dollar comma pt sign => by
    subst hpw
    cases pw
    · exact if_neg e2
    · rfl
  rw [← List.append_assoc] at s2
  have s4 := seqR_eats s2 (s3 _ _ _ _ _ _ _)
  rw [← List.append_assoc] at s4
  have s5 := seqR_eats s4 (rdS_sp ht (l := l) (fun q => ?_) h)
  · rw [rdPic, et]
    rw [← List.append_assoc] at s5
    rw [s5]
    simp only [SP.pic, signOf, Prod.mk.injEq, and_true]
    have el : marksOf A + (q + 1) + (if c = true then 1 else 0) = q + 1 + marksOf A + (if c = true then 1 else 0) := by lia
    rw [el]
    by_cases hA : A = [43]
    · rw [if_pos hA, if_pos (hat hA), if_pos hA]
    · rw [if_neg hA, if_neg hA]
  · by_cases hA : A = [43]
    · exact hat hA
    · rw [if_neg hA] at q; exact absurd rfl q
theorem begins_sp {S : SP} (ok : S.Ok) (l : List Nat) : begins (S.text ++ l) = true := by
  obtain ⟨A, T, p, r, c, pw, pt⟩ := S
  obtain ⟨ha, ht, hat, hp1, hp5, hr, hrp⟩ := ok
  dsimp only at *
  obtain ⟨q, rfl⟩ : ∃ q, p = q + 1 := ⟨p - 1, by exact ((Nat.sub_add_cancel hp1).symm)⟩
  obtain ⟨r', et⟩ : ∃ r', SP.text ⟨A, T, q + 1, r, c, pw, pt⟩ ++ l = A ++ 35 :: r' := ⟨_, by simp only [SP.text, List.append_assoc, List.replicate_succ, List.cons_append]; rfl⟩
  rw [et]
  simp only [aheads, List.mem_cons, List.not_mem_nil, or_false] at ha
  rcases ha with rfl | rfl | rfl | rfl | rfl <;> simp [begins]
theorem sp_pos {S : SP} (ok : S.Ok) : 1 ≤ S.text.length := by
  have := ok.l1
  simp only [SP.text, List.length_append, List.length_replicate]
  exact (Nat.le_add_right_of_le (Nat.le_add_right_of_le (Nat.le_add_right_of_le (Nat.le_add_right_of_le (Nat.le_add_right_of_le (Nat.le_add_left_of_le this))))))
theorem sp_len {S : SP} (ok : S.Ok) : S.text.length ≤ 30 := by
  have h1 := ok.l5
  have h2 := ok.r
  have hA := A_len ok.a
  have hT := T_len ok.t
  have i1 := ite_str (c := S.c) (a := [44]) (b := []) (k := 1) (by decide) (by decide)
  have i2 := ite_str (c := S.pt) (a := [46]) (b := []) (k := 1) (by decide) (by decide)
  have i3 := ite_str (c := S.pw) (a := [94, 94, 94, 94]) (b := []) (k := 4) (by decide) (by decide)
  simp only [SP.text, List.length_append, List.length_replicate]
  exact (Nat.le_trans (Nat.add_le_add (Nat.add_le_add (Nat.add_le_add (Nat.add_le_add (Nat.add_le_add (Nat.add_le_add hA h1) i1) i2) h2) i3) hT) (by decide))
noncomputable def textP : Part → List Nat
  | .num S => S.text
  | .wide m => wideT m
  | .first => [33]
  | .all => [38]
  | .plain t _ => t
theorem spaces_mid : ∀ (m : Nat) (l : List Nat), spaces (List.replicate m 32 ++ 92 :: l) = m
  | 0, l => rfl
  | m + 1, l => by
    rw [List.replicate_succ, List.cons_append]
    show ((32 :: (List.replicate m 32 ++ 92 :: l)).takeWhile (· == 32)).length = _
    rw [List.takeWhile_cons]
    exact congrArg (· + 1) (spaces_mid m l)
theorem itF_pc {x l s : List Nat} {p : Piece} (hx : 1 ≤ x.length) (h : pcAt (x ++ l) = (p, x.length)) (hp : p ≠ .none) : itF (x ++ l).length (x ++ l) s = plainI s ++ .pc p :: itF l.length l [] := by
  have hd : (x ++ l).drop x.length = l := List.drop_left
  cases x with
  | nil => cases hx
  | cons c r =>
    rw [List.cons_append] at h hd ⊢
    rw [itF_step, h]
    cases p with
    | none => exact absurd rfl hp
    | _ => show plainI s ++ _ :: itF ((c :: (r ++ l)).drop (c :: r).length).length ((c :: (r ++ l)).drop (c :: r).length) [] = _; rw [hd]
theorem itF_field {p : Part} (ok : FOk p) {l s : List Nat} (h : Gap l) : itF (textP p ++ l).length (textP p ++ l) s = plainI s ++ .pc (pieceOf p) :: itF l.length l [] := by
  cases p with
  | num S =>
    refine itF_pc (sp_pos ok) ?_ (fun z => nomatch z)
    have hb := begins_sp ok l
    have hr := rdPic_sp ok h
    show pcAt (S.text ++ l) = (.pic S.pic, S.text.length)
    generalize ht : S.text ++ l = t at *
    cases t with
    | nil =>
      have := congrArg List.length ht
      rw [List.length_append, List.length_nil] at this
      have := sp_pos ok
      lia
    | cons c r => rw [pcAt, if_pos hb, hr]
  | wide m =>
    refine itF_pc (x := wideT m) (by simp) ?_ (fun z => nomatch z)
    have e : wideT m ++ l = 92 :: (List.replicate m 32 ++ 92 :: l) := by simp
    have hb : ¬ begins (92 :: (List.replicate m 32 ++ 92 :: l)) = true := by simp [begins]
    have hs := spaces_mid m l
    have hd : ((List.replicate m 32 ++ 92 :: l).drop m).take 1 = [92] := by rw [List.drop_left' List.length_replicate]; rfl
    show pcAt (wideT m ++ l) = (.wide (m + 2), (wideT m).length)
    rw [e, pcAt, if_neg hb, if_neg (by decide), if_neg (by decide), if_neg (by simp), hs, if_pos ⟨rfl, hd⟩]
    simp
  | first =>
    refine itF_pc (x := [33]) (by decide) ?_ (fun z => nomatch z)
    have hb : ¬ begins (33 :: l) = true := by simp [begins]
    show pcAt (33 :: l) = _
    rw [pcAt, if_neg hb, if_pos rfl]
    rfl
  | all =>
    refine itF_pc (x := [38]) (by decide) ?_ (fun z => nomatch z)
    have hb : ¬ begins (38 :: l) = true := by simp [begins]
    show pcAt (38 :: l) = _
    rw [pcAt, if_neg hb, if_neg (by decide), if_pos rfl]
    rfl
  | plain => exact ok.elim
theorem itF_sign {c : Nat} {r s : List Nat} (h : c = 32 ∨ c = 120 ∨ c = 58) : itF (c :: r).length (c :: r) s = itF r.length r (s ++ [c]) := by
  have hb : ¬ begins (c :: r) = true := by
    rcases h with rfl | rfl | rfl <;> simp [begins]
  have hp : pcAt (c :: r) = (.none, 1) := by
    rw [pcAt, if_neg hb]
    rcases h with rfl | rfl | rfl <;> simp
  rw [itF_step, hp]
  rfl
theorem itF_plainly {c : Nat} {r s : List Nat} : itF (95 :: c :: r).length (95 :: c :: r) s = itF r.length r (s ++ [c]) := by
  have hb : ¬ begins (95 :: c :: r) = true := by simp [begins]
  have hp : pcAt (95 :: c :: r) = (.none, 2) := by
    rw [pcAt, if_neg hb]
    simp
  rw [itF_step, hp]
  rfl
theorem itF_plain {t u l s : List Nat} (h : (t, u) ∈ plains) : itF (t ++ l).length (t ++ l) s = itF l.length l (s ++ u) := by
  simp only [plains, List.mem_cons, List.not_mem_nil, or_false, Prod.mk.injEq] at h
  rcases h with ⟨rfl, rfl⟩ | ⟨rfl, rfl⟩ | ⟨rfl, rfl⟩ | ⟨rfl, rfl⟩
  · exact itF_sign (.inl rfl)
  · refine (itF_sign (r := 95 :: 35 :: 58 :: 32 :: l) (.inl rfl)).trans (itF_plainly.trans ((itF_sign (.inr (.inr rfl))).trans ((itF_sign (.inl rfl)).trans ?_)))
    simp only [List.append_assoc, List.cons_append, List.nil_append]
  · exact itF_sign (.inr (.inl rfl))
  · refine (itF_sign (r := 95 :: 33 :: 32 :: l) (.inl rfl)).trans (itF_plainly.trans ((itF_sign (.inl rfl)).trans ?_))
    simp only [List.append_assoc, List.cons_append, List.nil_append]
theorem plain_gap {t u l : List Nat} (h : (t, u) ∈ plains) : Gap (t ++ l) ∧ u ≠ [] ∧ t.length ≤ 5 := by
  simp only [plains, List.mem_cons, List.not_mem_nil, or_false, Prod.mk.injEq] at h
  rcases h with ⟨rfl, rfl⟩ | ⟨rfl, rfl⟩ | ⟨rfl, rfl⟩ | ⟨rfl, rfl⟩
  · exact (i02 (i21 32 _ rfl (.inl rfl)) (by decide) (by decide))
  · exact (i02 (i21 32 _ rfl (.inl rfl)) (by decide) (by decide))
  · exact (i02 (i21 120 _ rfl (.inr rfl)) (by decide) (by decide))
  · exact (i02 (i21 32 _ rfl (.inl rfl)) (by decide) (by decide))
noncomputable def txtOf (l : List Part) : List Nat := (l.map textP).flatten
theorem field_len {p : Part} (ok : FOk p) : (textP p).length ≤ 30 := by
  cases p with
  | num S => exact sp_len ok
  | wide m => have : m ≤ 3 := ok; simp [textP]; lia
  | first => exact Nat.le_of_ble_eq_true rfl
  | all => exact Nat.le_of_ble_eq_true rfl
  | plain => exact ok.elim
theorem Drawn.items {n : Nat} {l : List Part} (h : Drawn n l) : ∀ s, itF (txtOf l).length (txtOf l) s = plainI s ++ l.map itemP := by
  induction h with
  | nil => intro s; exact (List.append_nil _).symm
  | @cons n p t u l a b c ih =>
    intro s
    refine x02 (plain_gap (l := txtOf l) b) fun g1 g2 z0 => ?_
    have e : txtOf (p :: .plain t u :: l) = textP p ++ (t ++ txtOf l) := rfl
    have ei : itemP p = .pc (pieceOf p) := by cases p <;> first | rfl | exact a.elim
    rw [e, itF_field a g1, itF_plain b, ih, List.nil_append, show plainI u = [.pl u] from if_neg g2, List.map_cons, ei]
    rfl
theorem Drawn.len {n : Nat} {l : List Part} (h : Drawn n l) : (txtOf l).length ≤ 35 * n := by
  induction h with
  | nil => exact Nat.zero_le _
  | @cons n p t u l a b c ih =>
    have e : txtOf (p :: .plain t u :: l) = textP p ++ (t ++ txtOf l) := rfl
    have h1 := field_len a
    have h2 := (plain_gap (l := txtOf l) b).2.2
    rw [e, List.length_append, List.length_append]
    exact (Nat.le_trans (Nat.add_le_add h1 (Nat.add_le_add h2 ih)) (Nat.le_of_eq ((Nat.add_assoc 30 5 _).symm.trans (Nat.add_comm 35 _))))
theorem items_drawn {n : Nat} {l : List Part} (h : Drawn n l) : itemsOf (txtOf l) = l.map itemP := h.items []
end Mine
end
section
open PySem PySem.W PyProof.Rows
set_option Elab.async false
set_option tactic.hygienic false
set_option genSizeOf false
set_option genInjectivity false
set_option maxRecDepth 100000
set_option maxHeartbeats 1000000
set_option linter.unusedVariables false
set_option linter.unusedSimpArgs false
namespace Mine
variable {C : Cx}
/-! ### what is heard: the text, or the error's code -/
noncomputable abbrev errT : List Nat := [101, 114, 114, 111, 114, 32]
noncomputable def Flat : PV → Prop
  | .tuple _ => False
  | _ => True
theorem Flat.all {p : PV} {v : Value} {tl tl' : Led} (h : Flat p) (r : VRel tl p v) : VRel tl' p v := by
  cases r with
  | none => exact .none
  | bool => exact .bool _
  | int => exact .int ..
  | str => exact .str ..
  | ref => exact .ref _
  | tuple => exact h.elim
noncomputable abbrev FlatL (loc : Loc) : Prop := ∀ x pv, (x, some pv) ∈ loc → Flat pv
theorem Sim.bare {h₀ : Heap} {h : HS} {L : Addr} {locs : List Str} {loc : Loc} {ah : AH} {p : PV} {v : Value} (S : Sim C h₀ L locs ⟨loc, ah⟩ [p] [v] h) (hf : FlatL loc) (hp : Flat p) : Sim C h₀ L locs ⟨loc, []⟩ [p] [v] h := by
  refine x30 S fun m mu tl S => ?_
  exact (i30 m [] [] ⟨S.F, News.nil, List.nodup_nil, .nil, S.nm, S.X, fun x pv hm => let ⟨v, a, b⟩ := S.R x pv hm; (i11 v a ((hf x pv hm).all b)), .cons (hp.all S.O.hd) .nil⟩)
section
variable {F : FnI} {V : Act C F} {n : Nat}
theorem Ex1_try {body : List Stmt} {h₀ : ExceptHandler} {hs : List ExceptHandler} {pos : Pos} {st : St} {Qn : St → Prop} {Qr : Kon} {Qc : St → Prop} (hC : C.er = none) (h : Ex V n body st Qn Qr Qc) : Ex1 V n (.Try body (h₀ :: hs) [] [] pos) st Qn Qr Qc := by
  intro A s hp hv E ok S
  refine wpAny_Try_except (wpAny_mono (h A s hp hv (fun z0 z0 => False) ⟨fun e s he => he.no hC, ok.fr, ok.hd, ok.dp, ok.un⟩ S) (fun f s1 hf => ?_) fun z0 z0 e => e.elim)
  cases f with
  | next => exact wpAny_execs_nil hf
  | _ => exact hf
end
noncomputable def tbS (x : Stmt) : List Stmt := match x with
  | .Try b _ _ _ _ => b
  | _ => []
noncomputable def tpS (x : Stmt) : Pos := match x with
  | .Try _ _ _ _ p => p
  | _ => ⟨0, 0, 0, 0⟩
noncomputable def thS (x : Stmt) : Option ExceptHandler := match x with
  | .Try _ [h] _ _ _ => some h
  | _ => none
noncomputable def hdT : Option ExceptHandler → Expr
  | some (.ExceptHandler (some t) _ _ _) => t
  | _ => dflE
noncomputable def hdB : Option ExceptHandler → List Stmt
  | some (.ExceptHandler _ _ b _) => b
  | _ => []
noncomputable def hdP : Option ExceptHandler → Pos
  | some (.ExceptHandler _ _ _ p) => p
  | _ => ⟨0, 0, 0, 0⟩
noncomputable abbrev heX : Stmt := hd (prt 37).body
noncomputable abbrev heR : Stmt := hd (hdB (thS heX))
noncomputable abbrev heV : Expr := svS heR
theorem heX_eq : (prt 37).body = [.Try (tbS heX) [.ExceptHandler (some (.Name (Str.ofString "BasicError") (hdT (thS heX)).pos)) (some (Str.ofString "e"))
    [.Return (some (.BinOp (.Constant (.str ⟨errT.toArray⟩) 0 (kid heV 0).pos) .Add (.Attribute (.Name (Str.ofString "e") (kid (kid heV 1) 0).pos) (Str.ofString "code") (kid heV 1).pos) heV.pos)) heR.pos] (hdP (thS heX))] [] [] (tpS heX)] := by kernel_rfl
noncomputable abbrev heB : PB := .ret (.call "using_text" (.cons (.var 0 "picture") (.cons (.var 1 "values") .nil))) .nil
theorem heB_ok : okB ⟨["picture", "values", "e"], ["using_text", "BasicError"], fns, bs⟩ heB (tbS heX) = true ∧ rebB heB (tbS heX) = tbS heX := ⟨by kernel_rfl, by kernel_rfl⟩
theorem heard_ret (G : Good C ss fns bs fields) (hC : C.er = none) {p q : PV} {ah : AH} {Q : PV → AH → Prop} (h : Fn C 130 (adr C.K "using_text") [p, q] ah Q) : Fn C 140 (adr C.K "_law_heard") [p, q] ah Q := by
  refine Fn_of_body (F := F_law_heard C.K) (n := 139) rfl (D_law_heard G) rfl fun V => ?_
  rw [heX_eq]
  refine Ex_cons (Ex1_try hC (B_at G (b := heB) rfl heB_ok ?_))
  exact ⟨h.mono (by decide) fun z0 z0 h => h⟩
theorem heard_suite {prog : Program} {w : World} {A : Around} {E : Value → Shared → Prop} {s : Shared} {env : Env} {nm q : Str} {cl N : Addr} {bs : List Value} {sn : List Str} {sub : List Value} {ab : Bool} {col : Option Bool} {dd : Option Addr} {k0 k1 k2 k3 k5 : Option Value} {newId : String} {mN mx m : Str → Option Value}
    {x d : Addr} {t tb : Value} {c : Str} {tk kk : Nat} {code : List Nat} {p2 p3 p4 p5 p6 : Pos} (hC : s.heap.get? cl = some (excClassObj nm q cl N bs excBm true sn sub ab col dd k0 k1 k2 k3 k5 newId)) (hN : s.heap.Ns N mN) (n1 : mN "__getattribute__" = none) (n2 : mN "__getattr__" = none) (n3 : mN "code" = none)
    (hx : s.heap.get? x = some (flyO cl d t tb)) (hd : s.heap.Ns d mx) (hv : mx "code" = some (.str c tk)) (hc : c.cps.toList = code) (hlen : code.length ≤ 1000) (hk : env.scope.kind = .function) (hl : env.kindOf "e" = some .local) (hns : s.heap.Ns env.locals m) (he : m "e" = some (.ref x))
    {Q : Flow → Shared → Prop} (hq : ∀ y t' tk', y.cps.toList = errT ++ code → Q (.ret (.str y t')) { s with toks := tk' }) :
    wpAny (model prog w) A (execs [.Return (some (.BinOp (.Constant (.str ⟨errT.toArray⟩) kk p2) .Add (.Attribute (.Name (Str.ofString "e") p3) (Str.ofString "code") p4) p5)) p6] env) Q E s := by
  obtain ⟨hp, g, dr, tks, os⟩ := s
  refine wpAny_execs_cons (wpAny_Return_some (wpAny_BinOp (wpAny_Constant_str (Attribute_any_ (wpAny_Name (wpAny_loadName_local hk hl hns he ?_) (by decide +kernel))))))
  refine code_attr hC hN n1 n2 n3 hx hd hv rfl fun tk' => ?_
  refine add_str (fun t' tk2 => hq _ t' tk2 ?_) ?_
  · rw [← hc]; exact cps_append _ _
  · rw [sizeLine_eq, len_eq, len_eq, hc]
    simp only [List.length_cons, List.length_nil]
    lia
theorem heard_raise (G : Good C ss fns bs fields) {code : List Nat} (hlen : code.length ≤ 1000) {p q : PV} {ah : AH} (hF : Fn (C.on (some (exA C, code))) 130 (adr C.K "using_text") [p, q] ah fun z0 z0 => False) {F : FnI} {V : Act C F} (ho : V.outer = []) (hb : V.h₀ = V.base)
    {A : Around} {s : Shared} {E : Value → Shared → Prop} {vs : List Value} {loc : Loc} (ok : V.Ok A 190 E) (hl : vs.length = 2) (S : V.Sim ⟨loc, ah⟩ [p, q] vs (vw s)) (flat : FlatL loc) :
    codeAny (M C) A (.call (.ref (adr C.K "_law_heard")) ⟨vs, []⟩) (RetP (Pst V [] [] fun p st' => st' = ⟨loc, []⟩ ∧ p = .str (errT ++ code)) E) s := by
  refine x30 S fun m mu tl S0 => ?_
  have D := D_law_heard G
  refine x111 D.look fun oc od osl name params dV kV doc pm an ct hlook hbind => ?_
  have hX := V.X.keeps S0.F.keep
  have hn : (["picture", "values"] : List Str).Nodup := by decide +kernel
  refine x03 (groundX (R := fun z0 z0 => True) V.B S0.F S0.N ok.fr rfl F.hk) fun FG BG st z0 => ?_
  have hdp := ok.dp
  have hun := ok.un
  refine codeAny_call_def (fd := fnX name (F_law_heard C.K).qual params (prt 37).body (F_law_heard C.K).scope [] dV kV doc pm an (F_law_heard C.K).cd ct) (body := (prt 37).body) (by simp only [recursionLimit]; lia) (hX _ _ hlook) rfl (V.T.nolimit.keeps S0.F.keep) (codeRec_of hX D.code) rfl (BindsTo.of_eq (hbind vs hl)) D.nocell ?_ (fun h₁ hns hk₁ => ?_) D.noco D.nogen (F_law_heard C.K).hk
  · intro y hy
    have : y.1 ∈ (["picture", "values"] : List Str) := List.of_mem_zip hy |>.1
    exact ((F_law_heard C.K).hl y.1 (D.locs ▸ List.mem_append_left _ this)).1
  let W : Act (C.on (some (exA C, code))) (F_law_heard C.K) := ⟨s.heap.objs.size, A, V.base, _, V.env :: V.outer, BG, V.X.keeps st, V.T.keeps st, []⟩
  have okW : W.Ok (A.deeper W.env) 139 (fun e s' => W.Er e s') := ⟨fun z0 z0 h => h, by show A.frames.map _ = _; rw [ok.fr]; rfl, ok.hd, by show A.depth + 1 + 139 < 1000; lia, by show A.units + 3 + 10 * 139 < 9900; lia⟩
  have SW : W.Sim ⟨loc0 ["picture", "values"] ["e"] [p, q], ah⟩ [] [] ((vw s).to h₁) :=
    (i30 _ mu tl ⟨⟨hns, fun b o e => hk₁ b o (of_hideAll _ e), Nat.le_of_eq (hideAll_size _ _)⟩, fun p hp => (i02 (hk₁ _ _ (S0.N p hp).1) (Nat.ne_of_lt (Heap.lt_size (S0.N p hp).1)) (hideAll_none _ (List.mem_map_of_mem hp))), S0.nd, S0.H.to (by rfl), (loc0_names rfl).trans D.locs.symm, S0.X, loc0_rel S0.O rfl hn, .nil⟩)
  have body : Ex W 139 (tbS heX) ⟨loc0 ["picture", "values"] ["e"] [p, q], ah⟩ (fun z0 => False) (fun z0 z0 => False) (fun z0 => False) := by
    refine B_at (G.on _) (b := heB) rfl heB_ok ?_
    exact ⟨hF.mono (by decide) fun z0 z0 h => h⟩
  show wpAny (M C) (A.deeper W.env) (execs (prt 37).body W.env) _ _ _
  rw [heX_eq]
  refine wpAny_execs_cons (wpAny_Try_except (wpAny_mono (body _ { s with heap := h₁, toks := _ } [] [] _ okW SW) (fun f s1 hf => ?_) fun e s1 hEr => ?_))
  · cases f with
    | next => exact hf.elim fun z0 z => z.1.elim
    | cont => exact hf.elim fun z0 z => z.1.elim
    | brk => exact hf.elim
    | ret v => exact hf.elim fun z0 z => z.elim fun z0 z => z.1.elim
  obtain ⟨⟨cl, code', x, fl, h1, rfl, hfl, Fy, hgo⟩, mH, hnH⟩ := hEr
  cases h1
  have hfr : (A.deeper W.env).frames = some (W.env :: W.outer) := okW.fr
  refine fly_note hfr rfl hfl Fy.here fun h' F1 => fly_land (s := { s1 with heap := h' }) F1 (.inl rfl) fun h2 F2 => ?_
  have hn2 := F2.slots.ns hnH
  have hV2 := (Fy.there F2).slots.ns FG.ns
  have XB : C.K.In V.base := hb ▸ V.X
  have TB := topRead_of (hb ▸ V.T : Top C.p C.loose C.mean C.mg C.mb V.base)
  obtain ⟨D', EX⟩ := exAt_of G valE_01 prtE_ok
  have hLn : V.base.get? s.heap.objs.size = none := by
    cases q : V.base.get? s.heap.objs.size with
    | none => rfl
    | some o => exact absurd (Heap.lt_size (S0.F.keep _ _ (hb ▸ q))) (Nat.lt_irrefl _)
  have hab : V.base.objs.size ≤ s.heap.objs.size := hb ▸ Nat.le_trans S0.F.above (Nat.le_of_lt S0.F.ns.lt)
  have hLV : V.L ≠ s.heap.objs.size := Nat.ne_of_lt S0.F.ns.lt
  have hC2 := (EX h2 (XB.keeps F2.stays)).obj
  refine x61 F2.exc fun t2 tb2 d2 md2 c2 tk2 hx2 z0 => ?_
  have hgl := (F_law_heard C.K).hg (Str.ofString "BasicError") (mem_of (by kernel_rfl))
  have hle : (W.env).kindOf (Str.ofString "e") = some .local := ((F_law_heard C.K).hl _ (mem_of (by kernel_rfl))).1
  refine wpAny_handleBy_cons (codeAny_handlers_test (nameX_K (s := { s1 with heap := h2 }) (h₀ := V.base) (m := mH) ⟨hn2, F2.stays, hab⟩ XB TB (G.exGlob valE_01).at_ ?_ (F_law_heard C.K).hk hgl.1 hgl.2)) (by intro q; cases q)
  refine wpAny_excMatches_sub_self hC2 hx2 rfl PySem.F.excBase_Exception.hasBase (codeAny_handlers_suite_as ?_)
  refine fly_land (s := { s1 with heap := h2 }) F2.here (.inl rfl) fun h3 F3 => ?_
  have hn3 := F3.slots.ns hn2
  have hV3 := F3.slots.ns hV2
  refine x65 F3.exc fun t3 tb3 d3 md3 c3 tk3 hx3 z0 hdne hdn hcd hcc => ?_
  have hxL : x ≠ s.heap.objs.size := fun q => by
    refine x32 hn3 fun oL es ep e1 e2 z0 => ?_
    cases (q ▸ hx3 : h3.get? s.heap.objs.size = _).symm.trans e1
    cases e2
  have hdL : d3 ≠ s.heap.objs.size := fun q => hdne W.env (.head _) (congrArg some q.symm)
  refine wpAny_storeName_local hle hn3 (fun h4 hn4 hs4 => ?_) (by show ((F_law_heard C.K).scope.kind == .class || ((F_law_heard C.K).scope.kind == .module && _)) = false; rw [(F_law_heard C.K).hk]; rfl)
  have st4 : V.base.StaysIn h4 := fun b o e => (hs4.2 b fun q => by rw [q, hLn] at e; cases e).trans (F3.stays b o e)
  have X4 := EX h4 (XB.keeps st4)
  have hC4 := X4.obj
  have no : ∀ y : Str, y ∈ (["__setattr__", "__getattribute__", "__getattr__", "code", "told"] : List Str) → D'.mN y = none := X4.no
  refine heard_suite hC4 X4.ns (no _ (by decide +kernel)) (no _ (by decide +kernel)) (no _ (by decide +kernel)) ((hs4.2 x hxL).trans hx3) (hdn.sameBut hs4 hdL) hcd hcc hlen (F_law_heard C.K).hk hle hn4 (by exact if_pos rfl) fun y t' tk' hy => ?_
  refine wpAny_nameGoes hle hn4 (by show ((F_law_heard C.K).scope.kind == .class || ((F_law_heard C.K).scope.kind == .module && _)) = false; rw [(F_law_heard C.K).hk]; rfl) fun h5 m5 hn5 hs5 => ?_
  have hs := hs4.trans hs5
  refine (i21 (.str (errT ++ code)) ⟨loc, []⟩ ⟨rfl, rfl⟩ (i30 m [] [] ⟨⟨hV3.sameBut hs hLV, fun b o e => ?_, S0.F.above⟩, News.nil, List.nodup_nil, .nil, S0.nm, hgo, fun z pv hm => let ⟨v, a, b⟩ := S0.R z pv hm; (i11 v a ((flat z pv hm).all b)), .cons (by rw [← hy]; exact .str y t') .nil⟩))
  rw [hb] at e
  exact (hs.2 b fun q => by rw [q, hLn] at e; cases e).trans (F3.stays b o e)
end Mine
end
section
open PySem PySem.W PyProof.Rows
set_option Elab.async false
set_option tactic.hygienic false
set_option genSizeOf false
set_option genInjectivity false
set_option maxRecDepth 100000
set_option maxHeartbeats 1000000
set_option linter.unusedVariables false
set_option linter.unusedSimpArgs false
namespace Mine
variable {C : Cx}
/-! ### the law -/
noncomputable def F_law (fa : Addr) (cd : Value) : FnI where
  qual := "law"
  scope := (prt 38).scope
  a := fa
  cd := cd
  locs := ["script", "parts", "values", "due"]
  gls := ["_law_drawn", "range", "_law_draw", "_law_due", "_law_heard"]
  hk := by kernel_rfl
  hnd := by decide +kernel
  hl := by decide +kernel
  hg := by decide +kernel
noncomputable abbrev lloc (Ls : Addr) (pa va du : Option PV) : Loc := [(Str.ofString "script", some (.ref Ls)), (Str.ofString "parts", pa), (Str.ofString "values", va), (Str.ofString "due", du)]
noncomputable def cmpP (x : Expr) : Expr × Comprehension × Scope := match x with
  | .ListComp e (g :: _) s _ => (e, g, s)
  | _ => (dflE, ⟨dflE, dflE, [], 0⟩, ⟨.function, [], false, false, []⟩)
noncomputable abbrev cE (x : Expr) : Expr := (cmpP x).1
noncomputable abbrev cT (x : Expr) : Expr := (cmpP x).2.1.target
noncomputable abbrev cI (x : Expr) : Expr := (cmpP x).2.1.iter
noncomputable abbrev cF (x : Expr) : Expr := hdE (cmpP x).2.1.ifs
noncomputable abbrev cS (x : Expr) : Scope := (cmpP x).2.2
noncomputable abbrev lx (i : Nat) : Stmt := hd ((prt 38).body.drop i)
noncomputable abbrev lv (i : Nat) : Expr := svS (lx i)
theorem ints_rel {tl : Led} : ∀ {vs : List Value} {ns : List Int}, IntsAre vs ns → VsRel tl (intsPV ns) vs
  | _, _, .nil => .nil
  | _, _, .cons n t h => .cons (.int n t) (ints_rel h)
/-- a slice of the list that came with the call -/
theorem Ev_cut {F : FnI} {V : Act C F} {n : Nat} {value : Expr} {k : Nat} {kd : Nat} {cp p pos : Pos} {Ls : Addr} {vs : List Value} {ns : List Int} {st : St} {Q : PV → St → Prop} (hL : V.h₀.IsList Ls vs.toArray) (hi : IntsAre vs ns) (hn : ns.length ≤ 100000)
    (hv : Ev V n value st fun x st1 => x = .ref Ls ∧ st1 = st) (htemp : ∀ v r, letTemporaryGo value v r = pure ()) (h : ∀ L, L ∉ st.ah.map (·.1) → Q (.ref L) ⟨st.loc, (L, .list (intsPV (ns.take k))) :: st.ah⟩) :
    Ev V n (.Subscript value (.Slice none (some (.Constant (.int k) kd cp)) none p) pos) st Q := by
  intro A s hp hv' E ok S
  refine Subscript_ (wpAny_mono (hv A s hp hv' E ok S) (fun vx s1 zz => x21 zz fun x st1 h0 S1 => x01 h0 fun e1 e2 => ?_) fun z0 z0 e => e)
  subst e1 e2
  obtain rfl := S1.ref1
  refine wpAny_Slice (evalPart_none_step (evalPart_some_step (wpAny_Constant_int (evalPart_none_step ?_))))
  refine x30 S1.drop1 fun m mu tl S2 => ?_
  have hl : s1.heap.IsList Ls vs.toArray := S2.F.lst hL
  have hlen := hi.length
  refine PyProof.Rows.slice_list (s := { s1 with toks := s1.toks + 1 }) (lo := none) (hi := some (k : Int)) S2.F S2.N hl .none (.int _ _) (fun h' F' N' => ?_) rfl (fun r => htemp _ _) (by rw [sizeLine_eq]; simp; lia)
  have hk : IntsAre (slicePick vs.toArray none (some (k : Int)) none).toList (ns.take k) := by
    have := slice_ints_uptoW hi (y := (k : Int)) (by lia)
    simpa using this
  generalize (slicePick vs.toArray none (some (k : Int)) none) = pk at hk N'
  have hfr : ∀ p ∈ mu ++ tl, p.1 ≠ s1.heap.objs.size + 1 := fun p hp => Nat.ne_of_lt (Nat.lt_succ_of_lt (lt_of_news S2.N p hp))
  have hfr2 : s1.heap.objs.size + 1 ∉ st1.ah.map (·.1) := by
    intro hm
    obtain ⟨⟨a, o⟩, hp', e⟩ := List.mem_map.mp hm
    obtain ⟨x, hx⟩ := S2.H.key hp'
    exact hfr _ (List.mem_append_left _ hx) e
  have S3 : Sim0 C V.h₀ V.L F.locs st1 (intsPV (ns.take k) ++ hp) (pk.toList ++ hv') (vw s1) m mu tl := ⟨S2.F, S2.N, S2.nd, S2.H, S2.nm, S2.X, S2.R, (ints_rel hk).append S2.O⟩
  have S4 := Sim0.newList (h' := h') (k := 0) S3 (by have := hk.length; simp [intsPV] at this ⊢; lia) hfr F' (by simpa using N')
  exact (i21 _ _ (h _ hfr2) S4)
theorem lx0_eq : lx 0 = .Assign [nmS "purse" (tgS (lx 0))] (.List [.Subscript (reb (.var 0 "script") (kid (kid (lv 0) 0) 0)) (.Slice none (some (.Constant (.int (40 : Nat)) 0 (kid (kid (kid (lv 0) 0) 1) 1).pos)) none (kid (kid (lv 0) 0) 1).pos) (kid (lv 0) 0).pos, reb (.int 0) (kid (lv 0) 1)] (lv 0).pos) (lx 0).pos := by kernel_rfl
theorem lx1_eq : lx 1 = .Assign [nmS "parts" (tgS (lx 1))] (reb (.call "_law_drawn" (.cons (.var 0 "purse") .nil)) (lv 1)) (lx 1).pos := by kernel_rfl
theorem lx2_eq : lx 2 = .Assign [nmS "fields" (tgS (lx 2))] (.ListComp (reb (.var 0 "part") (cE (lv 2))) [⟨nmS "part" (cT (lv 2)), reb (.var 1 "parts") (cI (lv 2)), [reb (.cmp .NotEq (.idx (.var 0 "part") (.int 0)) (.str kPlain)) (cF (lv 2))], 0⟩] (cS (lv 2)) (lv 2).pos) (lx 2).pos := by kernel_rfl
theorem lx3_eq : lx 3 = .Assign [nmS "values" (tgS (lx 3))] (.ListComp (reb (.call "_law_value" (.cons (.var 0 "purse") (.cons (.idx (.idx (.var 0 "fields") (.bin .Mod (.var 0 "turn") (.len (.var 0 "fields")))) (.int 0)) .nil))) (cE (lv 3)))
    [⟨nmS "turn" (cT (lv 3)), reb (.rng (.bin .Add (.int 1) (.call "_law_draw" (.cons (.var 0 "purse") (.cons (.int 4) .nil))))) (cI (lv 3)), [], 0⟩] (cS (lv 3)) (lv 3).pos) (lx 3).pos := by kernel_rfl
/-! ### its comprehensions -/
theorem ValsV.snoc {vs : List Val} {ps : List PV} {v : Val} {p : PV} (h : ValsV vs ps) (r : ValV v p) : ValsV (vs ++ [v]) (ps ++ [p]) := by
  induction h with
  | nil => exact .cons r .nil
  | cons a _ ih => exact .cons a ih
theorem CEv_eq {F : FnI} {V : Act C F} {n : Nat} {sc : Scope} {cl : List (Str × Addr)} {x : Str} {e e' : Expr} {p : PV} {st : St} {Q : PV → AH → Prop} (he : e = e') (h : CEv V n sc cl x e' p st Q) : CEv V n sc cl x e p st Q := he ▸ h
noncomputable def Tri (q : PV) : Prop := ∃ kd t p, q = .tuple [.str kd, .str t, p]
theorem fields_turns (G : Good C ss fns bs fields) {fa : Addr} {cd : Value} {V : Act C (F_law fa cd)} {it acc : Addr} {P : Nat → Obj → Prop} {keep : AH → Prop} {loc : Loc} {Qn : List PV → AH → Prop} {ah A0 : AH} (hkeep : keep ah) :
    ∀ (xs : List Part) (qs : List PV) (k : Nat) (out : List PV), PartsV C A0 xs qs → (∀ q ∈ out, Tri q) → (∀ out', (∀ q ∈ out', Tri q) → out'.length = out.length + pcs (xs.map itemP) → Qn out' ah) →
      CTurns (V.on none) 190 (cS (lv 2)) [] (Str.ofString "part") (reb (.var 0 "part") (cE (lv 2))) [reb (.cmp .NotEq (.idx (.var 0 "part") (.int 0)) (.str kPlain)) (cF (lv 2))] it acc P keep loc Qn qs k out ah
  | [], _, k, out, .nil, ht, h => ⟨hkeep, h out ht rfl⟩
  | x :: xs, q :: qs, k, out, .cons hx1 hxs, ht, h => by
    have ih := fields_turns G (V := V) (it := it) (acc := acc) (P := P) (keep := keep) (loc := loc) (Qn := Qn) (A0 := A0) hkeep xs qs (k + 1)
    have key : ∀ (kd t : List Nat) (p : PV), q = .tuple [.str kd, .str t, p] →
        (decide (kd = kPlain) = true → CBack it acc P (k + 1) out (fun ah2 => CTurns (V.on none) 190 (cS (lv 2)) [] (Str.ofString "part") (reb (.var 0 "part") (cE (lv 2))) [reb (.cmp .NotEq (.idx (.var 0 "part") (.int 0)) (.str kPlain)) (cF (lv 2))] it acc P keep loc Qn qs (k + 1) out ah2) ((it, .raw (P (k + 1))) :: (acc, .list out) :: ah)) →
        (decide (kd = kPlain) = false → CBack it acc P (k + 1) out (fun ah2 => CTurns (V.on none) 190 (cS (lv 2)) [] (Str.ofString "part") (reb (.var 0 "part") (cE (lv 2))) [reb (.cmp .NotEq (.idx (.var 0 "part") (.int 0)) (.str kPlain)) (cF (lv 2))] it acc P keep loc Qn qs (k + 1) (out ++ [q]) ah2) ((it, .raw (P (k + 1))) :: (acc, .list out) :: ah)) →
        CTurns (V.on none) 190 (cS (lv 2)) [] (Str.ofString "part") (reb (.var 0 "part") (cE (lv 2))) [reb (.cmp .NotEq (.idx (.var 0 "part") (.int 0)) (.str kPlain)) (cF (lv 2))] it acc P keep loc Qn (q :: qs) k out ah := by
      intro kd t p hq g1 g2
      subst hq
      refine ⟨hkeep, CTt_cmp rfl fun L v m hm => Iv_item (Iv_own rfl rfl (by decide +kernel) (.head _) hm (Iv_int ?_)) (fun z0 z0 => rfl)⟩
      refine Gi_tuple tri3 (p := .str kd) rfl (Iv_str (Co_ne_str (i11 _ rfl ?_)))
      by_cases hk : kd = kPlain
      · rw [decide_eq_true hk]
        exact g1 (decide_eq_true hk)
      · rw [decide_eq_false hk]
        exact CEv_name rfl rfl (by decide +kernel) (g2 (decide_eq_false hk))
    rcases hx1.kind with ⟨t, u, rfl, rfl⟩ | ⟨kd, t, p, rfl, hkd, hix, -⟩
    · exact key _ _ _ rfl (fun z0 => ⟨[], ah, rfl, ih out hxs ht h⟩) fun q => (by cases q)
    · refine key _ _ _ rfl (fun q => by rw [hkd] at q; cases q) fun z0 => ⟨[], ah, rfl, ih (out ++ [_]) hxs (fun q hq => ?_) fun out' ho hl => h out' ho ?_⟩
      · rcases List.mem_append.mp hq with hq | hq
        · exact ht q hq
        · exact (i30 kd t p (List.mem_singleton.mp hq))
      · rw [hl, List.map_cons, hix, List.length_append]
        exact (Nat.add_assoc ..).trans (congrArg _ (Nat.add_comm ..))
theorem texts_turns (G : Good C ss fns bs fields) {fa : Addr} {cd : Value} {V : Act C (F_law fa cd)} {i : Nat} {e : Expr} (he : e = .Subscript (.Name (Str.ofString "part") (kid e 0).pos) (.Constant (.int (1 : Nat)) 0 (kid e 1).pos) e.pos) {sc : Scope} (hk : sc.kind = .function) (hx : sc.names.lookup (Str.ofString "part") = some .local)
    {it acc : Addr} {P : Nat → Obj → Prop} {keep : AH → Prop} {loc : Loc} {Qn : List PV → AH → Prop} {ah A0 : AH} (hkeep : keep ah) :
    ∀ (xs : List Part) (qs : List PV) (k : Nat) (out : List PV), PartsV C A0 xs qs → Qn (out ++ (xs.map textP).map .str) ah → CTurns (V.on none) 190 sc [] (Str.ofString "part") e [] it acc P keep loc Qn qs k out ah
  | [], _, k, out, .nil, h => ⟨hkeep, by rw [← List.append_nil out]; exact h⟩
  | x :: xs, q :: qs, k, out, .cons hx1 hxs, h => by
    have ih := texts_turns G (V := V) he hk hx (i := i) (it := it) (acc := acc) (P := P) (keep := keep) (loc := loc) (Qn := Qn) (A0 := A0) hkeep xs qs (k + 1) (out ++ [.str (textP x)]) hxs (by rw [List.append_assoc]; exact h)
    have key : ∃ kd p, q = .tuple [.str kd, .str (textP x), p] := by
      cases hx1 with
      | _ => exact (i20 _ _ rfl)
    refine x20 key fun kd p ez0 => ?_
    obtain rfl := ez0
    refine ⟨hkeep, ?_⟩
    show CEv (V.on none) 190 sc [] (Str.ofString "part") e _ _ _
    refine CEv_eq he (CEv_of fun L v m hm => ?_)
    exact Iv_item (Iv_own hk (lookup_relabel_local hx) (by decide +kernel) (.head _) hm (Iv_int (Gi_tuple tri3 (p := .str (textP x)) rfl (i11 _ rfl ⟨[], ah, rfl, ih⟩)))) (fun z0 z0 => rfl)
theorem vals_turns (G : Good C ss fns bs fields) {fa : Addr} {cd : Value} {V : Act C (F_law fa cd)} {d L c1 c2 fl : Addr} {ns : List Int} {p1 ah2 : AH} {fs : List PV} (hD : Purse L ns ah2) {it acc : Addr} {P : Nat → Obj → Prop} {keep : AH → Prop} {loc : Loc} {Qn : List PV → AH → Prop}
    (hkeep : ∀ k, keep (p1 ++ (d, purO L k) :: ah2)) (hc1 : V.cl.lookup (Str.ofString "purse") = some c1) (hc2 : V.cl.lookup (Str.ofString "fields") = some c2) {cl : List (Str × Addr)} (h1 : cl.lookup (Str.ofString "purse") = some c1) (h2 : cl.lookup (Str.ofString "fields") = some c2)
    (m1 : (c1, AObj.raw (CellR d)) ∈ ah2) (m2 : (c2, AObj.raw (CellR fl)) ∈ ah2) (mf : (fl, AObj.list fs) ∈ p1) (hf : ∀ q ∈ fs, Tri q) (hf1 : 1 ≤ fs.length) (hf2 : fs.length ≤ 10) :
    ∀ (ms : List Nat) (k j : Nat) (vals : List Val) (out : List PV), ValsV vals out → (∀ v ∈ vals, ValOk v) → (∀ vals' out' j', ValsV vals' out' → (∀ v ∈ vals', ValOk v) → vals'.length = vals.length + ms.length → Qn out' (p1 ++ (d, purO L j') :: ah2)) →
      CTurns (V.on none) 190 (cS (lv 3)) cl (Str.ofString "turn") (reb (.call "_law_value" (.cons (.var 0 "purse") (.cons (.idx (.idx (.var 0 "fields") (.bin .Mod (.var 0 "turn") (.len (.var 0 "fields")))) (.int 0)) .nil))) (cE (lv 3))) [] it acc P keep loc Qn (ms.map fun i : Nat => .int i) k out (p1 ++ (d, purO L j) :: ah2)
  | [], k, j, vals, out, hv, hok, h => ⟨hkeep j, h vals out j hv hok rfl⟩
  | i :: ms, k, j, vals, out, hv, hok, h => by
    have ih := vals_turns G (V := V) hD (it := it) (acc := acc) (P := P) (keep := keep) (loc := loc) (Qn := Qn) hkeep hc1 hc2 h1 h2 m1 m2 mf hf hf1 hf2 ms (k + 1)
    refine ⟨hkeep j, CEv_of fun L' v m hm => ?_⟩
    have up1 : ∀ {x : Addr × AObj}, x ∈ p1 → x ∈ p1 ++ (d, purO L j) :: ah2 := List.mem_append_left _
    have up2 : ∀ {x : Addr × AObj}, x ∈ ah2 → x ∈ p1 ++ (d, purO L j) :: ah2 := fun h => List.mem_append_right _ (.tail _ h)
    have ex : i % fs.length < fs.length := Nat.mod_lt _ hf1
    obtain ⟨q, hq⟩ : ∃ q, fs[i % fs.length]? = some q := ⟨_, List.getElem?_eq_getElem ex⟩
    refine x30 (hf q (List.mem_of_getElem? hq)) fun kd t p ez0 => ?_
    obtain rfl := ez0
    refine Iv_call2 (G.on none |>.glob (g := Str.ofString "_law_value") (by decide +kernel)) ⟨rfl, rfl, rfl, rfl, by decide +kernel⟩ rfl rfl (Iv_cell rfl rfl h1 (by decide +kernel) (.tail _ (.tail _ (.tail _ (up2 m1)))) ?_)
    have S2 : Sees (C.on none) (compEnvC (cS (lv 3)) cl L' (V.on none).env) (Str.ofString "len") := ⟨rfl, rfl, rfl, rfl, by decide +kernel⟩
    have iF : ∀ {st : St} {Q : Kon}, (c2, AObj.raw (CellR fl)) ∈ st.ah → Q (.ref fl) st → ∀ xp, Iv (V.on none) 190 (compEnvC (cS (lv 3)) cl L' (V.on none).env) (.int i) v (.Name (Str.ofString "fields") xp) st Q := fun hm hq xp => Iv_cell rfl rfl h2 (by decide +kernel) hm hq
    have t3 : ∀ {a b c x : Addr × AObj}, x ∈ p1 ++ (d, purO L j) :: ah2 → x ∈ a :: b :: c :: (p1 ++ (d, purO L j) :: ah2) := fun h => .tail _ (.tail _ (.tail _ h))
    refine Iv_item (Iv_item (iF (t3 (up2 m2)) (Iv_bin (Iv_own rfl rfl (by decide +kernel) (.head _) hm (Iv_len (G.on none |>.bi (by decide +kernel) bo_len (by decide +kernel)) S2 rfl (iF (t3 (up2 m2)) (Ca_len_list (t3 (up1 mf)) (by lia) (Bo_mod_int ?_ ?_)) _)))) _) (fun z0 z0 => rfl)) (fun z0 z0 => rfl)
    · exact (Int.natCast_pos.mpr hf1)
    have e1 : (i : Int) % (fs.length : Int) = ((i % fs.length : Nat) : Int) := (Int.natCast_emod ..).symm
    rw [e1]
    refine Gi_list (t3 (up1 mf)) (by lia) (by unfold pIx; rw [if_pos (Int.natCast_nonneg _), Int.toNat_natCast]; exact hq) (Iv_int (Gi_tuple tri3 (p := .str kd) rfl ?_))
    refine Fn.mono (law_value_ok (C := C.on none) (p1 := (L', .raw (NsIs m)) :: (it, .raw (P (k + 1))) :: (acc, .list out) :: p1) (k := j) (G.on none) hD) (by decide) ?_
    rintro _ _ ⟨u, j', u1, u2, rfl⟩
    exact ⟨_, rfl, [], p1 ++ (d, purO L j') :: ah2, rfl, ih j' (vals ++ [u]) (out ++ [_]) (hv.snoc u2) (fun z hz => by
      rcases List.mem_append.mp hz with hz | hz
      · exact hok z hz
      · rw [List.mem_singleton.mp hz]; exact u1) fun vals' out' j2 a b c => h vals' out' j2 a b (by rw [c, List.length_append]; exact Nat.add_right_comm .. |>.trans (by rfl))⟩
theorem Drawn.pcs_eq {n : Nat} {l : List Part} (h : Drawn n l) : pcs (l.map itemP) = n := by
  induction h with
  | nil => rfl
  | @cons n p t u l a b c ih =>
    have ei : itemP p = .pc (pieceOf p) := by cases p <;> first | rfl | exact a.elim
    rw [List.map_cons, List.map_cons, ei]
    show pcs (l.map itemP) + 1 = _
    rw [ih]
/-! ### its statements -/
noncomputable def Ex0 {F : FnI} (V : Act C F) (n : Nat) (xs : List Stmt) (st : St) (Qr : Kon) : Prop :=
  ∀ A s E, V.Ok A n E → V.Sim st [] [] (vw s) → wpAny (M C) A (execs xs V.env) (PstF V [] [] (fun z0 => False) Qr (fun z0 => False)) E s
theorem Ex0_cons {F : FnI} {V : Act C F} {n : Nat} {x : Stmt} {r : List Stmt} {st : St} {Qr : Kon} (h : Ex1 V n x st (fun st1 => Ex0 V n r st1 Qr) Qr (fun z0 => False)) : Ex0 V n (x :: r) st Qr := by
  intro A s E ok S
  refine wpAny_execs_cons (wpAny_mono (h A s [] [] E ok S) (fun f s1 h1 => ?_) fun z0 z0 e => e)
  cases f with
  | next => refine x11 h1 fun st1 h1 S1 => ?_; exact h1 A s1 E ok S1
  | cont => exact h1
  | brk => exact h1
  | ret v => exact h1
theorem law_body : (prt 38).body = [lx 0, lx 1, lx 2, lx 3, lx 4, lx 5, lx 6] := by kernel_rfl
section
variable {fa : Addr} {cd : Value} {V : Act C (F_law fa cd)} {Ls : Addr} {c1 c2 : Addr}
theorem purse_cell : V.env.kindOf (Str.ofString "purse") = some .cell := by kernel_rfl
theorem fields_cell : V.env.kindOf (Str.ofString "fields") = some .cell := by kernel_rfl
theorem law_st0 (G : Good C ss fns bs fields) {vs : List Value} {ns : List Int} (hL : V.h₀.IsList Ls vs.toArray) (hI : IntsAre vs ns) (hn : ns.length ≤ 100000) (hc1 : V.cl.lookup (Str.ofString "purse") = some c1) {Qn : St → Prop} {Qr : Kon} {Qc : St → Prop}
    (h : ∀ d L, Qn ⟨lloc Ls none none none, (d, purO L 0) :: (L, .list (intsPV (ns.take 40))) :: (c1, .raw (CellR d)) :: (c2, .raw CellA) :: []⟩) :
    Ex1 V 190 (lx 0) ⟨lloc Ls none none none, [(c1, .raw CellA), (c2, .raw CellA)]⟩ Qn Qr Qc := by
  rw [lx0_eq]
  refine Ex1_asgCell hc1 purse_cell (P := CellA) (fun z0 h => h) (Ev_list (Es_cons (Ev_cut (k := 40) hL hI hn ?_ (fun z0 z0 => rfl) fun L hLf => Es_one (Ev_int ⟨Nat.le_of_ble_eq_true rfl, fun d hd => ?_⟩) rfl) rfl)) rfl
  · refine Ev.mono ((W_at G (.var 0 "script") _ ⟨by kernel_rfl, by kernel_rfl⟩).1 _ (fun p st' => p = .ref Ls ∧ st' = ⟨lloc Ls none none none, [(c1, .raw CellA), (c2, .raw CellA)]⟩) ⟨rfl, rfl⟩) fun p st' hp => hp
  · exact (i22 d _ rfl (.next (.next .here)) (h d L))
theorem law_st1 (G : Good C ss fns bs fields) {d L : Addr} {ns : List Int} {k : Nat} {ah2 : AH} (hD : Purse L ns ah2) (hc1 : V.cl.lookup (Str.ofString "purse") = some c1) (m1 : (c1, AObj.raw (CellR d)) ∈ ah2) {Qn : St → Prop} {Qr : Kon} {Qc : St → Prop}
    (h : ∀ j parts pvs k' f N, 1 ≤ j → j ≤ 3 → PartsV C N parts pvs → Drawn j parts → Qn ⟨lloc Ls (some (.ref f)) none none, N ++ (f, .list pvs) :: (d, purO L k') :: ah2⟩) :
    Ex1 V 190 (lx 1) ⟨lloc Ls none none none, (d, purO L k) :: ah2⟩ Qn Qr Qc := by
  rw [lx1_eq]
  refine Ex1_asgAt (i := 1) rfl (Ev_call (G.glob (g := Str.ofString "_law_drawn") (by decide +kernel)) (mem_of (by kernel_rfl)) (Es_one (Ev_cell hc1 purse_cell (by decide +kernel) (.tail _ m1) ?_) rfl) rfl fun z0 => rfl) rfl
  refine Fn.mono (law_drawn_ok (p1 := []) G hD) (by decide) ?_
  rintro _ _ ⟨j, parts, pvs, k', f, N, j1, j3, rfl, rfl, hP, hDr⟩
  exact h j parts pvs k' f N j1 j3 hP hDr
theorem law_st2 (G : Good C ss fns bs fields) {d L f : Addr} {k j : Nat} {N : AH} {parts : List Part} {pvs : List PV} (hP : PartsV C N parts pvs) (hDr : Drawn j parts) (hj : j ≤ 3) (hc2 : V.cl.lookup (Str.ofString "fields") = some c2) {o : AObj} {Qn : St → Prop} {Qr : Kon} {Qc : St → Prop}
    (h : ∀ acc fs, (∀ q ∈ fs, Tri q) → fs.length = j → Qn ⟨lloc Ls (some (.ref f)) none none, (acc, .list fs) :: (N ++ (f, .list pvs) :: (d, purO L k) :: (L, o) :: (c1, .raw (CellR d)) :: (c2, .raw (CellR acc)) :: [])⟩) :
    Ex1 V 190 (lx 2) ⟨lloc Ls (some (.ref f)) none none, N ++ (f, .list pvs) :: (d, purO L k) :: (L, o) :: (c1, .raw (CellR d)) :: (c2, .raw CellA) :: []⟩ Qn Qr Qc := by
  rw [lx2_eq]
  have hl : pvs.length = 2 * j := by rw [hP.length, ← List.length_map (f := itemP), hDr.pls.1]
  have hm : (f, AObj.list pvs) ∈ N ++ (f, .list pvs) :: (d, purO L k) :: (L, o) :: (c1, .raw (CellR d)) :: (c2, .raw CellA) :: [] := List.mem_append_right _ (.head _)
  refine Ex1_asgCell hc2 fields_cell (P := CellA) (fun z0 h => h) (Ev_comp (cl := []) (by kernel_rfl) (by decide +kernel) (by kernel_rfl) (by decide +kernel) (by kernel_rfl) (fun z0 => by kernel_rfl) ?_) (by kernel_rfl)
  refine Ev.mono ((W_at G (.var 1 "parts") _ ⟨by kernel_rfl, by kernel_rfl⟩).1 _ (fun p st' => p = .ref f ∧ st' = ⟨lloc Ls (some (.ref f)) none none, N ++ (f, .list pvs) :: (d, purO L k) :: (L, o) :: (c1, .raw (CellR d)) :: (c2, .raw CellA) :: []⟩) ⟨rfl, rfl⟩) fun p st' hp => ?_
  obtain ⟨rfl, rfl⟩ := hp
  refine (i22 pvs _ (by lia) (ItOf_list hm (by lia)) (fun it P acc hacc => ?_))
  refine fields_turns G (A0 := N) hm parts pvs 0 [] hP (fun q hq => nomatch hq) fun out ht hlen => ?_
  refine (i22 acc _ rfl (.next (UpdH.skip (.next (.next (.next (.next .here)))) N)) (h acc out ht ?_))
  rw [hlen, hDr.pcs_eq]
  exact Nat.zero_add _
end
section
variable {fa : Addr} {cd : Value} {V : Act C (F_law fa cd)} {Ls : Addr} {c1 c2 : Addr}
theorem cellOf_at {env : Env} {x : Str} {c : Addr} (h : env.cells.lookup x = some c) : cellOf env x = pure c := by
  unfold cellOf
  rw [h]
theorem vals_closure (hc1 : V.cl.lookup (Str.ofString "purse") = some c1) (hc2 : V.cl.lookup (Str.ofString "fields") = some c2) : closureFor (cS (lv 3)) V.env = pure [(Str.ofString "purse", c1), (Str.ofString "fields", c2)] := by
  have e1 : cellOf V.env (Str.ofString "purse") = pure c1 := cellOf_at hc1
  have e2 : cellOf V.env (Str.ofString "fields") = pure c2 := cellOf_at hc2
  have hn : (cS (lv 3)).names = [(Str.ofString ".0", .local), (Str.ofString "turn", .local), (Str.ofString "_law_value", .globalImplicit), (Str.ofString "len", .globalImplicit), (Str.ofString "fields", .free), (Str.ofString "purse", .free)] := by kernel_rfl
  have f1 : (NameKind.local == NameKind.free) = false := rfl
  have f2 : (NameKind.globalImplicit == NameKind.free) = false := rfl
  have f3 : (NameKind.free == NameKind.free) = true := rfl
  unfold closureFor
  rw [hn]
  simp only [List.forIn_cons, List.forIn_nil, f1, f2, f3, if_true, Bool.false_eq_true, if_false, pure_bind, e1, e2]
theorem law_st3 (G : Good C ss fns bs fields) {d L acc f : Addr} {k : Nat} {p1 ah2 : AH} {fs : List PV} {ns : List Int} (hD : Purse L ns ah2) (hc1 : V.cl.lookup (Str.ofString "purse") = some c1) (hc2 : V.cl.lookup (Str.ofString "fields") = some c2)
    (m1 : (c1, AObj.raw (CellR d)) ∈ ah2) (m2 : (c2, AObj.raw (CellR acc)) ∈ ah2) (mf : (acc, AObj.list fs) ∈ p1) (hf : ∀ q ∈ fs, Tri q) (hf1 : 1 ≤ fs.length) (hf2 : fs.length ≤ 10) {Qn : St → Prop} {Qr : Kon} {Qc : St → Prop}
    (h : ∀ w vals ps k' x, ValsV vals ps → (∀ v ∈ vals, ValOk v) → 1 ≤ vals.length → vals.length ≤ 4 → Qn ⟨lloc Ls (some (.ref f)) (some (.ref w)) none, (w, .list ps) :: x :: (p1 ++ (d, purO L k') :: ah2)⟩) :
    Ex1 V 190 (lx 3) ⟨lloc Ls (some (.ref f)) none none, p1 ++ (d, purO L k) :: ah2⟩ Qn Qr Qc := by
  rw [lx3_eq]
  have up2 : ∀ {j : Nat} {x : Addr × AObj}, x ∈ ah2 → x ∈ p1 ++ (d, purO L j) :: ah2 := fun h => List.mem_append_right _ (.tail _ h)
  refine Ex1_asgComp (cl := [(Str.ofString "purse", c1), (Str.ofString "fields", c2)]) (by kernel_rfl) (vals_closure hc1 hc2) (by decide +kernel) (by kernel_rfl) (by decide +kernel) (by kernel_rfl) (fun z0 => by kernel_rfl) ?_
  refine Ev_tcall (G.bi (by decide +kernel) bo_range (by decide +kernel)) (mem_of (by kernel_rfl)) rfl (Ev_bin (Ev_int (Ev_call (G.glob (g := Str.ofString "_law_draw") (by decide +kernel)) (mem_of (by kernel_rfl)) (Es_cons (Ev_cell hc1 purse_cell (by decide +kernel) (up2 m1) (Es_one (Ev_int ?_) rfl)) rfl) rfl fun z0 => rfl)))
  refine Fn.mono (law_draw_ok (lim := 4) G hD (by decide)) (by decide) ?_
  rintro _ _ ⟨v, hv, rfl, rfl⟩
  have e1 : 1 + (v : Int) = ((1 + v : Nat) : Int) := by lia
  refine Bo_add_int ?_
  rw [e1]
  refine Ca_range fun rg hrg => (i22 (rangeL (1 + v)) _ (by simp; exact (Nat.le_trans (Nat.add_le_add_left (Nat.le_of_lt hv) 1) (by decide))) (ItOf_range (.head _) (by exact (Nat.le_trans (Nat.add_le_add_left (Nat.le_of_lt hv) 1) (by decide)))) (fun it P acc2 hacc => ?_))
  refine vals_turns G (p1 := (rg, .raw (RngIs (1 + v))) :: p1) (L := L) (d := d) (fl := acc) hD (fun z0 => trivial) hc1 hc2 rfl rfl m1 m2 (.tail _ mf) hf hf1 hf2 (List.range (1 + v)) 0 (k + 1) [] [] .nil (fun z0 h => nomatch h) fun vals ps j' g1 g2 g3 L' m => ?_
  have g3 : vals.length = 1 + v := by rw [g3, List.length_range]; exact Nat.zero_add _
  exact As_nameAt (i := 2) rfl (i11 _ rfl (h acc2 vals ps j' _ g1 g2 (by exact (g3 ▸ Nat.le_add_right 1 v)) (by exact (Nat.le_trans (Nat.le_of_eq g3) (Nat.le_trans (Nat.le_of_eq (Nat.add_comm 1 v)) hv)))))
theorem law_st4 (G : Good C ss fns bs fields) {f w : Addr} {parts : List Part} {vals : List Val} {ps all : List PV} {A0 : AH} {j : Nat} (hw : (w, AObj.list ps) ∈ A0) (hf : (f, AObj.list all) ∈ A0) (hv : ValsV vals ps) (hb : ∀ v ∈ vals, ValOk v) (h1 : 1 ≤ vals.length) (h4 : vals.length ≤ 4)
    (hP : PartsV C A0 parts all) (hD : Drawn j parts) (hj : 1 ≤ j) (hj3 : j ≤ 3) {Qn : St → Prop} {Qr : Kon} {Qc : St → Prop}
    (h : ∀ N, Qn ⟨lloc Ls (some (.ref f)) (some (.ref w)) (some (optPV (runF (vals.length + 1) ((parts.map itemP).map cellI) vals [] 0))), N ++ A0⟩) :
    Ex1 V 190 (lx 4) ⟨lloc Ls (some (.ref f)) (some (.ref w)) none, A0⟩ Qn Qr Qc := by
  have e : lx 4 = .Assign [nmS "due" (tgS (lx 4))] (reb (.call "_law_due" (.cons (.var 1 "parts") (.cons (.var 2 "values") .nil))) (lv 4)) (lx 4).pos := by kernel_rfl
  rw [e]
  refine Ex1_asgAt (i := 3) rfl (Ev.mono ((W_at G (.call "_law_due" (.cons (.var 1 "parts") (.cons (.var 2 "values") .nil))) _ ⟨by kernel_rfl, by kernel_rfl⟩).1 _ (fun p st' => p = optPV (runF (vals.length + 1) ((parts.map itemP).map cellI) vals [] 0) ∧ ∃ N, st' = ⟨lloc Ls (some (.ref f)) (some (.ref w)) none, N ++ A0⟩) ?_) fun p st' hp => ?_) rfl
  · (conv => whnf)
    exact FnP.ex (law_due_ok G hw hf hv hb (Nat.le_trans h4 (by decide)) h1 hP hD hj hj3 rfl) (by decide) fun N => ⟨rfl, N, rfl⟩
  · obtain ⟨rfl, N, rfl⟩ := hp
    exact h N
end
/-! ### what is heard, and the end -/
noncomputable def HeardOk (C : Cx) (p q : PV) (ah : AH) (R : List Nat) : Prop := (Fn C 130 (adr C.K "using_text") [p, q] ah fun r z0 => r = .str R) ∨ ∃ code, code.length ≤ 1000 ∧ R = errT ++ code ∧ Fn (C.on (some (exA C, code))) 130 (adr C.K "using_text") [p, q] ah fun z0 z0 => False
noncomputable def Ev0 {F : FnI} (V : Act C F) (n : Nat) (e : Expr) (st : St) (Q : Kon) : Prop := ∀ A s E, V.Ok A n E → V.Sim st [] [] (vw s) → wpAny (M C) A (eval e V.env) (Pst V [] [] Q) E s
section
variable {F : FnI} {V : Act C F}
theorem heard_at (G : Good C ss fns bs fields) (hC : C.er = none) (ho : V.outer = []) (hb : V.h₀ = V.base) {p q : PV} {ah : AH} {loc : Loc} {R : List Nat} (flat : FlatL loc) (h : HeardOk C p q ah R) {A : Around} {s : Shared} {E : Value → Shared → Prop} {vs : List Value} (ok : V.Ok A 190 E) (hl : vs.length = 2) (S : V.Sim ⟨loc, ah⟩ [p, q] vs (vw s)) :
    codeAny (M C) A (.call (.ref (adr C.K "_law_heard")) ⟨vs, []⟩) (RetP (Pst V [] [] fun p st' => st' = ⟨loc, []⟩ ∧ p = .str R) E) s := by
  rcases h with h | ⟨code, hc, rfl, h⟩
  · refine codeAny_mono (heard_ret G hC h _ V A s [] [] E vs loc (ok.le (by decide)) hl (by rw [List.append_nil, List.append_nil]; exact S)) fun r s' x => x.mono fun v y => x21 y fun p st' z S' => ?_
    obtain rfl := z.2
    exact (i21 _ ⟨_, []⟩ ⟨rfl, rfl⟩ (Sim.bare (Sim.at_ S' z.1 rfl) flat trivial))
  · exact heard_raise G hc h ho hb ok hl S flat
theorem heard_eval (G : Good C ss fns bs fields) (hC : C.er = none) (ho : V.outer = []) (hb : V.h₀ = V.base) (hg : Str.ofString "_law_heard" ∈ F.gls) {e1 e2 : Expr} {gp pos : Pos} {st : St} {loc : Loc} {R : List Nat} (flat : FlatL loc)
    (h : Es V 190 [e1, e2] st fun ps st1 => ∃ p q ah, ps = [p, q] ∧ st1 = ⟨loc, ah⟩ ∧ HeardOk C p q ah R) (he : starEach [e1, e2] V.env = (false, eval e1 V.env) :: starEach [e2] V.env) (hpl : (backTo pos (starEach [e2] V.env)).any (·.1) = false) :
    Ev0 V 190 (.Call (.Name (Str.ofString "_law_heard") gp) [e1, e2] [] pos) st fun p st' => st' = ⟨loc, []⟩ ∧ p = .str R := by
  intro A s E ok S
  refine x30 (id S) fun m mu tl S₀ => ?_
  have GG := G.glob (g := Str.ofString "_law_heard") (by decide +kernel)
  refine Call_Name rfl (nameX_K S₀.F V.X (topRead_of V.T) GG.at_ ?_ F.hk (F.hg _ hg).1 (F.hg _ hg).2)
  refine callWith_K (K := C.K) V.X GG.keep ?_ he hpl
  refine wpAny_mono (h A s [] [] E pos ok S) (fun vs s1 hx => ?_) fun z0 z0 e => e
  obtain ⟨ps, st1, ⟨p, q, ah, rfl, rfl, hh⟩, hl, S1⟩ := hx
  rw [List.append_nil, List.append_nil] at S1
  refine x30 (id S1) fun m1 mu1 tl1 S1' => ?_
  refine ⟨V.X.keeps S1'.F.keep, ?_⟩
  exact wpAny_callR (heard_at G hC ho hb flat hh ok hl S1) fun v s' x => x
theorem Ev0_eq {e : Expr} {l : List Nat} {k : Nat} {cp pos : Pos} {st : St} {loc : Loc} (h : Ev0 V 190 e st fun p st' => st' = ⟨loc, []⟩ ∧ p = .str l) : Ev0 V 190 (.Compare e [.Eq] [.Constant (.str ⟨l.toArray⟩) k cp] pos) st fun p st' => st' = ⟨loc, []⟩ ∧ p = .bool true := by
  intro A s E ok S
  refine wpAny_Compare1 (wpAny_mono (h A s E ok S) (fun v s1 hx => ?_) fun z0 z0 e => e) rfl
  obtain ⟨p, st1, ⟨rfl, rfl⟩, S1⟩ := hx
  refine wpAny_Constant_str ?_
  refine wpAny_mono (Co_eq_str (V := V) (n := 190) (x := l) (y := l) (QB := fun b st' => b = true ∧ st' = ⟨loc, []⟩) ⟨decide_eq_true rfl, rfl⟩ A _ [] [] E v _ ok (Sim.str_push S1 (l := l) rfl)) (fun u s3 hx => ?_) fun z0 z0 e => e
  obtain ⟨b, e, st3, ⟨rfl, rfl⟩, S3⟩ := hx
  exact (i21 _ _ ⟨rfl, rfl⟩ (S3.push fun z0 => e ▸ .bool _))
end
section
variable {fa : Addr} {cd : Value} {V : Act C (F_law fa cd)} {Ls : Addr}
theorem flat_l {pa va du : Option PV} (h1 : ∀ p, pa = some p → Flat p) (h2 : ∀ p, va = some p → Flat p) (h3 : ∀ p, du = some p → Flat p) : FlatL (lloc Ls pa va du) := by
  intro x pv hm
  simp only [List.mem_cons, Prod.mk.injEq, List.not_mem_nil, or_false] at hm
  rcases hm with ⟨-, h⟩ | ⟨-, h⟩ | ⟨-, h⟩ | ⟨-, h⟩
  · cases h; trivial
  · exact h1 _ h.symm
  · exact h2 _ h.symm
  · exact h3 _ h.symm
theorem heard_FC (G : Good C ss fns bs fields) {t : List Nat} {w : Addr} {ps : List PV} {ah : AH} (ht : t.length ≤ 1000) (hw : (w, AObj.list ps) ∈ ah) (hl : ps.length ≤ 20) (h : itemsOf t = [] ∨ (pcs (itemsOf t) = 0 ∧ 0 < ps.length)) : HeardOk C (.str t) (.ref w) ah (errT ++ codeFC) :=
  .inr (i12 codeFC (by decide) rfl (using_FC (C := C.on (some (exA C, codeFC))) (G.on _) ht hw hl h rfl))
theorem law_st6 (G : Good C ss fns bs fields) (hC : C.er = none) (ho : V.outer = []) (hb : V.h₀ = V.base) {pa va du : Option PV} (flat : FlatL (lloc Ls pa va du)) : Ex0 V 190 [lx 6] ⟨lloc Ls pa va du, []⟩ fun p z0 => p = .bool true := by
  have e : lx 6 = .Return (some (.BoolOp .And [.Compare (.Call (.Name (Str.ofString "_law_heard") (kid (kid (kid (lv 6) 0) 0) 0).pos) [reb (.str [32, 95, 35, 32, 112, 108, 97, 105, 110]) (kid (kid (kid (lv 6) 0) 0) 1), reb (.lst (.cons (.int 1) .nil)) (kid (kid (kid (lv 6) 0) 0) 2)] [] (kid (kid (lv 6) 0) 0).pos) [.Eq] [.Constant (.str ⟨(errT ++ codeFC).toArray⟩) 0 (kid (kid (lv 6) 0) 1).pos] (kid (lv 6) 0).pos,
      .Compare (.Call (.Name (Str.ofString "_law_heard") (kid (kid (kid (lv 6) 1) 0) 0).pos) [reb (.str []) (kid (kid (kid (lv 6) 1) 0) 1), reb (.lst .nil) (kid (kid (kid (lv 6) 1) 0) 2)] [] (kid (kid (lv 6) 1) 0).pos) [.Eq] [.Constant (.str ⟨(errT ++ codeFC).toArray⟩) 0 (kid (kid (lv 6) 1) 1).pos] (kid (lv 6) 1).pos] (lv 6).pos)) (lx 6).pos := by kernel_rfl
  rw [e]
  intro A s E ok S
  have go : ∀ (t : List Nat) (ps : List PV) (x y : Expr) (gp pos : Pos), t.length ≤ 1000 → ps.length ≤ 20 → (itemsOf t = [] ∨ (pcs (itemsOf t) = 0 ∧ 0 < ps.length)) → (∀ st Q, Q (.str t) st → Ev V 190 x st Q) → (∀ st Q, (∀ a, Q (.ref a) ⟨st.loc, (a, .list ps) :: st.ah⟩) → Ev V 190 y st Q) →
      starEach [x, y] V.env = (false, eval x V.env) :: starEach [y] V.env → starEach [y] V.env = (false, eval y V.env) :: starEach [] V.env → (backTo pos (starEach [y] V.env)).any (·.1) = false →
      Ev0 V 190 (.Call (.Name (Str.ofString "_law_heard") gp) [x, y] [] pos) ⟨lloc Ls pa va du, []⟩ fun p st' => st' = ⟨lloc Ls pa va du, []⟩ ∧ p = .str (errT ++ codeFC) := fun t ps x y gp pos h1 h2 h3 hx hy k1 k2 k3 =>
    heard_eval G hC ho hb (mem_of (by kernel_rfl)) flat (Es_cons (hx _ _ (Es_one (hy _ _ fun a => (i32 _ _ [(a, .list ps)] rfl rfl (heard_FC G h1 (.head _) h2 h3))) k2)) k1) k1 k3
  refine wpAny_execs_cons (wpAny_Return_some (BoolOp_and (wpAny_mono (Ev0_eq (go [32, 95, 35, 32, 112, 108, 97, 105, 110] [.int 1] _ _ _ _ (by decide) (by decide) (.inr ⟨by decide +kernel, by decide⟩) (fun st Q h => ?_) (fun st Q h => ?_) rfl rfl rfl) A s E ok S) (fun v s1 hx => ?_) fun z0 z0 e => e)))
  · exact (W_at G (.str [32, 95, 35, 32, 112, 108, 97, 105, 110]) _ ⟨by kernel_rfl, by kernel_rfl⟩).1 st Q h
  · exact (W_at G (.lst (.cons (.int 1) .nil)) _ ⟨by kernel_rfl, by kernel_rfl⟩).1 st Q ⟨by decide, fun a z0 => h a⟩
  obtain ⟨p, st1, ⟨rfl, rfl⟩, S1⟩ := hx
  obtain rfl := S1.bool1
  refine wpAny_truthy_bool (BoolOp_one (wpAny_mono (Ev0_eq (go [] [] _ _ _ _ (by decide) (by decide) (.inl rfl) (fun st Q h => ?_) (fun st Q h => ?_) rfl rfl rfl) A s1 E ok S1.drop1) (fun v s2 hx => ?_) fun z0 z0 e => e))
  · exact (W_at G (.str []) _ ⟨by kernel_rfl, by kernel_rfl⟩).1 st Q h
  · exact (W_at G (.lst .nil) _ ⟨by kernel_rfl, by kernel_rfl⟩).1 st Q ⟨by decide, fun a z0 => h a⟩
  obtain ⟨p, st2, ⟨rfl, rfl⟩, S2⟩ := hx
  exact (i21 _ _ rfl S2)
end
section
variable {fa : Addr} {cd : Value} {V : Act C (F_law fa cd)} {Ls : Addr}
noncomputable abbrev l5c : Expr := kid (lv 5) 0
noncomputable abbrev l5j : Expr := kid l5c 1
noncomputable abbrev l5t : Expr := kid l5j 1
theorem lx5_eq : lx 5 = .If (.Compare (.Call (.Name (Str.ofString "_law_heard") (kid l5c 0).pos) [.Call (.Attribute (.Constant (.str ⟨([] : List Nat).toArray⟩) 0 (kid (kid l5j 0) 0).pos) (Str.ofString "join") (kid l5j 0).pos) [.ListComp (cE l5t) [⟨nmS "part" (cT l5t), reb (.var 1 "parts") (cI l5t), [], 0⟩] (cS l5t) l5t.pos] [] l5j.pos, reb (.var 2 "values") (kid l5c 2)] [] l5c.pos) [.NotEq]
    [reb (.ife (.cmp .Is (.var 3 "due") .none) (.str (errT ++ codeTM)) (.var 3 "due")) (kid (lv 5) 1)] (lv 5).pos) (ifA (lx 5)) [] (lx 5).pos := by kernel_rfl
theorem l5t_eq : cE l5t = .Subscript (.Name (Str.ofString "part") (kid (cE l5t) 0).pos) (.Constant (.int (1 : Nat)) 0 (kid (cE l5t) 1).pos) (cE l5t).pos := by kernel_rfl
theorem optPV_eq (R : Option (List Nat)) : optPV R = R.elim .none .str := by cases R <;> rfl
theorem law_st5 (G : Good C ss fns bs fields) (hC : C.er = none) (ho : V.outer = []) (hb : V.h₀ = V.base) {f w : Addr} {parts : List Part} {vals : List Val} {ps all : List PV} {ah : AH} {j : Nat} (hw : (w, AObj.list ps) ∈ ah) (hf : (f, AObj.list all) ∈ ah) (hv : ValsV vals ps) (hvo : ∀ v ∈ vals, ValOk v) (h1 : 1 ≤ vals.length) (h4 : vals.length ≤ 4)
    (hP : PartsV C ah parts all) (hD : Drawn j parts) (hj : 1 ≤ j) (hj3 : j ≤ 3) : Ex0 V 190 [lx 5, lx 6] ⟨lloc Ls (some (.ref f)) (some (.ref w)) (some (optPV (runF (vals.length + 1) ((parts.map itemP).map cellI) vals [] 0))), ah⟩ fun p z0 => p = .bool true := by
  generalize hR : runF (vals.length + 1) ((parts.map itemP).map cellI) vals [] 0 = R
  have flat : FlatL (lloc Ls (some (.ref f)) (some (.ref w)) (some (optPV R))) := flat_l (fun p h => by cases h; trivial) (fun p h => by cases h; trivial) (fun p h => by cases h; cases R <;> trivial)
  have hall : all.length = 2 * j := by rw [hP.length, ← List.length_map (f := itemP), hD.pls.1]
  have hl : ∃ T, R.elim (errT ++ codeTM) id = T := ⟨_, rfl⟩
  obtain ⟨T, hT⟩ := hl
  have hok : ∀ {ah' : AH}, (w, AObj.list ps) ∈ ah' → HeardOk C (.str (txtOf parts)) (.ref w) ah' T := fun {ah'} hw' => by
    have ut := fun (e : Option (Addr × List Nat)) (hE : R = none → e = some (exA C, codeTM)) => using_text_ok (C := C.on e) (G.on e) (items_drawn hD) (fun x hx => by
      refine x11 (List.mem_map.mp hx) fun y hy ez0 => ?_
      obtain rfl := ez0
      exact itemP_ok (hD.ok y hy)) (hD.has hj).1 (Nat.le_trans hD.pls.2 (by lia)) (Nat.le_trans hD.len (by lia)) hw' hv hvo (Nat.le_trans h4 (by decide)) hR hE
    cases R with
    | none => exact .inr (i12 codeTM (by decide) hT.symm ((ut (some (exA C, codeTM)) fun z0 => rfl).mono (Nat.le_refl _) fun r ah' zz => x11 zz fun f e z0 => nomatch e))
    | some g =>
      have hn : C.on none = C := by cases C; cases hC; rfl
      have u := ut none (fun q => nomatch q)
      rw [hn] at u
      exact .inl (u.mono (Nat.le_refl _) fun r ah' zz => x12 zz fun f e e2 z0 => by cases e; exact e2.trans (congrArg PV.str hT))
  have hm : ∀ {a : Addr} {o : AObj}, (f, AObj.list all) ∈ (a, o) :: ah := .tail _ hf
  have hjoin : Ev V 190 (.Call (.Attribute (.Constant (.str ⟨([] : List Nat).toArray⟩) 0 (kid (kid l5j 0) 0).pos) (Str.ofString "join") (kid l5j 0).pos) [.ListComp (cE l5t) [⟨nmS "part" (cT l5t), reb (.var 1 "parts") (cI l5t), [], 0⟩] (cS l5t) l5t.pos] [] l5j.pos) ⟨lloc Ls (some (.ref f)) (some (.ref w)) (some (optPV R)), ah⟩
      fun x st1 => Es V 190 [reb (.var 2 "values") (kid l5c 2)] st1 fun ps' st2 => ∃ p q ah', x :: ps' = [p, q] ∧ st2 = ⟨lloc Ls (some (.ref f)) (some (.ref w)) (some (optPV R)), ah'⟩ ∧ HeardOk C p q ah' T := by
    refine Ev_meth meth_join (fun A s hp hv E ok S => wpAny_Constant_str (i21 (.str []) _ ⟨.str, Es_one (Ev_comp (cl := []) (by kernel_rfl) (by decide +kernel) (by kernel_rfl) (by decide +kernel) (by kernel_rfl) (fun z0 => by kernel_rfl) ?_) rfl⟩ (S.str_push rfl))) rfl rfl rfl (fun z0 => rfl) rfl
    refine Ev.mono ((W_at G (.var 1 "parts") _ ⟨by kernel_rfl, by kernel_rfl⟩).1 _ (fun p st' => p = .ref f ∧ st' = ⟨lloc Ls (some (.ref f)) (some (.ref w)) (some (optPV R)), ah⟩) ⟨rfl, rfl⟩) fun p st' hp => ?_
    obtain ⟨rfl, rfl⟩ := hp
    refine (i22 all _ (by lia) (ItOf_list hf (by lia)) (fun it P acc hacc => ?_))
    refine texts_turns G (i := 0) l5t_eq (by kernel_rfl) (by kernel_rfl) hf parts all 0 [] hP ?_
    have hsum : ((parts.map textP).map (·.length)).sum ≤ 1000000 := by
      have := hD.len
      rw [txtOf, List.length_flatten] at this
      exact Nat.le_trans this (by lia)
    refine Ca_join (.head _) hsum (Es_one ((W_at G (.var 2 "values") _ ⟨by kernel_rfl, by kernel_rfl⟩).1 _ _ ?_) rfl)
    exact (i32 _ _ _ rfl rfl (hok (.tail _ hw)))
  intro A s E ok S
  rw [lx5_eq]
  refine wpAny_execs_cons (wpAny_If (wpAny_isTrue_Compare1 (wpAny_mono (heard_eval G hC ho hb (mem_of (by kernel_rfl)) flat (R := T) (Es_cons hjoin rfl) rfl rfl A s E ok S) (fun v s1 hx => ?_) fun z0 z0 e => e) (by kernel_rfl)))
  obtain ⟨p, st1, ⟨rfl, rfl⟩, S1⟩ := hx
  have hdue : W C 190 (.ife (.cmp .Is (.var 3 "due") .none) (.str (errT ++ codeTM)) (.var 3 "due")) ⟨lloc Ls (some (.ref f)) (some (.ref w)) (some (optPV R)), []⟩ fun q st' => q = .str T ∧ st' = ⟨lloc Ls (some (.ref f)) (some (.ref w)) (some (optPV R)), []⟩ := by
    subst hT
    cases R with
    | none =>
      exact ⟨fun z0 => ⟨rfl, rfl⟩, fun q => (by cases q)⟩
    | some g =>
      exact ⟨fun q => (by cases q), fun z0 => ⟨rfl, rfl⟩⟩
  refine wpAny_mono ((W_at G (.ife (.cmp .Is (.var 3 "due") .none) (.str (errT ++ codeTM)) (.var 3 "due")) _ ⟨by kernel_rfl, by kernel_rfl⟩).1 _ _ hdue A s1 [.str T] [v] E ok S1) (fun u s2 hx => ?_) fun z0 z0 e => e
  obtain ⟨q, st2, ⟨rfl, rfl⟩, S2⟩ := hx
  refine wpAny_mono (Co_ne_str (V := V) (n := 190) (x := T) (y := T) (QB := fun b st' => b = false ∧ st' = ⟨lloc Ls (some (.ref f)) (some (.ref w)) (some (optPV R)), []⟩) ⟨by simp, rfl⟩ A s2 [] [] E v u ok S2) (fun z s3 hx => ?_) fun z0 z0 e => e
  obtain ⟨b, rfl, st3, ⟨rfl, rfl⟩, S3⟩ := hx
  refine wpAny_truthy_bool (wpAny_execs_nil ?_)
  exact law_st6 G hC ho hb flat A s3 E ok S3
end
theorem law_run (G : Good C ss fns bs fields) {fa : Addr} {cd : Value} {V : Act C (F_law fa cd)} {Ls c1 c2 : Addr} (hC : C.er = none) (ho : V.outer = []) (hb : V.h₀ = V.base) {vs : List Value} {ns : List Int} (hL : V.h₀.IsList Ls vs.toArray) (hI : IntsAre vs ns) (hn : ns.length ≤ 100000)
    (hc1 : V.cl.lookup (Str.ofString "purse") = some c1) (hc2 : V.cl.lookup (Str.ofString "fields") = some c2) : Ex0 V 190 (prt 38).body ⟨lloc Ls none none none, [(c1, .raw CellA), (c2, .raw CellA)]⟩ fun p z0 => p = .bool true := by
  rw [law_body]
  refine Ex0_cons (law_st0 G hL hI hn hc1 fun d L => ?_)
  have hD : ∀ o : AObj, Purse L (ns.take 40) ((L, .list (intsPV (ns.take 40))) :: (c1, .raw (CellR d)) :: (c2, o) :: []) := fun o => ⟨.head _, Nat.le_trans (List.length_take_le' _ _) hn⟩
  refine Ex0_cons (law_st1 G (hD _) hc1 (.tail _ (.head _)) fun j parts pvs k f N j1 j3 hP hDr => ?_)
  refine Ex0_cons (law_st2 G hP hDr j3 hc2 fun acc fs ht hlen => ?_)
  have eA : ∀ k, (acc, AObj.list fs) :: (N ++ (f, .list pvs) :: (d, purO L k) :: (L, .list (intsPV (ns.take 40))) :: (c1, .raw (CellR d)) :: (c2, .raw (CellR acc)) :: []) = ((acc, .list fs) :: (N ++ [(f, .list pvs)])) ++ (d, purO L k) :: ((L, .list (intsPV (ns.take 40))) :: (c1, .raw (CellR d)) :: (c2, .raw (CellR acc)) :: []) := fun k => by simp
  rw [eA]
  refine Ex0_cons (law_st3 G (hD _) hc1 hc2 (.tail _ (.head _)) (.tail _ (.tail _ (.head _))) (.head _) ht (by lia) (by lia) fun w vals ps k' x hv hok l1 l4 => ?_)
  have hf : (f, AObj.list pvs) ∈ (w, AObj.list ps) :: x :: (((acc, .list fs) :: (N ++ [(f, .list pvs)])) ++ (d, purO L k') :: ((L, .list (intsPV (ns.take 40))) :: (c1, .raw (CellR d)) :: (c2, .raw (CellR acc)) :: [])) :=
    .tail _ (.tail _ (List.mem_append_left _ (.tail _ (List.mem_append_right _ (.head _)))))
  have hP' := hP.mono (ah' := (w, AObj.list ps) :: x :: (((acc, .list fs) :: (N ++ [(f, .list pvs)])) ++ (d, purO L k') :: ((L, .list (intsPV (ns.take 40))) :: (c1, .raw (CellR d)) :: (c2, .raw (CellR acc)) :: []))) fun z hz => .tail _ (.tail _ (List.mem_append_left _ (.tail _ (List.mem_append_left _ hz))))
  refine Ex0_cons (law_st4 G (.head _) hf hv hok l1 l4 hP' hDr j1 j3 fun M => ?_)
  exact law_st5 G hC ho hb (List.mem_append_right _ (.head _)) (List.mem_append_right _ hf) hv hok l1 l4 (hP'.mono fun z hz => List.mem_append_right _ hz) hDr j1 j3
end Mine
end
section
open PySem PySem.W PyProof.Rows
set_option Elab.async false
set_option tactic.hygienic true
set_option maxRecDepth 100000
namespace Mine
noncomputable def lawD : DefRec := ⟨(prt 38).qual, (prt 38).params, (prt 38).body, (prt 38).scope, ⟨290, 0, 298, 90⟩⟩
set_option maxHeartbeats 4000000 in
theorem walk01 (q : Program) (loose : List Str) (XP : (Str → Option Value) → Heap → Prop) : WalkO q loose XP (hook ss fns bs fields file).says PySem.Challenge.rw_pq0175_01.row.toRowW lawD [] fun f vs => PySem.call f vs := by
  w_on
  intro w s₀ s₁ mg mb G Y fa o pm cd doc dV kV ho hd hcd hD hmg hg args vals as hpre hlay hrd hwl hlo
  refine Ground.open G ?_
  intro T B D TE TW
  wrow_args hpre hlay hrd hwl hlo
  refine enter_call ?_
  w_shadow S
  refine codeAny_mono ?_ (fun z0 z0 g => Shadow.good S rfl g)
  w_call ret ho hd hcd hD T F
  rename_i ns _ _ _ _ _ _ _ Ls vs _ hL _ _ _ hI _ hlen _ h₁ tk o2 o1 g2 g1 N0 _
  refine x11 Y fun K hX hobs => ?_
  let C : Cx := ⟨PySem.Challenge.rw_pq0175_01.row.prog, w, K, q, looseW q loose, ExcName.means s₀.heap, mg, mb, s₁.gens, s₁.os, none⟩
  have GC : Good C ss fns bs fields := ⟨(Prod.mk.inj hobs).1, (Prod.mk.inj hobs).2, by kernel_rfl⟩
  let V : Act C (F_law fa cd) := ⟨s₁.heap.objs.size, callerA, s₁.heap, s₁.heap, [], below_caller _, hX, T, cellsFrom (s₁.heap.objs.size + 1) (prt 38).scope.names []⟩
  have ok : V.Ok (callerA.deeper V.env) 190 (fun z0 z0 => False) := ⟨fun e s he => he.no rfl, rfl, rfl, by show callerA.depth + 1 + 190 < 1000; decide, by show callerA.units + 3 + 10 * 190 < 9900; decide⟩
  have S0 : V.Sim ⟨lloc Ls none none none, [(s₁.heap.objs.size + 1, .raw CellA), (s₁.heap.objs.size + 1 + 1, .raw CellA)]⟩ [] [] ((vw s₁).to h₁) := by
    refine (i30 _ [(s₁.heap.objs.size + 1, o1), (s₁.heap.objs.size + 1 + 1, o2)] [] ⟨F, fun p hp => N0 p ?_, ?_, (HRel.cons (.raw ⟨_, g1⟩) (HRel.cons (.raw ⟨_, g2⟩) .nil) : HRel C [] _ ([(_, o1)] ++ ([(_, o2)] ++ []))), rfl, ⟨rfl, rfl⟩, fun x pv hm => ?_, .nil⟩)
    · simp only [List.append_nil, List.mem_cons, List.not_mem_nil, or_false] at hp ⊢
      exact hp.symm
    · exact List.nodup_cons.mpr ⟨fun h => absurd (List.mem_singleton.mp h) (Nat.ne_of_lt (Nat.lt_succ_self _)), List.nodup_cons.mpr ⟨fun h => (nomatch h), List.nodup_nil⟩⟩
    · simp only [List.mem_cons, Prod.mk.injEq, reduceCtorEq, and_false, List.not_mem_nil, or_false, Option.some.injEq] at hm
      obtain ⟨rfl, rfl⟩ := hm
      exact (i11 _ rfl (.ref Ls))
  refine wpAny_mono (law_run GC (V := V) (c1 := s₁.heap.objs.size + 1) (c2 := s₁.heap.objs.size + 1 + 1) rfl rfl rfl hL hI (by omega) rfl rfl _ { s₁ with heap := h₁, toks := tk } _ ok S0) (fun f s' hf => ?_) fun z0 z0 e => e
  match f, hf with
  | .ret v, ⟨p, st', ep, S1⟩ =>
    subst ep
    obtain rfl := S1.bool1
    refine x30 S1 fun m mu tl S1 => ?_
    exact good_bool S1.F (S1.X.1.trans hg) (by rfl) S1.X.2
end Mine
end
set_option Elab.async false
set_option maxRecDepth 100000
theorem Mine.said : PySem.W.OpenLaw.wellSaid PySem.Challenge.rw_pq0175_01 = true := by kernel_rfl
open PySem PySem.W PyProof.Rows
set_option Elab.async false
set_option maxRecDepth 100000
set_option maxHeartbeats 8000000 in
theorem PySem.Challenge.cw_pq0175_01_holds : PySem.Challenge.rw_pq0175_01.Holds := by
  w_on; refine PySem.W.holds_law Mine.said fun said => ?_; o_head (Mine.hook Mine.ss Mine.fns Mine.bs Mine.fields Mine.file)
  (case hw => w_witness2)
  exact Mine.walk01 _ _ _
