import PyProof.Rows.All
import OpenK.AllK
import Wide.All
import Wide.FinOn
import Lean
import PySem.Challenge.RW_pq0714_01
set_option linter.all false
set_option compiler.extract_closed false
namespace Mine
theorem x0a2 {P0 P1 : Prop} {G : Prop} (h : P0 ∧ P1) (K : P0 → P1 → G) : G := K h.1 h.2
theorem x0a3 {P0 P1 P2 : Prop} {G : Prop} (h : P0 ∧ P1 ∧ P2) (K : P0 → P1 → P2 → G) : G := K h.1 h.2.1 h.2.2
theorem x0a4 {P0 P1 P2 P3 : Prop} {G : Prop} (h : P0 ∧ P1 ∧ P2 ∧ P3) (K : P0 → P1 → P2 → P3 → G) : G := K h.1 h.2.1 h.2.2.1 h.2.2.2
theorem x0a5 {P0 P1 P2 P3 P4 : Prop} {G : Prop} (h : P0 ∧ P1 ∧ P2 ∧ P3 ∧ P4) (K : P0 → P1 → P2 → P3 → P4 → G) : G := K h.1 h.2.1 h.2.2.1 h.2.2.2.1 h.2.2.2.2
theorem x1a1.{u0} {A0 : Sort u0} {P0 : A0 → Prop} {G : Prop} (h : ∃ a, P0 a) (K : ∀ a, P0 a → G) : G := h.elim fun a h => K a h
theorem x1a2.{u0} {A0 : Sort u0} {P0 P1 : A0 → Prop} {G : Prop} (h : ∃ a, P0 a ∧ P1 a) (K : ∀ a, P0 a → P1 a → G) : G := h.elim fun a h => K a h.1 h.2
theorem x1a3.{u0} {A0 : Sort u0} {P0 P1 P2 : A0 → Prop} {G : Prop} (h : ∃ a, P0 a ∧ P1 a ∧ P2 a) (K : ∀ a, P0 a → P1 a → P2 a → G) : G := h.elim fun a h => K a h.1 h.2.1 h.2.2
theorem x1a4.{u0} {A0 : Sort u0} {P0 P1 P2 P3 : A0 → Prop} {G : Prop} (h : ∃ a, P0 a ∧ P1 a ∧ P2 a ∧ P3 a) (K : ∀ a, P0 a → P1 a → P2 a → P3 a → G) : G := h.elim fun a h => K a h.1 h.2.1 h.2.2.1 h.2.2.2
theorem x1a5.{u0} {A0 : Sort u0} {P0 P1 P2 P3 P4 : A0 → Prop} {G : Prop} (h : ∃ a, P0 a ∧ P1 a ∧ P2 a ∧ P3 a ∧ P4 a) (K : ∀ a, P0 a → P1 a → P2 a → P3 a → P4 a → G) : G := h.elim fun a h => K a h.1 h.2.1 h.2.2.1 h.2.2.2.1 h.2.2.2.2
theorem x2a1.{u0, u1} {A0 : Sort u0} {A1 : Sort u1} {P0 : A0 → A1 → Prop} {G : Prop} (h : ∃ a b, P0 a b) (K : ∀ a b, P0 a b → G) : G := h.elim fun a h => h.elim fun b h => K a b h
theorem x2a2.{u0, u1} {A0 : Sort u0} {A1 : Sort u1} {P0 P1 : A0 → A1 → Prop} {G : Prop} (h : ∃ a b, P0 a b ∧ P1 a b) (K : ∀ a b, P0 a b → P1 a b → G) : G := h.elim fun a h => h.elim fun b h => K a b h.1 h.2
theorem x2a3.{u0, u1} {A0 : Sort u0} {A1 : Sort u1} {P0 P1 P2 : A0 → A1 → Prop} {G : Prop} (h : ∃ a b, P0 a b ∧ P1 a b ∧ P2 a b) (K : ∀ a b, P0 a b → P1 a b → P2 a b → G) : G := h.elim fun a h => h.elim fun b h => K a b h.1 h.2.1 h.2.2
theorem x2a4.{u0, u1} {A0 : Sort u0} {A1 : Sort u1} {P0 P1 P2 P3 : A0 → A1 → Prop} {G : Prop} (h : ∃ a b, P0 a b ∧ P1 a b ∧ P2 a b ∧ P3 a b) (K : ∀ a b, P0 a b → P1 a b → P2 a b → P3 a b → G) : G := h.elim fun a h => h.elim fun b h => K a b h.1 h.2.1 h.2.2.1 h.2.2.2
theorem x2a5.{u0, u1} {A0 : Sort u0} {A1 : Sort u1} {P0 P1 P2 P3 P4 : A0 → A1 → Prop} {G : Prop} (h : ∃ a b, P0 a b ∧ P1 a b ∧ P2 a b ∧ P3 a b ∧ P4 a b) (K : ∀ a b, P0 a b → P1 a b → P2 a b → P3 a b → P4 a b → G) : G := h.elim fun a h => h.elim fun b h => K a b h.1 h.2.1 h.2.2.1 h.2.2.2.1 h.2.2.2.2
theorem x2a6.{u0, u1} {A0 : Sort u0} {A1 : Sort u1} {P0 P1 P2 P3 P4 P5 : A0 → A1 → Prop} {G : Prop} (h : ∃ a b, P0 a b ∧ P1 a b ∧ P2 a b ∧ P3 a b ∧ P4 a b ∧ P5 a b) (K : ∀ a b, P0 a b → P1 a b → P2 a b → P3 a b → P4 a b → P5 a b → G) : G := h.elim fun a h => h.elim fun b h => K a b h.1 h.2.1 h.2.2.1 h.2.2.2.1 h.2.2.2.2.1 h.2.2.2.2.2
theorem x2a7.{u0, u1} {A0 : Sort u0} {A1 : Sort u1} {P0 P1 P2 P3 P4 P5 P6 : A0 → A1 → Prop} {G : Prop} (h : ∃ a b, P0 a b ∧ P1 a b ∧ P2 a b ∧ P3 a b ∧ P4 a b ∧ P5 a b ∧ P6 a b) (K : ∀ a b, P0 a b → P1 a b → P2 a b → P3 a b → P4 a b → P5 a b → P6 a b → G) : G := h.elim fun a h => h.elim fun b h => K a b h.1 h.2.1 h.2.2.1 h.2.2.2.1 h.2.2.2.2.1 h.2.2.2.2.2.1 h.2.2.2.2.2.2
theorem x3a4.{u0, u1, u2} {A0 : Sort u0} {A1 : Sort u1} {A2 : Sort u2} {P0 P1 P2 P3 : A0 → A1 → A2 → Prop} {G : Prop} (h : ∃ a b c, P0 a b c ∧ P1 a b c ∧ P2 a b c ∧ P3 a b c) (K : ∀ a b c, P0 a b c → P1 a b c → P2 a b c → P3 a b c → G) : G := h.elim fun a h => h.elim fun b h => h.elim fun c h => K a b c h.1 h.2.1 h.2.2.1 h.2.2.2
theorem x3a5.{u0, u1, u2} {A0 : Sort u0} {A1 : Sort u1} {A2 : Sort u2} {P0 P1 P2 P3 P4 : A0 → A1 → A2 → Prop} {G : Prop} (h : ∃ a b c, P0 a b c ∧ P1 a b c ∧ P2 a b c ∧ P3 a b c ∧ P4 a b c) (K : ∀ a b c, P0 a b c → P1 a b c → P2 a b c → P3 a b c → P4 a b c → G) : G := h.elim fun a h => h.elim fun b h => h.elim fun c h => K a b c h.1 h.2.1 h.2.2.1 h.2.2.2.1 h.2.2.2.2
theorem x3a6.{u0, u1, u2} {A0 : Sort u0} {A1 : Sort u1} {A2 : Sort u2} {P0 P1 P2 P3 P4 P5 : A0 → A1 → A2 → Prop} {G : Prop} (h : ∃ a b c, P0 a b c ∧ P1 a b c ∧ P2 a b c ∧ P3 a b c ∧ P4 a b c ∧ P5 a b c) (K : ∀ a b c, P0 a b c → P1 a b c → P2 a b c → P3 a b c → P4 a b c → P5 a b c → G) : G := h.elim fun a h => h.elim fun b h => h.elim fun c h => K a b c h.1 h.2.1 h.2.2.1 h.2.2.2.1 h.2.2.2.2.1 h.2.2.2.2.2
theorem x3a7.{u0, u1, u2} {A0 : Sort u0} {A1 : Sort u1} {A2 : Sort u2} {P0 P1 P2 P3 P4 P5 P6 : A0 → A1 → A2 → Prop} {G : Prop} (h : ∃ a b c, P0 a b c ∧ P1 a b c ∧ P2 a b c ∧ P3 a b c ∧ P4 a b c ∧ P5 a b c ∧ P6 a b c) (K : ∀ a b c, P0 a b c → P1 a b c → P2 a b c → P3 a b c → P4 a b c → P5 a b c → P6 a b c → G) : G := h.elim fun a h => h.elim fun b h => h.elim fun c h => K a b c h.1 h.2.1 h.2.2.1 h.2.2.2.1 h.2.2.2.2.1 h.2.2.2.2.2.1 h.2.2.2.2.2.2
theorem x4a2.{u0, u1, u2, u3} {A0 : Sort u0} {A1 : Sort u1} {A2 : Sort u2} {A3 : Sort u3} {P0 P1 : A0 → A1 → A2 → A3 → Prop} {G : Prop} (h : ∃ a b c d, P0 a b c d ∧ P1 a b c d) (K : ∀ a b c d, P0 a b c d → P1 a b c d → G) : G := h.elim fun a h => h.elim fun b h => h.elim fun c h => h.elim fun d h => K a b c d h.1 h.2
theorem x4a4.{u0, u1, u2, u3} {A0 : Sort u0} {A1 : Sort u1} {A2 : Sort u2} {A3 : Sort u3} {P0 P1 P2 P3 : A0 → A1 → A2 → A3 → Prop} {G : Prop} (h : ∃ a b c d, P0 a b c d ∧ P1 a b c d ∧ P2 a b c d ∧ P3 a b c d) (K : ∀ a b c d, P0 a b c d → P1 a b c d → P2 a b c d → P3 a b c d → G) : G := h.elim fun a h => h.elim fun b h => h.elim fun c h => h.elim fun d h => K a b c d h.1 h.2.1 h.2.2.1 h.2.2.2
theorem x4a6.{u0, u1, u2, u3} {A0 : Sort u0} {A1 : Sort u1} {A2 : Sort u2} {A3 : Sort u3} {P0 P1 P2 P3 P4 P5 : A0 → A1 → A2 → A3 → Prop} {G : Prop} (h : ∃ a b c d, P0 a b c d ∧ P1 a b c d ∧ P2 a b c d ∧ P3 a b c d ∧ P4 a b c d ∧ P5 a b c d) (K : ∀ a b c d, P0 a b c d → P1 a b c d → P2 a b c d → P3 a b c d → P4 a b c d → P5 a b c d → G) : G := h.elim fun a h => h.elim fun b h => h.elim fun c h => h.elim fun d h => K a b c d h.1 h.2.1 h.2.2.1 h.2.2.2.1 h.2.2.2.2.1 h.2.2.2.2.2
theorem x5a4.{u0, u1, u2, u3, u4} {A0 : Sort u0} {A1 : Sort u1} {A2 : Sort u2} {A3 : Sort u3} {A4 : Sort u4} {P0 P1 P2 P3 : A0 → A1 → A2 → A3 → A4 → Prop} {G : Prop} (h : ∃ a b c d e, P0 a b c d e ∧ P1 a b c d e ∧ P2 a b c d e ∧ P3 a b c d e) (K : ∀ a b c d e, P0 a b c d e → P1 a b c d e → P2 a b c d e → P3 a b c d e → G) : G := h.elim fun a h => h.elim fun b h => h.elim fun c h => h.elim fun d h => h.elim fun e h => K a b c d e h.1 h.2.1 h.2.2.1 h.2.2.2
theorem x5a5.{u0, u1, u2, u3, u4} {A0 : Sort u0} {A1 : Sort u1} {A2 : Sort u2} {A3 : Sort u3} {A4 : Sort u4} {P0 P1 P2 P3 P4 : A0 → A1 → A2 → A3 → A4 → Prop} {G : Prop} (h : ∃ a b c d e, P0 a b c d e ∧ P1 a b c d e ∧ P2 a b c d e ∧ P3 a b c d e ∧ P4 a b c d e) (K : ∀ a b c d e, P0 a b c d e → P1 a b c d e → P2 a b c d e → P3 a b c d e → P4 a b c d e → G) : G := h.elim fun a h => h.elim fun b h => h.elim fun c h => h.elim fun d h => h.elim fun e h => K a b c d e h.1 h.2.1 h.2.2.1 h.2.2.2.1 h.2.2.2.2
theorem y0a3 {P0 P1 P2 : Prop} (p0 : P0) (p1 : P1) (p2 : P2) : P0 ∧ P1 ∧ P2 := ⟨p0, p1, p2⟩
theorem y0a4 {P0 P1 P2 P3 : Prop} (p0 : P0) (p1 : P1) (p2 : P2) (p3 : P3) : P0 ∧ P1 ∧ P2 ∧ P3 := ⟨p0, p1, p2, p3⟩
theorem y1a2.{u0} {A0 : Sort u0} {P0 P1 : A0 → Prop} (a : A0) (p0 : P0 a) (p1 : P1 a) : ∃ a, P0 a ∧ P1 a := ⟨a, p0, p1⟩
theorem y1a3.{u0} {A0 : Sort u0} {P0 P1 P2 : A0 → Prop} (a : A0) (p0 : P0 a) (p1 : P1 a) (p2 : P2 a) : ∃ a, P0 a ∧ P1 a ∧ P2 a := ⟨a, p0, p1, p2⟩
theorem y1a4.{u0} {A0 : Sort u0} {P0 P1 P2 P3 : A0 → Prop} (a : A0) (p0 : P0 a) (p1 : P1 a) (p2 : P2 a) (p3 : P3 a) : ∃ a, P0 a ∧ P1 a ∧ P2 a ∧ P3 a := ⟨a, p0, p1, p2, p3⟩
theorem y1a5.{u0} {A0 : Sort u0} {P0 P1 P2 P3 P4 : A0 → Prop} (a : A0) (p0 : P0 a) (p1 : P1 a) (p2 : P2 a) (p3 : P3 a) (p4 : P4 a) : ∃ a, P0 a ∧ P1 a ∧ P2 a ∧ P3 a ∧ P4 a := ⟨a, p0, p1, p2, p3, p4⟩
theorem y2a1.{u0, u1} {A0 : Sort u0} {A1 : Sort u1} {P0 : A0 → A1 → Prop} (a : A0) (b : A1) (p0 : P0 a b) : ∃ a b, P0 a b := ⟨a, b, p0⟩
theorem y2a2.{u0, u1} {A0 : Sort u0} {A1 : Sort u1} {P0 P1 : A0 → A1 → Prop} (a : A0) (b : A1) (p0 : P0 a b) (p1 : P1 a b) : ∃ a b, P0 a b ∧ P1 a b := ⟨a, b, p0, p1⟩
theorem y2a3.{u0, u1} {A0 : Sort u0} {A1 : Sort u1} {P0 P1 P2 : A0 → A1 → Prop} (a : A0) (b : A1) (p0 : P0 a b) (p1 : P1 a b) (p2 : P2 a b) : ∃ a b, P0 a b ∧ P1 a b ∧ P2 a b := ⟨a, b, p0, p1, p2⟩
theorem y2a4.{u0, u1} {A0 : Sort u0} {A1 : Sort u1} {P0 P1 P2 P3 : A0 → A1 → Prop} (a : A0) (b : A1) (p0 : P0 a b) (p1 : P1 a b) (p2 : P2 a b) (p3 : P3 a b) : ∃ a b, P0 a b ∧ P1 a b ∧ P2 a b ∧ P3 a b := ⟨a, b, p0, p1, p2, p3⟩
theorem y2a5.{u0, u1} {A0 : Sort u0} {A1 : Sort u1} {P0 P1 P2 P3 P4 : A0 → A1 → Prop} (a : A0) (b : A1) (p0 : P0 a b) (p1 : P1 a b) (p2 : P2 a b) (p3 : P3 a b) (p4 : P4 a b) : ∃ a b, P0 a b ∧ P1 a b ∧ P2 a b ∧ P3 a b ∧ P4 a b := ⟨a, b, p0, p1, p2, p3, p4⟩
theorem y2a6.{u0, u1} {A0 : Sort u0} {A1 : Sort u1} {P0 P1 P2 P3 P4 P5 : A0 → A1 → Prop} (a : A0) (b : A1) (p0 : P0 a b) (p1 : P1 a b) (p2 : P2 a b) (p3 : P3 a b) (p4 : P4 a b) (p5 : P5 a b) : ∃ a b, P0 a b ∧ P1 a b ∧ P2 a b ∧ P3 a b ∧ P4 a b ∧ P5 a b := ⟨a, b, p0, p1, p2, p3, p4, p5⟩
theorem y3a2.{u0, u1, u2} {A0 : Sort u0} {A1 : Sort u1} {A2 : Sort u2} {P0 P1 : A0 → A1 → A2 → Prop} (a : A0) (b : A1) (c : A2) (p0 : P0 a b c) (p1 : P1 a b c) : ∃ a b c, P0 a b c ∧ P1 a b c := ⟨a, b, c, p0, p1⟩
theorem y3a3.{u0, u1, u2} {A0 : Sort u0} {A1 : Sort u1} {A2 : Sort u2} {P0 P1 P2 : A0 → A1 → A2 → Prop} (a : A0) (b : A1) (c : A2) (p0 : P0 a b c) (p1 : P1 a b c) (p2 : P2 a b c) : ∃ a b c, P0 a b c ∧ P1 a b c ∧ P2 a b c := ⟨a, b, c, p0, p1, p2⟩
theorem y3a4.{u0, u1, u2} {A0 : Sort u0} {A1 : Sort u1} {A2 : Sort u2} {P0 P1 P2 P3 : A0 → A1 → A2 → Prop} (a : A0) (b : A1) (c : A2) (p0 : P0 a b c) (p1 : P1 a b c) (p2 : P2 a b c) (p3 : P3 a b c) : ∃ a b c, P0 a b c ∧ P1 a b c ∧ P2 a b c ∧ P3 a b c := ⟨a, b, c, p0, p1, p2, p3⟩
theorem y3a5.{u0, u1, u2} {A0 : Sort u0} {A1 : Sort u1} {A2 : Sort u2} {P0 P1 P2 P3 P4 : A0 → A1 → A2 → Prop} (a : A0) (b : A1) (c : A2) (p0 : P0 a b c) (p1 : P1 a b c) (p2 : P2 a b c) (p3 : P3 a b c) (p4 : P4 a b c) : ∃ a b c, P0 a b c ∧ P1 a b c ∧ P2 a b c ∧ P3 a b c ∧ P4 a b c := ⟨a, b, c, p0, p1, p2, p3, p4⟩
theorem y3a6.{u0, u1, u2} {A0 : Sort u0} {A1 : Sort u1} {A2 : Sort u2} {P0 P1 P2 P3 P4 P5 : A0 → A1 → A2 → Prop} (a : A0) (b : A1) (c : A2) (p0 : P0 a b c) (p1 : P1 a b c) (p2 : P2 a b c) (p3 : P3 a b c) (p4 : P4 a b c) (p5 : P5 a b c) : ∃ a b c, P0 a b c ∧ P1 a b c ∧ P2 a b c ∧ P3 a b c ∧ P4 a b c ∧ P5 a b c := ⟨a, b, c, p0, p1, p2, p3, p4, p5⟩
theorem y3a7.{u0, u1, u2} {A0 : Sort u0} {A1 : Sort u1} {A2 : Sort u2} {P0 P1 P2 P3 P4 P5 P6 : A0 → A1 → A2 → Prop} (a : A0) (b : A1) (c : A2) (p0 : P0 a b c) (p1 : P1 a b c) (p2 : P2 a b c) (p3 : P3 a b c) (p4 : P4 a b c) (p5 : P5 a b c) (p6 : P6 a b c) : ∃ a b c, P0 a b c ∧ P1 a b c ∧ P2 a b c ∧ P3 a b c ∧ P4 a b c ∧ P5 a b c ∧ P6 a b c := ⟨a, b, c, p0, p1, p2, p3, p4, p5, p6⟩
theorem y4a4.{u0, u1, u2, u3} {A0 : Sort u0} {A1 : Sort u1} {A2 : Sort u2} {A3 : Sort u3} {P0 P1 P2 P3 : A0 → A1 → A2 → A3 → Prop} (a : A0) (b : A1) (c : A2) (d : A3) (p0 : P0 a b c d) (p1 : P1 a b c d) (p2 : P2 a b c d) (p3 : P3 a b c d) : ∃ a b c d, P0 a b c d ∧ P1 a b c d ∧ P2 a b c d ∧ P3 a b c d := ⟨a, b, c, d, p0, p1, p2, p3⟩
theorem y4a6.{u0, u1, u2, u3} {A0 : Sort u0} {A1 : Sort u1} {A2 : Sort u2} {A3 : Sort u3} {P0 P1 P2 P3 P4 P5 : A0 → A1 → A2 → A3 → Prop} (a : A0) (b : A1) (c : A2) (d : A3) (p0 : P0 a b c d) (p1 : P1 a b c d) (p2 : P2 a b c d) (p3 : P3 a b c d) (p4 : P4 a b c d) (p5 : P5 a b c d) : ∃ a b c d, P0 a b c d ∧ P1 a b c d ∧ P2 a b c d ∧ P3 a b c d ∧ P4 a b c d ∧ P5 a b c d := ⟨a, b, c, d, p0, p1, p2, p3, p4, p5⟩
theorem clN {α : Type u} {a : α} {G : Prop} (e : none = some a) : G := by cases e
theorem clS {α : Type u} {a : α} {G : Prop} (e : some a = none) : G := by cases e
theorem clF {G : Prop} (e : false = true) : G := by cases e
theorem clT {G : Prop} (e : true = false) : G := by cases e
theorem jS {α : Type u} {a : α} {motive : ∀ b : α, some a = some b → Prop} (k : motive a rfl) {b : α} (e : some a = some b) : motive b e := by cases e; exact k
theorem jP {α : Type u} {β : Type v} {a : α} {b : β} {motive : ∀ (c : α) (d : β), some (a, b) = some (c, d) → Prop} (k : motive a b rfl) {c : α} {d : β} (e : some (a, b) = some (c, d)) : motive c d e := by cases e; exact k
open Lean in
def nms (c : String) (j : Nat) : Array Ident := (Array.range (min j 6)).map fun k => mkIdent (.str `Mine (c ++ toString k ++ "a" ++ toString (j - k)))
open Lean in
def fst (a : Array (TSyntax `Lean.Parser.Tactic.tacticSeq)) : MacroM (TSyntax `tactic) := do
  let b := a.push (← `(tacticSeq| fail))
  `(tactic| first $[| $b]*)
end Mine

set_option compiler.extract_closed false
open Lean in
local macro_rules
  | `(tactic| rcases $t:term with ⟨$ps,*⟩) => do
    let ps := ps.getElems
    if ps.size < 2 || ps.size > 10 then Macro.throwUnsupported
    let mut xs : Array Ident := #[]
    let mut post : Array (TSyntax `tactic) := #[]
    for p in ps do
      let a := p.raw[0][0]
      let r := a[0]
      let k := r.getKind
      if p.raw[1].getNumArgs != 0 || a.getNumArgs != 1 then Macro.throwUnsupported
      if k == ``Lean.Parser.Tactic.rcasesPat.one && r[0].getId != `rfl then xs := xs.push ⟨r[0]⟩
      else if k == ``Lean.Parser.Tactic.rcasesPat.ignore then xs := xs.push ⟨(← `(w)).raw⟩
      else if k == ``Lean.Parser.Tactic.rcasesPat.one || k == ``Lean.Parser.Tactic.rcasesPat.tuple || k == ``Lean.Parser.Tactic.rcasesPat.paren then
        let z := mkIdent (.num `zq (p.raw.getPos?.getD 0).byteIdx)
        xs := xs.push z
        let q : TSyntax `Lean.Parser.Tactic.rcasesPatLo := ⟨p.raw⟩
        post := post.push (← `(tactic| rcases $z:ident with $q:rcasesPatLo))
      else Macro.throwUnsupported
    let u : Ident := ⟨t.raw⟩
    let alts ← (Mine.nms "x" ps.size).mapM fun f => if t.raw.isIdent then `(tacticSeq| ((with_reducible refine $f $t ?_); (try clear $u:ident); intro $[$xs:ident]*)) else `(tacticSeq| with_reducible refine $f $t fun $xs* => ?_)
    let r ← Mine.fst alts
    `(tactic| ($r:tactic; $[$post];*))
local macro_rules
  | `(tactic| obtain ⟨$ps,*⟩ := $t:term) => `(tactic| rcases $t:term with ⟨$ps,*⟩)
open Lean in
local macro_rules
  | `(tactic| cases $e:ident) => do
    let f (n : Name) : Ident := mkIdent (`Mine ++ n)
    let a ← #[`clN, `clS, `clF, `clT].mapM fun n => `(tacticSeq| with_reducible exact $(f n) $e)
    let b ← #[`jP, `jS].mapM fun n => `(tacticSeq| with_reducible induction $e:ident using $(f n))
    Mine.fst (a ++ b)
open Lean in
local macro_rules
  | `(tactic| exact ⟨$ts,*⟩) => do
    let xs := ts.getElems
    if xs.size < 3 || xs.size > 10 then Macro.throwUnsupported
    let a ← (Mine.nms "y" xs.size).mapM fun f => `(tacticSeq| exact $f $xs*)
    Mine.fst a
  | `(tactic| refine ⟨$ts,*⟩) => do
    let xs := ts.getElems
    if xs.size < 3 || xs.size > 10 then Macro.throwUnsupported
    let a ← (Mine.nms "y" xs.size).mapM fun f => `(tacticSeq| refine $f $xs*)
    Mine.fst a
set_option linter.all false
set_option Elab.async false
set_option maxRecDepth 100000
set_option maxHeartbeats 8000000
set_option bootstrap.genMatcherCode false
section
namespace Mine
inductive AV where
 | none
 | bool (b:Bool)
 | int (i:Int)
 | str (c:Nat)
 | tup (l:List AV)
 | lst (l:List AV)
 | dct (l:List (Nat×AV))
 | ins (c:Nat) (l:List (Nat×AV))
 | ref (i:Nat)
 | tok (i:Nat)
 deriving Inhabited
inductive AO where
 | list (l:List AV)
 | dict (l:List (Nat×AV))
 | inst (c:Nat) (l:List (Nat×AV))
 deriving Inhabited
noncomputable abbrev aa:=List AO
noncomputable abbrev Loc:=List (Nat×AV)
inductive COp where | eq | ne | lt | le | gt | ge | isNone | isNotNone | isNot | inn | notIn
inductive BOp where | add | sub | mul | fdiv | mod
inductive BI where | list | tuple | len | sorted | dict | abs | max | min | isTuple
mutual
inductive IE where
 | int (i:Int)
 | str (c:Nat)
 | none
 | bool (b:Bool)
 | var (x:Nat)
 | glob (x:Nat)
 | tup (l:List IE)
 | list (l:List IE)
 | dict0
 | dict1 (k:Nat) (e:IE)
 | attr (e:IE) (a:Nat)
 | sub (e i:IE)
 | last (e:IE)
 | rev (e:IE)
 | revTail (e:IE)
 | take (e:IE) (n:Nat)
 | drop (e:IE) (n:Nat)
 | call (f:Nat) (args:List IE)
 | new (c:Nat) (args:List IE)
 | meth (o:IE) (m:Nat) (args:List IE)
 | bi (b:BI) (args:List IE)
 | sortK (e:IE) (f:Nat)
 | join (sep:Nat) (e:IE)
 | cmp (op:COp) (l r:IE)
 | and (l:List IE)
 | or (l:List IE)
 | not (e:IE)
 | bin (op:BOp) (l r:IE)
 | ite (t b o:IE)
 | comp (elt:IE) (cl:List IC)
 | val (e:IE)
 | bad
inductive IC where
 | mk (tg:List Nat) (it:It) (ifs:List IE)
inductive It where
 | of (e:IE)
 | rng (e:IE)
 | zp (a b:IE)
end
inductive IT where
 | name (x:Nat)
 | attr (e:IE) (a:Nat)
 | sub (e i:IE)
 | tup (l:List Nat)
inductive IS where
 | assign (t:IT) (e:IE)
 | expr (e:IE)
 | ret (e:IE)
 | ite (t:IE) (b o:List IS)
 | while (t:IE) (b:List IS)
 | for (tg:List Nat) (it:It) (b:List IS)
 | bad
structure Fn where
 ps:List Nat
 dflt:List AV
 body:List IS
noncomputable def br{α β:Type}:List α→(List α→β)→β
 | [],k=>k []
 | x::r,k=>br r fun r=>k (x::r)
@[simp] theorem aB {α β:Type}:∀(l:List α) (k:List α→β),br l k=k l
 | [],_=>rfl
 | _::r,k=>by show br r _=_;rw[aB r]
noncomputable def cR{β:Type}(b:Bool)(k:Bool→β):β:=match b with
 | true=>k true
 | false=>k false
@[simp] theorem be {β:Type} (b:Bool) (k:Bool→β):cR b k=k b:=by cases b<;>rfl
noncomputable def iT{β:Type}(n:Nat)(k:Nat→β):β:=match n with
 | 0=>k 0
 | n + 1=>k (n + 1)
@[simp] theorem uC {β:Type} (n:Nat) (k:Nat→β):iT n k=k n:=by cases n<;>rfl
noncomputable def bA{β:Type}(i:Int)(k:Int→β):β:=match i with
 | .ofNat n=>iT n fun n=>k (.ofNat n)
 | .negSucc n=>iT n fun n=>k (.negSucc n)
@[simp] theorem aO {β:Type} (i:Int) (k:Int→β):bA i k=k i:=by cases i<;>simp[bA]
noncomputable def bnd{α β:Type}(m:Option (α×aa))(k:α→aa→Option (β×aa)):Option (β×aa):=
 match m with
 | some (a,S)=>k a S
 | none=>none
noncomputable def iN{β:Type}(v:AV)(k:β)(d:β):β:=AV.casesOn (motive_1:=fun _=>β) v k (fun _=>d) (fun _=>d) (fun _=>d) (fun _=>d) (fun _=>d) (fun _=>d) (fun _ _=>d) (fun _=>d) (fun _=>d)
theorem jk{β:Type}{k:β}{d r:β}{G:AV→Prop}{v:AV}(e:iN v k d=r)(nd:d≠r)(K:k=r→G (.none)):G v:=by cases v<;>first | exact K e | exact absurd e nd
theorem tw{β:Type}{k:β}{d r:β}{v:AV}{G:Prop}(e:iN v k d=r)(nd:d≠r)(K:v=.none→k=r→G):G:=jk (G:=fun w=>v=w→G) e nd (fun e z=>K z e) rfl
noncomputable def gN{β:Type}(v:AV)(k:Bool→β)(d:β):β:=AV.casesOn (motive_1:=fun _=>β) v d k (fun _=>d) (fun _=>d) (fun _=>d) (fun _=>d) (fun _=>d) (fun _ _=>d) (fun _=>d) (fun _=>d)
theorem ou{β:Type}{k:Bool→β}{d r:β}{G:AV→Prop}{v:AV}(e:gN v k d=r)(nd:d≠r)(K:∀x0,k x0=r→G (.bool x0)):G v:=by cases v<;>first | exact K _ e | exact absurd e nd
theorem jl{β:Type}{k:Bool→β}{d r:β}{v:AV}{G:Prop}(e:gN v k d=r)(nd:d≠r)(K:∀x0,v=.bool x0→k x0=r→G):G:=ou (G:=fun w=>v=w→G) e nd (fun x0 e z=>K x0 z e) rfl
noncomputable def fs{β:Type}(v:AV)(k:Int→β)(d:β):β:=AV.casesOn (motive_1:=fun _=>β) v d (fun _=>d) k (fun _=>d) (fun _=>d) (fun _=>d) (fun _=>d) (fun _ _=>d) (fun _=>d) (fun _=>d)
theorem vY{β:Type}{k:Int→β}{d r:β}{G:AV→Prop}{v:AV}(e:fs v k d=r)(nd:d≠r)(K:∀x0,k x0=r→G (.int x0)):G v:=by cases v<;>first | exact K _ e | exact absurd e nd
theorem ft{β:Type}{k:Int→β}{d r:β}{v:AV}{G:Prop}(e:fs v k d=r)(nd:d≠r)(K:∀x0,v=.int x0→k x0=r→G):G:=vY (G:=fun w=>v=w→G) e nd (fun x0 e z=>K x0 z e) rfl
noncomputable def gY{β:Type}(v:AV)(k:Nat→β)(d:β):β:=AV.casesOn (motive_1:=fun _=>β) v d (fun _=>d) (fun _=>d) k (fun _=>d) (fun _=>d) (fun _=>d) (fun _ _=>d) (fun _=>d) (fun _=>d)
theorem rJ{β:Type}{k:Nat→β}{d r:β}{G:AV→Prop}{v:AV}(e:gY v k d=r)(nd:d≠r)(K:∀x0,k x0=r→G (.str x0)):G v:=by cases v<;>first | exact K _ e | exact absurd e nd
theorem iU{β:Type}{k:Nat→β}{d r:β}{v:AV}{G:Prop}(e:gY v k d=r)(nd:d≠r)(K:∀x0,v=.str x0→k x0=r→G):G:=rJ (G:=fun w=>v=w→G) e nd (fun x0 e z=>K x0 z e) rfl
noncomputable def fy{β:Type}(v:AV)(k:(List AV)→β)(d:β):β:=AV.casesOn (motive_1:=fun _=>β) v d (fun _=>d) (fun _=>d) (fun _=>d) k (fun _=>d) (fun _=>d) (fun _ _=>d) (fun _=>d) (fun _=>d)
theorem rK{β:Type}{k:(List AV)→β}{d r:β}{G:AV→Prop}{v:AV}(e:fy v k d=r)(nd:d≠r)(K:∀x0,k x0=r→G (.tup x0)):G v:=by cases v<;>first | exact K _ e | exact absurd e nd
theorem lu{β:Type}{k:(List AV)→β}{d r:β}{v:AV}{G:Prop}(e:fy v k d=r)(nd:d≠r)(K:∀x0,v=.tup x0→k x0=r→G):G:=rK (G:=fun w=>v=w→G) e nd (fun x0 e z=>K x0 z e) rfl
noncomputable def rL{β:Type}(v:AV)(k:(List AV)→β)(d:β):β:=AV.casesOn (motive_1:=fun _=>β) v d (fun _=>d) (fun _=>d) (fun _=>d) (fun _=>d) k (fun _=>d) (fun _ _=>d) (fun _=>d) (fun _=>d)
theorem Dg{β:Type}{k:(List AV)→β}{d r:β}{G:AV→Prop}{v:AV}(e:rL v k d=r)(nd:d≠r)(K:∀x0,k x0=r→G (.lst x0)):G v:=by cases v<;>first | exact K _ e | exact absurd e nd
noncomputable def rM{β:Type}(v:AV)(k:(List (Nat×AV))→β)(d:β):β:=AV.casesOn (motive_1:=fun _=>β) v d (fun _=>d) (fun _=>d) (fun _=>d) (fun _=>d) (fun _=>d) k (fun _ _=>d) (fun _=>d) (fun _=>d)
theorem Dh{β:Type}{k:(List (Nat×AV))→β}{d r:β}{G:AV→Prop}{v:AV}(e:rM v k d=r)(nd:d≠r)(K:∀x0,k x0=r→G (.dct x0)):G v:=by cases v<;>first | exact K _ e | exact absurd e nd
noncomputable def vZ{β:Type}(v:AV)(k:Nat→(List (Nat×AV))→β)(d:β):β:=AV.casesOn (motive_1:=fun _=>β) v d (fun _=>d) (fun _=>d) (fun _=>d) (fun _=>d) (fun _=>d) (fun _=>d) k (fun _=>d) (fun _=>d)
theorem Di{β:Type}{k:Nat→(List (Nat×AV))→β}{d r:β}{G:AV→Prop}{v:AV}(e:vZ v k d=r)(nd:d≠r)(K:∀x0 x1,k x0 x1=r→G (.ins x0 x1)):G v:=by cases v<;>first | exact K _ _ e | exact absurd e nd
noncomputable def dH{β:Type}(v:AV)(k:Nat→β)(d:β):β:=AV.casesOn (motive_1:=fun _=>β) v d (fun _=>d) (fun _=>d) (fun _=>d) (fun _=>d) (fun _=>d) (fun _=>d) (fun _ _=>d) k (fun _=>d)
theorem ov{β:Type}{k:Nat→β}{d r:β}{G:AV→Prop}{v:AV}(e:dH v k d=r)(nd:d≠r)(K:∀x0,k x0=r→G (.ref x0)):G v:=by cases v<;>first | exact K _ e | exact absurd e nd
theorem cS{β:Type}{k:Nat→β}{d r:β}{v:AV}{G:Prop}(e:dH v k d=r)(nd:d≠r)(K:∀x0,v=.ref x0→k x0=r→G):G:=ov (G:=fun w=>v=w→G) e nd (fun x0 e z=>K x0 z e) rfl
noncomputable def zw{β:Type}(v:AV)(k:Nat→β)(d:β):β:=AV.casesOn (motive_1:=fun _=>β) v d (fun _=>d) (fun _=>d) (fun _=>d) (fun _=>d) (fun _=>d) (fun _=>d) (fun _ _=>d) (fun _=>d) k
theorem Dj{β:Type}{k:Nat→β}{d r:β}{G:AV→Prop}{v:AV}(e:zw v k d=r)(nd:d≠r)(K:∀x0,k x0=r→G (.tok x0)):G v:=by cases v<;>first | exact K _ e | exact absurd e nd
noncomputable def ay{α β:Type}(o:Option α)(k:α→β)(d:β):β:=Option.casesOn o d k
theorem ah{α β:Type}{k:α→β}{d r:β}{G:Prop}{o:Option α}(e:ay o k d=r)(nd:d≠r)(K:∀x,o=some x→k x=r→G):G:=by
 cases o with
 | none=>exact absurd e nd
 | some x=>exact K x rfl e
noncomputable def v3{β:Type}(o:AO)(k:(List AV)→β)(d:β):β:=AO.casesOn (motive:=fun _=>β) o k (fun _=>d) (fun _ _=>d)
theorem tx{β:Type}{k:(List AV)→β}{d r:β}{G:AO→Prop}{o:AO}(e:v3 o k d=r)(nd:d≠r)(K:∀x0,k x0=r→G (.list x0)):G o:=by cases o<;>first | exact K _ e | exact absurd e nd
noncomputable def bQ{β:Type}(o:Option AO)(k:(List AV)→β)(d:β):β:=ay o (fun a=>v3 a k d) d
theorem c8{β:Type}{k:(List AV)→β}{d r:β}{G:Prop}{o:Option AO}(e:bQ o k d=r)(nd:d≠r)(K:∀x0,o=some (.list x0)→k x0=r→G):G:=ah e nd fun _ q e=>tx (G:=fun a=>o=some a→G) e nd (fun x0 e q=>K x0 q e) q
noncomputable def v4{β:Type}(o:AO)(k:(List (Nat×AV))→β)(d:β):β:=AO.casesOn (motive:=fun _=>β) o (fun _=>d) k (fun _ _=>d)
theorem ty{β:Type}{k:(List (Nat×AV))→β}{d r:β}{G:AO→Prop}{o:AO}(e:v4 o k d=r)(nd:d≠r)(K:∀x0,k x0=r→G (.dict x0)):G o:=by cases o<;>first | exact K _ e | exact absurd e nd
noncomputable def jm{β:Type}(o:Option AO)(k:(List (Nat×AV))→β)(d:β):β:=ay o (fun a=>v4 a k d) d
theorem f9{β:Type}{k:(List (Nat×AV))→β}{d r:β}{G:Prop}{o:Option AO}(e:jm o k d=r)(nd:d≠r)(K:∀x0,o=some (.dict x0)→k x0=r→G):G:=ah e nd fun _ q e=>ty (G:=fun a=>o=some a→G) e nd (fun x0 e q=>K x0 q e) q
noncomputable def v5{β:Type}(o:AO)(k:Nat→(List (Nat×AV))→β)(d:β):β:=AO.casesOn (motive:=fun _=>β) o (fun _=>d) (fun _=>d) k
theorem tz{β:Type}{k:Nat→(List (Nat×AV))→β}{d r:β}{G:AO→Prop}{o:AO}(e:v5 o k d=r)(nd:d≠r)(K:∀x0 x1,k x0 x1=r→G (.inst x0 x1)):G o:=by cases o<;>first | exact K _ _ e | exact absurd e nd
noncomputable def gO{β:Type}(o:Option AO)(k:Nat→(List (Nat×AV))→β)(d:β):β:=ay o (fun a=>v5 a k d) d
theorem ow{β:Type}{k:Nat→(List (Nat×AV))→β}{d r:β}{G:Prop}{o:Option AO}(e:gO o k d=r)(nd:d≠r)(K:∀x0 x1,o=some (.inst x0 x1)→k x0 x1=r→G):G:=ah e nd fun _ q e=>tz (G:=fun a=>o=some a→G) e nd (fun x0 x1 e q=>K x0 x1 q e) q
theorem nN{α:Type}{r:α}:none≠some r:=nofun
theorem nF:false≠true:=nofun
noncomputable def am{β:Type}(b:Bool)(x y:β):β:=Bool.casesOn b y x
theorem lw{α:Sort u}(G:α→Prop){c:Prop}{dc:Decidable c}{a b:α}(k1:c→G a)(k2:¬c→G b):G (if c then a else b):=by
 by_cases h:c
 ·rw[if_pos h];exact k1 h
 ·rw[if_neg h];exact k2 h
theorem IU{a b:Nat}{c:Bool}(h:¬((a != b||c)=true)):a=b:=Decidable.byContradiction fun z=>h (by rw[bne_iff_ne.mpr z];rfl)
theorem aC{β:Type}{x y r:β}{G:Prop}{b:Bool}(e:am b x y=r)(nd:y≠r)(K:b=true→x=r→G):G:=by
 cases b with
 | false=>exact absurd e nd
 | true=>exact K rfl e
theorem aE{β:Type}{x y r:β}{G:Prop}{b:Bool}(e:am b x y=r)(K:b=true→x=r→G)(K2:b=false→y=r→G):G:=by
 cases b with
 | false=>exact K2 rfl e
 | true=>exact K rfl e
theorem fJ{α β:Type}{m:Option (α×aa)}{k:α→aa→Option (β×aa)}{r:β×aa}{G:Prop}(e:bnd m k=some r)(K:∀a S,m=some (a,S)→k a S=some r→G):G:=by
 cases m with
 | none=>exact absurd e nN
 | some p=>exact K p.1 p.2 rfl e
theorem dP{α β:Type}{a c:α}{b d:β}{G:α→β→Prop}(e:some (a,b)=some (c,d))(K:G a b):G c d:=by cases e;exact K
theorem aT{a b:Bool}{G:Prop}(e:(a&&b)=true)(K:a=true→b=true→G):G:=by
 cases a with
 | false=>exact nomatch e
 | true=>exact K rfl e
theorem v6{β:Type}{k:Int→β}{d r:β}{v:AV}{G:Prop}(e:fs v k d=r)(K:∀x,v=.int x→k x=r→G)(K2:d=r→G):G:=by cases v<;>first | exact K _ rfl e | exact K2 e
theorem Dk{β:Type}{k:Nat→β}{d r:β}{v:AV}{G:Prop}(e:gY v k d=r)(K:∀x,v=.str x→k x=r→G)(K2:d=r→G):G:=by cases v<;>first | exact K _ rfl e | exact K2 e
theorem gd{β:Type}{k:List AV→β}{d r:β}{v:AV}{G:Prop}(e:fy v k d=r)(K:∀x,v=.tup x→k x=r→G)(K2:d=r→G):G:=by cases v<;>first | exact K _ rfl e | exact K2 e
theorem oz{β:Type}{k:List AV→β}{d r:β}{v:AV}{G:Prop}(e:rL v k d=r)(K:∀x,v=.lst x→k x=r→G)(K2:d=r→G):G:=by cases v<;>first | exact K _ rfl e | exact K2 e
theorem rN{β:Type}{k:List (Nat×AV)→β}{d r:β}{v:AV}{G:Prop}(e:rM v k d=r)(K:∀x,v=.dct x→k x=r→G)(K2:d=r→G):G:=by cases v<;>first | exact K _ rfl e | exact K2 e
theorem v7{β:Type}{k:Nat→List (Nat×AV)→β}{d r:β}{v:AV}{G:Prop}(e:vZ v k d=r)(K:∀x y,v=.ins x y→k x y=r→G)(K2:d=r→G):G:=by cases v<;>first | exact K _ _ rfl e | exact K2 e
theorem c9{α β:Type}{k:α→β}{d r:β}{G:Prop}{o:Option α}(e:ay o k d=r)(K:∀x,o=some x→k x=r→G)(K2:o=none→d=r→G):G:=by
 cases o with
 | none=>exact K2 rfl e
 | some x=>exact K x rfl e
theorem oB{β:Type}{k:List AV→β}{d r:β}{G:Prop}{o:Option AO}(e:bQ o k d=r)(K:∀x,o=some (.list x)→k x=r→G)(K2:d=r→G):G:=c9 e (fun a h e=>by cases a with | list l=>exact K l h e | _=>exact K2 e) fun _=>K2
theorem zx{β:Type}{k:Nat→List (Nat×AV)→β}{d r:β}{G:Prop}{o:Option AO}(e:gO o k d=r)(K:∀c x,o=some (.inst c x)→k c x=r→G)(K2:d=r→G):G:=c9 e (fun a h e=>by cases a with | inst c l=>exact K c l h e | _=>exact K2 e) fun _=>K2
noncomputable def c6{α β:Type}(l:List α)(k0:β)(k:α→List α→β):β:=List.casesOn l k0 k
theorem bu{α β:Type}{k0:β}{k:α→List α→β}{r:β}{G:List α→Prop}{l:List α}(e:c6 l k0 k=r)(K0:k0=r→G [])(K:∀a t,k a t=r→G (a::t)):G l:=by
 cases l with
 | nil=>exact K0 e
 | cons a t=>exact K a t e
noncomputable def upd(x:Nat)(v:AV):Loc→Loc
 | []=>[(x,v)]
 | p::r=>am (Nat.beq x p.1) ((x,v)::r) (p::upd x v r)
noncomputable def get?(x:Nat):Loc→Option AV
 | []=>none
 | p::r=>am (Nat.beq x p.1) (some p.2) (get? x r)
noncomputable def aU(xs:List Nat)(l:Loc):Loc:=l.filter fun p=>!(xs.any fun x=>Nat.beq x p.1)
noncomputable def setAt{α:Type}:List α→Nat→α→List α
 | [],_,_=>[]
 | _::r,0,v=>v::r
 | x::r,n + 1,v=>x::setAt r n v
noncomputable def cy(tg:List Nat)(v:AV)(loc:Loc):Option Loc:=
 c6 tg none fun x r=>c6 r (br (upd x v loc) some) fun y r=>fy v (fun l=>am (Nat.beq l.length (r.length + 2)) (br (((x::y::r).zip l).foldl (fun m p=>upd p.1 p.2 m) loc) some) none) none
noncomputable def bj(v:AV)(S:aa):Option (List AV):=rL v some (dH v (fun i=>bQ S[i]? some none) none)
theorem zy{v:AV}{S:aa}{l:List AV}{G:Prop}(e:bj v S=some l)(K1:v=.lst l→G)(K2:∀i,v=.ref i→S[i]?=some (.list l)→G):G:=
 oz e (fun x h e=>K1 (Option.some.inj e▸h)) fun e=>cS e nN fun i h e=>c8 e nN fun x g e=>K2 i h (Option.some.inj e▸g)
mutual
noncomputable def isD:Nat→aa→AV→Bool
 | 0,_,_=>false
 | n + 1,S,a=>AV.casesOn (motive_1:=fun _=>Bool) a true (fun _=>true) (fun _=>true) (fun _=>true) (fun l=>eT n S l) (fun l=>eT n S l) (fun _=>false) (fun _ _=>false) (fun i=>bQ S[i]? (fun l=>eT n S l) false) (fun _=>false)
noncomputable def eT:Nat→aa→List AV→Bool
 | 0,_,_=>false
 | n + 1,S,l=>List.casesOn l true fun a r=>isD n S a&&eT n S r
end
mutual
noncomputable def eqA:Nat→aa→AV→AV→Bool
 | 0,_,_,_=>false
 | n + 1,S,a,b=>AV.casesOn (motive_1:=fun _=>Bool) a (iN b true false) (fun x=>gN b (fun y=>x==y) (fs b (fun j=>(if x then 1 else 0)==j) false)) (fun x=>fs b (fun y=>x==y) (gN b (fun y=>x==(if y then 1 else 0)) false))
  (fun x=>gY b (fun y=>Nat.beq x y) false) (fun x=>fy b (fun y=>eqL n S x y) false) (fun x=>ay (bj b S) (fun y=>eqL n S x y) false) (fun _=>false) (fun _ _=>false)
  (fun i=>bQ S[i]? (fun x=>ay (bj b S) (fun y=>eqL n S x y) false) false) (fun _=>false)
noncomputable def eqL:Nat→aa→List AV→List AV→Bool
 | 0,_,_,_=>false
 | n + 1,S,x,y=>List.casesOn x (List.casesOn y true fun _ _=>false) fun a r=>List.casesOn y false fun b t=>eqA n S a b&&eqL n S r t
end
noncomputable def cx(k:Nat):List (Nat×AV)→Option AV
 | []=>none
 | p::r=>am (Nat.beq k p.1) (some p.2) (cx k r)
noncomputable def dI(k:Nat)(v:AV):List (Nat×AV)→List (Nat×AV)
 | []=>[(k,v)]
 | p::r=>am (Nat.beq k p.1) ((p.1,v)::r) (p::dI k v r)
noncomputable abbrev eqN:Nat:=40
noncomputable def rO(v:AV)(S:aa):Bool:=dH v (fun i=>jm S[i]? List.isEmpty false) false
noncomputable def eqV(S:aa)(a b:AV):Option Bool:=
 am (isD eqN S a&&isD eqN S b) (cR (eqA eqN S a b) some) (am (ay (bj a S) (fun l=>!l.isEmpty) false&&ay (bj b S) List.isEmpty false) (some false) (am (rO a S&&rO b S) (some true) none))
noncomputable def v8(S:aa)(a:AV)(l:List AV):Option Bool:=am (isD eqN S a&&l.all (isD eqN S)) (cR (l.any fun b=>eqA eqN S b a) some) none
noncomputable def uD(c:Nat):List Nat→List Nat
 | []=>[c]
 | d::r=>am (Nat.ble c d) (c::d::r) (d::uD c r)
noncomputable def ku(l:List Nat):List Nat:=l.foldr uD []
noncomputable def rP(v:AV):Option (Nat×AV):=fy v (fun t=>c6 t none fun a t=>gY a (fun k=>c6 t none fun u t=>c6 t (some (k,u)) fun _ _=>none) none) none
noncomputable def pairsOf:List AV→Option (List (Nat×AV))
 | []=>some []
 | v::r=>ay (rP v) (fun p=>ay (pairsOf r) (fun l=>some (p::l)) none) none
noncomputable def iW(i:Nat):List AV→Nat→Option Nat
 | [],_=>none
 | v::r,n=>dH v (fun j=>am (Nat.beq i j) (some n) (iW i r (n + 1))) none
noncomputable def oE:List AV→Option (List Nat)
 | []=>some []
 | v::r=>gY v (fun c=>ay (oE r) (fun l=>some (c::l)) none) none
noncomputable abbrev CF:=Nat→List AV→aa→Option (AV×aa)
noncomputable def lim:Nat:=1000
noncomputable def gg(o:AO)(S:aa):Option (AV×aa):=iT S.length fun n=>br (S++[o]) fun S=>some (.ref n,S)
noncomputable def newList(l:List AV)(S:aa):Option (AV×aa):=br l fun l=>gg (.list l) S
noncomputable def fz(S:aa)(i:Nat)(o:AO){β:Type}(k:aa→β):β:=br (setAt S i o) k
inductive Src where
 | items (l:List AV)
 | live (i:Nat)
 | zip (o:Option Nat)
noncomputable def tA(S:aa)(v:AV):Option Src:=fy v (fun l=>some (.items l)) (rL v (fun l=>some (.items l)) (dH v (fun i=>bQ S[i]? (fun _=>some (.live i)) none) none))
noncomputable def ng{σ:Type}(f:AV→σ→aa→Option (σ×aa)):List AV→σ→aa→Option (σ×aa)
 | [],a,S=>some (a,S)
 | v::r,a,S=>bnd (f v a S) fun a S=>ng f r a S
noncomputable def jn{σ:Type}(f:AV→σ→aa→Option (σ×aa))(i:Nat):Nat→Nat→σ→aa→Option (σ×aa)
 | 0,_,_,_=>none
 | n + 1,k,a,S=>bQ S[i]? (fun l=>ay l[k]? (fun v=>bnd (f v a S) fun a S=>jn f i n (k + 1) a S) (some (a,S))) none
noncomputable def gZ(o:Option Nat)(S:aa):Bool:=ay o (fun i=>bQ S[i]? List.isEmpty false) true
noncomputable def loop{σ:Type}(f:AV→σ→aa→Option (σ×aa))(wf:Nat)(src:Src)(a:σ)(S:aa):Option (σ×aa):=
 Src.casesOn src (fun l=>ng f l a S) (fun i=>jn f i wf 0 a S) fun o=>am (gZ o S) (some (a,S)) none
inductive Fl where
 | next (loc:Loc)
 | ret (v:AV)
noncomputable def jo{β:Type}(x:Fl)(k:Loc→β)(k2:AV→β):β:=Fl.casesOn x k k2
noncomputable def uE(f:AV→Loc→aa→Option (Fl×aa)):List AV→Loc→aa→Option (Fl×aa)
 | [],a,S=>some (.next a,S)
 | v::r,a,S=>bnd (f v a S) fun x S=>jo x (fun a=>uE f r a S) fun u=>some (.ret u,S)
noncomputable def rQ(f:AV→Loc→aa→Option (Fl×aa))(i:Nat):Nat→Nat→Loc→aa→Option (Fl×aa)
 | 0,_,_,_=>none
 | n + 1,k,a,S=>bQ S[i]? (fun l=>ay l[k]? (fun v=>bnd (f v a S) fun x S=>jo x (fun a=>rQ f i n (k + 1) a S) fun u=>some (.ret u,S)) (some (.next a,S))) none
noncomputable def Dl(f:AV→Loc→aa→Option (Fl×aa))(wf:Nat)(src:Src)(a:Loc)(S:aa):Option (Fl×aa):=
 Src.casesOn src (fun l=>uE f l a S) (fun i=>rQ f i wf 0 a S) fun o=>am (gZ o S) (some (.next a,S)) none
noncomputable def rR(t:Loc→aa→Option (Bool×aa))(f:Loc→aa→Option (Fl×aa)):Nat→Loc→aa→Option (Fl×aa)
 | 0,_,_=>none
 | n + 1,a,S=>bnd (t a S) fun b S=>am b (bnd (f a S) fun x S=>jo x (fun a=>rR t f n a S) fun u=>some (.ret u,S)) (some (.next a,S))
noncomputable def eqT(t:AV→AV→Option Bool)(S:aa)(a b:AV):Option Bool:=ay (eqV S a b) some (t a b)
noncomputable def inL(a:AV)(l:List AV)(S:aa)(g:Bool→Bool):Option (AV×aa):=ay (v8 S a l) (fun r=>cR (g r) fun b=>some (.bool b,S)) none
noncomputable def inD(a:AV)(l:List (Nat×AV))(S:aa)(g:Bool→Bool):Option (AV×aa):=gY a (fun c=>cR (g (cx c l).isSome) fun b=>some (.bool b,S)) none
noncomputable def inV(a b:AV)(S:aa)(g:Bool→Bool):Option (AV×aa):=
 fy b (fun l=>inL a l S g) (rL b (fun l=>inL a l S g) (rM b (fun l=>inD a l S g) (dH b (fun i=>bQ S[i]? (fun l=>inL a l S g) (jm S[i]? (fun l=>inD a l S g) none)) none)))
noncomputable def v9(a b:AV)(S:aa)(f:Int→Int→Bool):Option (AV×aa):=fs a (fun x=>fs b (fun y=>cR (f x y) fun b=>some (.bool b,S)) none) none
noncomputable def Cs(a:AV):Bool:=zw a (fun _=>true) false
noncomputable def Gd(a:AV):Bool:=iN a true false
noncomputable def isNone(a b:AV)(S:aa)(t u:Bool):Option (AV×aa):=iN b (am (Cs a) none (am (Gd a) (some (.bool t,S)) (some (.bool u,S)))) none
noncomputable def iE(t:AV→AV→Option Bool)(op:COp)(a b:AV)(S:aa):Option (AV×aa):=
 COp.casesOn op (ay (eqT t S a b) (fun r=>some (.bool r,S)) none) (ay (eqT t S a b) (fun r=>cR (!r) fun r=>some (.bool r,S)) none)
  (v9 a b S fun x y=>decide (x < y)) (v9 a b S fun x y=>decide (x≤y)) (v9 a b S fun x y=>decide (y < x)) (v9 a b S fun x y=>decide (y≤x))
  (isNone a b S true false) (isNone a b S false true) (dH a (fun i=>dH b (fun j=>cR (!Nat.beq i j) fun b=>some (.bool b,S)) none) none) (inV a b S fun r=>r) (inV a b S fun r=>!r)
noncomputable def jI(l:List AV)(i:Int):Option AV:=am (decide (0≤i)) l[i.toNat]? none
noncomputable def Ct(l:List AV)(i:Int)(S:aa):Option (AV×aa):=ay (jI l i) (fun v=>some (v,S)) none
noncomputable def Ge(c:Nat)(l:List (Nat×AV))(S:aa):Option (AV×aa):=ay (cx c l) (fun v=>some (v,S)) none
noncomputable def rS(a b:AV)(S:aa):Option (AV×aa):=
 fs b (fun i=>fy a (fun l=>Ct l i S) (ay (bj a S) (fun l=>Ct l i S) none)) (gY b (fun c=>rM a (fun l=>Ge c l S) (dH a (fun j=>jm S[j]? (fun l=>Ge c l S) none) none)) none)
noncomputable def big:Int:=2 ^ 64
noncomputable def lx(x:Int):Bool:=decide (-big < x)&&decide (x < big)
noncomputable def Gf(emp:Nat)(a b:AV)(S:aa):Option (AV×aa):=
 fs a (fun x=>fs b (fun y=>bA (x + y) fun i=>some (.int i,S)) none)
 (fy a (fun x=>fy b (fun y=>am (Nat.ble (x++y).length lim) (br (x++y) fun l=>some (.tup l,S)) none) none)
 (gY a (fun x=>gY b (fun y=>am (Nat.beq y emp) (some (.str x,S)) none) none)
 (ay (bj a S) (fun x=>ay (bj b S) (fun y=>am (Nat.ble (x++y).length lim) (newList (x++y) S) none) none) none)))
noncomputable def Gg(op:BOp)(x y:Int)(S:aa):Option (AV×aa):=BOp.casesOn op none (bA (x - y) fun i=>some (.int i,S))
 (am (lx x&&lx y) (bA (x * y) fun i=>some (.int i,S)) none)
 (am (decide (0 < y)&&decide (y < 1000000000)) (bA (Int.fdiv x y) fun i=>some (.int i,S)) none)
 (am (decide (0 < y)) (bA (Int.fmod x y) fun i=>some (.int i,S)) none)
noncomputable def Gh(op:BOp):Bool:=BOp.casesOn op true false false false false
noncomputable def pV(emp:Nat)(op:BOp)(a b:AV)(S:aa):Option (AV×aa):=am (Gh op) (Gf emp a b S) (fs a (fun x=>fs b (fun y=>Gg op x y S) none) none)
noncomputable def Cu(a:AV)(S:aa):Option (AV×aa):=fy a (fun l=>newList l S) (ay (bj a S) (fun l=>newList l S) none)
noncomputable def wa(a:AV)(S:aa):Option (AV×aa):=fy a (fun l=>some (.tup l,S)) (ay (bj a S) (fun l=>some (.tup l,S)) none)
noncomputable def tB(a:AV)(S:aa):Option (List (Nat×AV)):=rM a some (dH a (fun i=>jm S[i]? some none) none)
noncomputable def Gi(a:AV)(S:aa):Option (AV×aa):=
 fy a (fun l=>bA l.length fun i=>some (.int i,S)) (ay (bj a S) (fun l=>bA l.length fun i=>some (.int i,S)) (ay (tB a S) (fun l=>bA l.length fun i=>some (.int i,S)) none))
noncomputable def zA(a:AV)(S:aa):Option (AV×aa):=ay (tB a S) (fun l=>am (Nat.ble l.length 60) (newList ((ku (l.map (·.1))).map .str) S) none) none
noncomputable def Gj(a:AV)(S:aa):Option (AV×aa):=
 ay (tB a S) (fun l=>gg (.dict l) S) (ay (bj a S) (fun l=>ay (pairsOf l) (fun ps=>br (ps.foldl (fun d p=>dI p.1 p.2 d) []) fun d=>gg (.dict d) S) none) none)
noncomputable def Gk(a:AV)(S:aa):Option (AV×aa):=fy a (fun _=>some (.bool true,S)) (ay (bj a S) (fun _=>some (.bool false,S)) none)
noncomputable def bi1(b:BI)(a:AV)(S:aa):Option (AV×aa):=
 BI.casesOn b (Cu a S) (wa a S) (Gi a S) (zA a S) (Gj a S) (fs a (fun x=>bA (Int.ofNat x.natAbs) fun i=>some (.int i,S)) none) none none (Gk a S)
noncomputable def bi2(b:BI)(x y:Int)(S:aa):Option (AV×aa):=
 BI.casesOn b none none none none none none (bA (if x < y then y else x) fun i=>some (.int i,S)) (bA (if y < x then y else x) fun i=>some (.int i,S)) none
noncomputable def biV(b:BI)(args:List AV)(S:aa):Option (AV×aa):=c6 args none fun a r=>c6 r (bi1 b a S) fun c r=>c6 r (fs a (fun x=>fs c (fun y=>bi2 b x y S) none) none) fun _ _=>none
structure Mn where
 append:Nat
 pop:Nat
 extend:Nat
 index:Nat
 get:Nat
 setdefault:Nat
structure Pg where
 fn:Nat→Option Fn
 init:Nat→Option Nat
 meth:Nat→Nat→Option Nat
 glob:Nat→Option AV
 emp:Nat
 mn:Mn
 eqt:AV→AV→Option Bool
noncomputable def kW(P:Pg)(S:aa)(l:List AV):Bool:=l.all fun v=>dH v (fun j=>gO S[j]? (fun c _=>(P.init c).isSome) false) false
noncomputable def zB(i:Nat)(v:AV):Bool:=dH v (fun j=>Nat.beq i j) false
noncomputable def lm1(P:Pg)(i:Nat)(l:List AV)(m:Nat)(v:AV)(S:aa):Option (AV×aa):=
 am (Nat.beq m P.mn.append) (am (Nat.blt l.length lim) (br (l++[v]) fun l=>fz S i (.list l) fun S=>some (.none,S)) none)
 (am (Nat.beq m P.mn.extend) (am (zB i v) none (ay (bj v S) (fun k=>am (Nat.ble (l++k).length lim) (br (l++k) fun l=>fz S i (.list l) fun S=>some (.none,S)) none) none))
 (am (Nat.beq m P.mn.index) (dH v (fun j=>am (kW P S (v::l)) (ay (iW j l 0) (fun n=>bA (n:Nat) fun i=>some (.int i,S)) none) none) none) none))
noncomputable def ly(P:Pg)(i:Nat)(l:List AV)(m:Nat)(args:List AV)(S:aa):Option (AV×aa):=
 c6 args (am (Nat.beq m P.mn.pop) (ay l.getLast? (fun v=>br l.dropLast fun l=>fz S i (.list l) fun S=>some (v,S)) none) none) fun v r=>c6 r (lm1 P i l m v S) fun _ _=>none
noncomputable def dm2(P:Pg)(i:Nat)(l:List (Nat×AV))(m k:Nat)(d:AV)(S:aa):Option (AV×aa):=
 am (Nat.beq m P.mn.get) (ay (cx k l) (fun v=>some (v,S)) (some (d,S)))
 (am (Nat.beq m P.mn.setdefault) (ay (cx k l) (fun v=>some (v,S)) (am (Nat.blt l.length lim) (br (dI k d l) fun l=>fz S i (.dict l) fun S=>some (d,S)) none)) none)
noncomputable def oH(P:Pg)(i:Nat)(l:List (Nat×AV))(m:Nat)(args:List AV)(S:aa):Option (AV×aa):=
 c6 args none fun a r=>c6 r none fun d r=>c6 r (gY a (fun k=>dm2 P i l m k d S) none) fun _ _=>none
inductive Cal where
 | fn (f:Nat)
 | lst
 | dct
noncomputable def Dm(P:Pg)(c:Nat)(l:List (Nat×AV))(m:Nat):Option Cal:=ay (P.init c) (fun _=>ay (cx m l) (fun _=>none) (ay (P.meth c m) (fun f=>some (.fn f)) none)) none
noncomputable def jp(P:Pg)(o:AV)(m:Nat)(S:aa):Option Cal:=
 vZ o (fun c l=>Dm P c l m) (dH o (fun i=>gO S[i]? (fun c l=>Dm P c l m) (bQ S[i]? (fun _=>some .lst) (jm S[i]? (fun _=>some .dct) none))) none)
noncomputable def d8(P:Pg)(cf:CF)(c:Cal)(o:AV)(m:Nat)(args:List AV)(S:aa):Option (AV×aa):=
 Cal.casesOn c (fun f=>cf f (o::args) S) (dH o (fun i=>bQ S[i]? (fun l=>ly P i l m args S) none) none) (dH o (fun i=>jm S[i]? (fun l=>oH P i l m args S) none) none)
noncomputable def Dn(P:Pg)(c:Nat)(l:List (Nat×AV))(x:Nat)(S:aa):Option (AV×aa):=ay (P.init c) (fun _=>ay (cx x l) (fun v=>some (v,S)) none) none
noncomputable def tC(P:Pg)(a:AV)(x:Nat)(S:aa):Option (AV×aa):=vZ a (fun c l=>Dn P c l x S) (dH a (fun i=>gO S[i]? (fun c l=>Dn P c l x S) none) none)
noncomputable def wc(P:Pg)(cf:CF)(c:Nat)(args:List AV)(S:aa):Option (AV×aa):=
 ay (P.init c) (fun f=>bnd (gg (.inst c []) S) fun r S=>bnd (cf f (r::args) S) fun v S=>iN v (some (r,S)) none) none
noncomputable def rT(g:List AV→List AV)(v:AV)(S:aa):Option (AV×aa):=ay (bj v S) (fun l=>newList (g l) S) none
noncomputable def wd(v:AV)(S:aa):Option (AV×aa):=ay (bj v S) (fun l=>ay l.getLast? (fun x=>some (x,S)) none) none
noncomputable def Gl(emp:Nat)(v:AV)(S:aa):Option (AV×aa):=ay (bj v S) (fun l=>c6 l (some (.str emp,S)) fun _ _=>none) none
noncomputable def Gm(v u:AV)(S:aa):Option (Option Nat):=
 fy u (fun _=>fy v (fun l=>c6 l (some none) fun _ _=>none) (rL v (fun l=>c6 l (some none) fun _ _=>none) (dH v (fun i=>bQ S[i]? (fun l=>c6 l (some (some i)) fun _ _=>none) none) none))) none
noncomputable def d9(tg:List Nat):List IC→List Nat
 | []=>tg
 | .mk t _ _::r=>d9 (tg++t) r
noncomputable def g5(i:Nat)(v:AV)(S:aa):Option (Unit×aa):=bQ S[i]? (fun l=>am (Nat.blt l.length lim) (br (l++[v]) fun l=>fz S i (.list l) fun S=>some ((),S)) none) none
noncomputable def Gn(cf:CF)(f:Nat)(v:AV)(S:aa):Option (AV×aa):=ay (bj v S) (fun l=>c6 l none fun a r=>c6 r none fun b r=>c6 r (bnd (cf f [a] S) fun ka S=>bnd (cf f [b] S) fun kb S=>
 gY ka (fun x=>gY kb (fun y=>am (Nat.blt y x) (newList [b,a] S) (am (Nat.blt x y) (newList [a,b] S) none)) none) none) fun _ _=>none) none
mutual
noncomputable def evE(P:Pg)(cf:CF)(wf:Nat):IE→Loc→aa→Option (AV×aa)
 | .int i,_,S=>some (.int i,S)
 | .str c,_,S=>some (.str c,S)
 | .none,_,S=>some (.none,S)
 | .bool b,_,S=>some (.bool b,S)
 | .var x,loc,S=>ay (get? x loc) (fun v=>some (v,S)) none
 | .glob x,_,S=>ay (P.glob x) (fun v=>some (v,S)) none
 | .tup l,loc,S=>bnd (fK P cf wf l loc S) fun vs S=>some (.tup vs,S)
 | .list l,loc,S=>bnd (fK P cf wf l loc S) fun vs S=>newList vs S
 | .dict0,_,S=>gg (.dict []) S
 | .dict1 k e,loc,S=>bnd (evE P cf wf e loc S) fun v S=>gg (.dict [(k,v)]) S
 | .attr e x,loc,S=>bnd (evE P cf wf e loc S) fun v S=>tC P v x S
 | .sub e i,loc,S=>bnd (evE P cf wf e loc S) fun v S=>bnd (evE P cf wf i loc S) fun k S=>rS v k S
 | .last e,loc,S=>bnd (evE P cf wf e loc S) wd
 | .rev e,loc,S=>bnd (evE P cf wf e loc S) (rT List.reverse)
 | .revTail e,loc,S=>bnd (evE P cf wf e loc S) (rT fun l=>(l.drop 1).reverse)
 | .take e n,loc,S=>bnd (evE P cf wf e loc S) (rT (List.take n))
 | .drop e n,loc,S=>bnd (evE P cf wf e loc S) (rT (List.drop n))
 | .call f args,loc,S=>bnd (fK P cf wf args loc S) fun vs S=>cf f vs S
 | .new c args,loc,S=>bnd (fK P cf wf args loc S) fun vs S=>wc P cf c vs S
 | .meth o m args,loc,S=>bnd (evE P cf wf o loc S) fun v S=>ay (jp P v m S) (fun c=>bnd (fK P cf wf args loc S) fun vs S=>d8 P cf c v m vs S) none
 | .bi b args,loc,S=>bnd (fK P cf wf args loc S) fun vs S=>biV b vs S
 | .sortK e f,loc,S=>bnd (evE P cf wf e loc S) fun v S=>Gn cf f v S
 | .join _ e,loc,S=>bnd (evE P cf wf e loc S) (Gl P.emp)
 | .cmp op l r,loc,S=>bnd (evE P cf wf l loc S) fun a S=>bnd (evE P cf wf r loc S) fun b S=>iE P.eqt op a b S
 | .and l,loc,S=>tD P cf wf l loc S
 | .or l,loc,S=>zC P cf wf l loc S
 | .not _,_,_=>none
 | .bin op l r,loc,S=>bnd (evE P cf wf l loc S) fun a S=>bnd (evE P cf wf r loc S) fun b S=>pV P.emp op a b S
 | .ite t b o,loc,S=>bnd (evT P cf wf t loc S) fun c S=>am c (evE P cf wf b loc S) (evE P cf wf o loc S)
 | .comp elt cl,loc,S=>match cl with
  | []=>none
  | .mk tg it ifs::r=>bnd (evI P cf wf it loc S) fun src S=>bnd (newList [] S) fun a S=>dH a (fun i=>br (aU (d9 tg r) loc) fun loc=>bnd (loop (fun v (_:Unit) S=>ay (cy tg v loc) (fun loc'=>
     bnd (gQ P cf wf ifs loc' S) fun b S=>am b (evC P cf wf (fun loc S=>bnd (evE P cf wf elt loc S) fun v S=>g5 i v S) r loc' S) (some ((),S))) none) wf src () S) fun _ S=>some (.ref i,S)) none
 | .val _,_,_=>none
 | .bad,_,_=>none
noncomputable def fK(P:Pg)(cf:CF)(wf:Nat):List IE→Loc→aa→Option (List AV×aa)
 | [],_,S=>some ([],S)
 | e::r,loc,S=>bnd (evE P cf wf e loc S) fun v S=>bnd (fK P cf wf r loc S) fun vs S=>some (v::vs,S)
noncomputable def tD(P:Pg)(cf:CF)(wf:Nat):List IE→Loc→aa→Option (AV×aa)
 | [],_,_=>none
 | e::r,loc,S=>am r.isEmpty (evE P cf wf e loc S) (bnd (evE P cf wf e loc S) fun v S=>gN v (fun b=>am b (tD P cf wf r loc S) (some (.bool false,S))) none)
noncomputable def zC(P:Pg)(cf:CF)(wf:Nat):List IE→Loc→aa→Option (AV×aa)
 | [],_,_=>none
 | e::r,loc,S=>am r.isEmpty (evE P cf wf e loc S) (bnd (evE P cf wf e loc S) fun v S=>gN v (fun b=>am b (some (.bool true,S)) (zC P cf wf r loc S)) none)
noncomputable def evT(P:Pg)(cf:CF)(wf:Nat):IE→Loc→aa→Option (Bool×aa)
 | .not e,loc,S=>bnd (evT P cf wf e loc S) fun b S=>cR (!b) fun b=>some (b,S)
 | .and l,loc,S=>gQ P cf wf l loc S
 | .or l,loc,S=>Do P cf wf l loc S
 | .ite t b o,loc,S=>bnd (evT P cf wf t loc S) fun c S=>am c (evT P cf wf b loc S) (evT P cf wf o loc S)
 | .val e,loc,S=>bnd (evE P cf wf e loc S) fun v S=>gN v (fun b=>some (b,S)) none
 | _,_,_=>none
noncomputable def gQ(P:Pg)(cf:CF)(wf:Nat):List IE→Loc→aa→Option (Bool×aa)
 | [],_,S=>some (true,S)
 | e::r,loc,S=>bnd (evT P cf wf e loc S) fun b S=>am b (gQ P cf wf r loc S) (some (false,S))
noncomputable def Do(P:Pg)(cf:CF)(wf:Nat):List IE→Loc→aa→Option (Bool×aa)
 | [],_,S=>some (false,S)
 | e::r,loc,S=>bnd (evT P cf wf e loc S) fun b S=>am b (some (true,S)) (Do P cf wf r loc S)
noncomputable def evI(P:Pg)(cf:CF)(wf:Nat):It→Loc→aa→Option (Src×aa)
 | .of e,loc,S=>bnd (evE P cf wf e loc S) fun v S=>ay (tA S v) (fun s=>some (s,S)) none
 | .rng e,loc,S=>bnd (evE P cf wf e loc S) fun v S=>fs v (fun n=>am (decide (0≤n)&&decide (n < 1000000)) (br ((List.range n.toNat).map fun k=>.int (Int.ofNat k)) fun l=>some (.items l,S)) none) none
 | .zp a b,loc,S=>bnd (evE P cf wf a loc S) fun v S=>bnd (evE P cf wf b loc S) fun u S=>ay (Gm v u S) (fun o=>some (.zip o,S)) none
noncomputable def evC(P:Pg)(cf:CF)(wf:Nat)(emit:Loc→aa→Option (Unit×aa)):List IC→Loc→aa→Option (Unit×aa)
 | [],loc,S=>emit loc S
 | .mk tg it ifs::r,loc,S=>bnd (evI P cf wf it loc S) fun src S=>
   loop (fun v (_:Unit) S=>ay (cy tg v loc) (fun loc'=>bnd (gQ P cf wf ifs loc' S) fun b S=>am b (evC P cf wf emit r loc' S) (some ((),S))) none) wf src () S
end
noncomputable def Dp(P:Pg)(u v:AV)(x:Nat)(loc:Loc)(S:aa):Option (Fl×aa):=dH u (fun i=>gO S[i]? (fun c l=>am ((P.init c).isSome&&Nat.blt l.length lim) (br (dI x v l) fun l=>fz S i (.inst c l) fun S=>some (.next loc,S)) none) none) none
noncomputable def Go(u k v:AV)(loc:Loc)(S:aa):Option (Fl×aa):=dH u (fun i=>
 bQ S[i]? (fun l=>fs k (fun j=>am (decide (0≤j∧j.toNat < l.length)) (br (setAt l j.toNat v) fun l=>fz S i (.list l) fun S=>some (.next loc,S)) none) none)
 (jm S[i]? (fun l=>gY k (fun c=>am (Nat.blt l.length lim) (br (dI c v l) fun l=>fz S i (.dict l) fun S=>some (.next loc,S)) none) none) none)) none
mutual
noncomputable def evS(P:Pg)(cf:CF)(wf:Nat):IS→Loc→aa→Option (Fl×aa)
 | .assign t e,loc,S=>IT.casesOn t (fun x=>bnd (evE P cf wf e loc S) fun v S=>br (upd x v loc) fun loc=>some (.next loc,S))
  (fun o x=>bnd (evE P cf wf e loc S) fun v S=>bnd (evE P cf wf o loc S) fun u S=>Dp P u v x loc S)
  (fun o k=>bnd (evE P cf wf e loc S) fun v S=>bnd (evE P cf wf o loc S) fun u S=>bnd (evE P cf wf k loc S) fun k S=>Go u k v loc S)
  (fun xs=>bnd (evE P cf wf e loc S) fun v S=>ay (cy xs v loc) (fun loc'=>some (.next loc',S)) none)
 | .expr e,loc,S=>bnd (evE P cf wf e loc S) fun _ S=>some (.next loc,S)
 | .ret e,loc,S=>bnd (evE P cf wf e loc S) fun v S=>some (.ret v,S)
 | .ite t b o,loc,S=>bnd (evT P cf wf t loc S) fun c S=>am c (cC P cf wf b loc S) (cC P cf wf o loc S)
 | .while t b,loc,S=>rR (evT P cf wf t) (cC P cf wf b) wf loc S
 | .for tg it b,loc,S=>bnd (evI P cf wf it loc S) fun src S=>Dl (fun v loc S=>ay (cy tg v loc) (fun loc'=>cC P cf wf b loc' S) none) wf src loc S
 | .bad,_,_=>none
noncomputable def cC(P:Pg)(cf:CF)(wf:Nat):List IS→Loc→aa→Option (Fl×aa)
 | [],loc,S=>some (.next loc,S)
 | s::r,loc,S=>bnd (evS P cf wf s loc S) fun x S=>jo x (fun loc=>cC P cf wf r loc S) fun v=>some (.ret v,S)
end
noncomputable def Cv(P:Pg)(wf:Nat)(cf:CF)(F:Fn)(args:List AV)(S:aa):Option (AV×aa):=
 am (Nat.ble args.length F.ps.length&&Nat.ble F.ps.length (args.length + F.dflt.length)) (br (F.ps.zip (args++F.dflt.drop (F.dflt.length -(F.ps.length - args.length)))) fun loc=>
  bnd (cC P cf wf F.body loc S) fun x S=>jo x (fun _=>some (.none,S)) fun v=>some (v,S)) none
noncomputable def Cw(P:Pg)(wf:Nat)(cf:CF):CF:=fun f args S=>ay (P.fn f) (fun F=>Cv P wf cf F args S) none
noncomputable def dZ(P:Pg)(wf:Nat):Nat→CF
 | 0,_,_,_=>none
 | d + 1,f,args,S=>Cw P wf (dZ P wf d) f args S
end Mine
end
section
namespace Mine
noncomputable def f1:Fn:=⟨[201,219],[.tup []],
 [.ret (.tup [.str 201,.var 201,.bi .tuple [.var 219]])]⟩
noncomputable def f2:Fn:=⟨[173,229],[.none],
 [.ret (.tup [.str 269,.bi .tuple [.var 173],.var 229])]⟩
noncomputable def f3:Fn:=⟨[173],[],
 [.assign (.tup [178,136]) (.tup [.rev (.bi .list [.var 173]),.list []]),.while (.val (.cmp .ne (.var 178) (.list []))) [.assign (.name 150) (.meth (.var 178) 225 []),.ite (.val (.cmp .eq (.sub (.var 150) (.int 0)) (.str 277))) [.bad] [.ite (.and [.val (.cmp .ne (.var 150) (.glob 15)),.val (.cmp .notIn (.var 150) (.var 136))]) [.expr (.meth (.var 136) 102 [.var 150])] []]],.ite (.val (.cmp .inn (.glob 6) (.var 136))) [.ret (.glob 6)] [],.ite (.val (.cmp .eq (.var 136) (.list []))) [.bad] [],.ret (.ite (.val (.cmp .eq (.bi .len [.var 136]) (.int 1))) (.sub (.var 136) (.int 0)) (.tup [.str 277,.bi .tuple [.sortK (.var 136) 10]]))]⟩
noncomputable def f4:Fn:=⟨[171],[],
 [.assign (.name 293) (.sub (.var 171) (.int 0)),.ite (.val (.cmp .eq (.var 293) (.str 201))) [.ret (.bi .list [.sub (.var 171) (.int 2)])] [],.ite (.val (.cmp .eq (.var 293) (.str 269))) [.bad] [],.ite (.val (.cmp .eq (.var 293) (.str 277))) [.bad] [],.ite (.val (.cmp .eq (.var 293) (.str 100))) [.bad] [],.ret (.ite (.val (.cmp .eq (.var 293) (.str 274))) (.list [.sub (.var 171) (.int 1)]) (.list []))]⟩
noncomputable def f6:Fn:=⟨[171,262],[],
 [.ite (.val (.cmp .eq (.sub (.var 171) (.int 0)) (.str 281))) [.bad] [],.ite (.val (.cmp .eq (.sub (.var 171) (.int 0)) (.str 100))) [.bad,.bad,.bad,.bad] [],.assign (.name 221) (.call 4 [.var 171]),.ret (.ite (.val (.cmp .eq (.var 221) (.list []))) (.var 171) (.call 5 [.var 171,.comp (.call 6 [.var 220,.var 262]) [.mk [220] (.of (.var 221)) []]]))]⟩
noncomputable def f7:Fn:=⟨[171],[],
 [.assign (.tup [136,178]) (.tup [.list [],.list [.tup [.var 171,.tup []]]]),.while (.val (.cmp .ne (.var 178) (.list []))) [.assign (.tup [150,113]) (.meth (.var 178) 225 []),.ite (.val (.cmp .eq (.sub (.var 150) (.int 0)) (.str 281))) [.ite (.and [.val (.cmp .notIn (.sub (.var 150) (.int 1)) (.var 113)),.val (.cmp .notIn (.sub (.var 150) (.int 1)) (.var 136))]) [.expr (.meth (.var 136) 102 [.sub (.var 150) (.int 1)])] []] [.ite (.val (.cmp .eq (.sub (.var 150) (.int 0)) (.str 100))) [.bad,.bad] [.expr (.meth (.var 178) 130 [.comp (.tup [.var 220,.var 113]) [.mk [220] (.of (.rev (.call 4 [.var 150]))) []]])]]],.ret (.var 136)]⟩
noncomputable def f8:Fn:=⟨[171],[],
 [.assign (.name 136) (.list []),.while (.val (.cmp .eq (.sub (.var 171) (.int 0)) (.str 100))) [.bad,.bad],.ret (.tup [.var 136,.var 171])]⟩
noncomputable def f10:Fn:=⟨[171],[],
 [.assign (.name 293) (.sub (.var 171) (.int 0)),.ite (.val (.cmp .eq (.var 293) (.str 201))) [.assign (.name 154) (.join 4 (.comp (.call 10 [.var 218]) [.mk [218] (.of (.sub (.var 171) (.int 2))) []])),.ret (.bin .add (.sub (.var 171) (.int 1)) (.ite (.val (.cmp .ne (.sub (.var 171) (.int 2)) (.tup []))) (.bin .add (.bin .add (.str 298) (.var 154)) (.str 299)) (.str 0)))] [],.bad,.bad,.bad,.bad,.bad,.bad,.bad]⟩
noncomputable def f16:Fn:=⟨[238,231,186],[.none,.int 0],
 [.assign (.attr (.var 238) 231) (.ite (.val (.cmp .isNone (.var 231) (.none))) (.dict0) (.var 231)),.assign (.attr (.var 238) 186) (.var 186)]⟩
noncomputable def f17:Fn:=⟨[238],[],
 [.ret (.new 1 [.bi .dict [.attr (.var 238) 231],.attr (.var 238) 186])]⟩
noncomputable def f20:Fn:=⟨[238,171],[],
 [.ret (.and [.cmp .eq (.sub (.var 171) (.int 0)) (.str 281),.bad])]⟩
noncomputable def f27:Fn:=⟨[171],[],
 [.assign (.name 293) (.sub (.var 171) (.int 0)),.ite (.val (.cmp .eq (.var 293) (.str 277))) [.assign (.name 136) (.comp (.var 119) [.mk [220] (.of (.sub (.var 171) (.int 1))) [],.mk [119] (.of (.call 27 [.var 220])) []])] [.ite (.and [.val (.cmp .eq (.var 293) (.str 100)),.not (.val (.call 26 [.sub (.var 171) (.int 4),.sub (.var 171) (.int 1)]))]) [.bad] [.ite (.val (.cmp .eq (.var 293) (.str 269))) [.assign (.name 136) (.call 28 [.var 171])] [.assign (.name 136) (.list [.var 171])]]],.ret (.ite (.val (.cmp .le (.bi .len [.var 136]) (.glob 37))) (.var 136) (.list [.var 171]))]⟩
noncomputable def f28:Fn:=⟨[171],[],
 [.assign (.name 231) (.list [.tup []]),.for [220] (.of (.sub (.var 171) (.int 1))) [.assign (.name 120) (.call 27 [.var 220]),.ite (.val (.cmp .gt (.bin .mul (.bi .len [.var 231]) (.bi .len [.var 120])) (.glob 37))) [.bad] [],.assign (.name 231) (.comp (.bin .add (.var 230) (.tup [.var 119])) [.mk [230] (.of (.var 231)) [],.mk [119] (.of (.var 120)) []])],.ret (.comp (.call 2 [.var 230,.sub (.var 171) (.int 2)]) [.mk [230] (.of (.var 231)) []])]⟩
noncomputable def f29:Fn:=⟨[171],[],
 [.ite (.val (.cmp .eq (.sub (.var 171) (.int 0)) (.str 269))) [.ret (.cmp .inn (.bool true) (.comp (.call 29 [.var 220]) [.mk [220] (.of (.sub (.var 171) (.int 1))) []]))] [],.ite (.val (.cmp .eq (.sub (.var 171) (.int 0)) (.str 100))) [.bad] [],.ret (.cmp .eq (.var 171) (.glob 15))]⟩
noncomputable def f30:Fn:=⟨[171],[],
 [.ret (.ite (.and [.val (.cmp .isNotNone (.sub (.var 171) (.int 2)) (.none)),.val (.call 29 [.sub (.var 171) (.int 2)])]) (.none) (.sub (.var 171) (.int 2)))]⟩
noncomputable def f31:Fn:=⟨[238,173,139],[],
 [.assign (.attr (.var 238) 173) (.var 173),.assign (.attr (.var 238) 139) (.var 139)]⟩
noncomputable def f32:Fn:=⟨[238,145,242],[],
 [.assign (.name 284) (.list [.tup [.bi .list [.var 145],.var 242]]),.while (.and [.val (.cmp .ne (.var 284) (.list [])),.val (.cmp .gt (.attr (.var 238) 139) (.int 0))]) [.assign (.tup [178,150]) (.meth (.var 284) 225 []),.assign (.name 136) (.meth (.var 238) 240 [.var 178,.var 150,.var 284]),.ite (.val (.cmp .isNotNone (.var 136) (.none))) [.ret (.var 136)] []],.ret (.none)]⟩
noncomputable def f33:Fn:=⟨[238,178,242,284],[],
 [.while (.val (.cmp .ne (.var 178) (.list []))) [.assign (.attr (.var 238) 139) (.bin .sub (.attr (.var 238) 139) (.int 1)),.assign (.name 287) (.ite (.val (.cmp .ge (.attr (.var 238) 139) (.int 0))) (.meth (.var 238) 253 [.meth (.var 178) 225 [],.var 242]) (.list [])),.ite (.val (.cmp .eq (.var 287) (.list []))) [.ret (.none)] [],.for [286] (.of (.revTail (.var 287))) [.expr (.meth (.var 284) 102 [.tup [.bin .add (.var 178) (.var 286),.meth (.var 242) 122 []]])],.expr (.meth (.var 178) 130 [.sub (.var 287) (.int 0)])],.ret (.ite (.val (.meth (.var 238) 104 [.var 242])) (.var 242) (.none))]⟩
noncomputable def f34:Fn:=⟨[238,144,242],[],
 [.assign (.tup [293,212,215]) (.var 144),.ite (.val (.cmp .eq (.var 212) (.var 215))) [.ret (.list [.list []])] [],.ite (.val (.cmp .inn (.str 200) (.tup [.sub (.var 212) (.int 0),.sub (.var 215) (.int 0)]))) [.bad] [],.ite (.val (.cmp .eq (.var 293) (.str 233))) [.bad] [],.ite (.or [.val (.call 29 [.var 212]),.val (.cmp .eq (.var 215) (.glob 6))]) [.ret (.list [.list []])] [],.ite (.val (.meth (.var 242) 156 [.var 212])) [.bad] [],.ite (.val (.meth (.var 242) 156 [.var 215])) [.bad] [],.ret (.meth (.var 238) 116 [.var 212,.var 215,.var 242])]⟩
noncomputable def f38:Fn:=⟨[238,212,215,242],[],
 [.ite (.val (.cmp .eq (.sub (.var 212) (.int 0)) (.str 277))) [.bad] [],.ite (.val (.cmp .eq (.sub (.var 212) (.int 0)) (.str 100))) [.bad] [],.ite (.val (.cmp .eq (.sub (.var 215) (.int 0)) (.str 277))) [.assign (.name 287) (.comp (.list [.tup [.str 256,.var 212,.var 220]]) [.mk [220] (.of (.sub (.var 215) (.int 1))) []]),.ret (.bin .add (.var 287) (.ite (.val (.cmp .eq (.sub (.var 212) (.int 0)) (.str 281))) (.list [.list [.tup [.str 256,.meth (.meth (.var 242) 241 [.sub (.var 212) (.int 1)]) 279 [],.var 215]]]) (.list [])))] [],.ite (.val (.cmp .eq (.sub (.var 215) (.int 0)) (.str 100))) [.bad] [],.ite (.val (.cmp .eq (.sub (.var 212) (.int 0)) (.str 281))) [.bad,.bad,.bad] [],.ite (.val (.cmp .eq (.sub (.var 215) (.int 0)) (.str 281))) [.bad,.bad] [],.ret (.meth (.var 238) 224 [.var 212,.var 215])]⟩
noncomputable def f40:Fn:=⟨[238,212,215],[],
 [.assign (.name 294) (.tup [.sub (.var 212) (.int 0),.sub (.var 215) (.int 0)]),.ite (.val (.cmp .eq (.var 294) (.tup [.str 201,.str 201]))) [.ret (.meth (.var 238) 207 [.var 212,.var 215])] [],.ite (.val (.cmp .eq (.var 294) (.tup [.str 269,.str 269]))) [.ret (.call 47 [.var 212,.var 215])] [],.bad,.bad,.bad]⟩
noncomputable def f41:Fn:=⟨[238,212,215],[],
 [.for [95] (.of (.meth (.attr (.var 238) 173) 261 [.var 212])) [.ite (.val (.cmp .eq (.sub (.var 95) (.int 1)) (.sub (.var 215) (.int 1)))) [.ret (.list [.comp (.tup [.str 233,.var 218,.var 285]) [.mk [218,285] (.zp (.sub (.var 95) (.int 2)) (.sub (.var 215) (.int 2))) []]])] []],.ret (.list [])]⟩
noncomputable def f42:Fn:=⟨[238,242],[],
 [.for [201] (.of (.bi .sorted [.attr (.var 242) 231])) [.bad,.bad],.ret (.bool true)]⟩
noncomputable def f47:Fn:=⟨[212,215],[],
 [.assign (.tup [244,264]) (.tup [.sub (.var 212) (.int 1),.call 30 [.var 212]]),.assign (.tup [285,229]) (.tup [.sub (.var 215) (.int 1),.call 30 [.var 215]]),.ite (.or [.val (.cmp .lt (.bi .len [.var 244]) (.bi .len [.var 285])),.and [.val (.cmp .isNone (.var 229) (.none)),.or [.val (.cmp .isNotNone (.var 264) (.none)),.val (.cmp .gt (.bi .len [.var 244]) (.bi .len [.var 285]))]]]) [.ret (.list [])] [],.assign (.name 145) (.comp (.tup [.str 256,.sub (.var 244) (.var 106),.ite (.val (.cmp .lt (.var 106) (.bi .len [.var 285]))) (.sub (.var 285) (.var 106)) (.var 229)]) [.mk [106] (.rng (.bi .len [.var 244])) []]),.ret (.list [.bin .add (.var 145) (.ite (.val (.cmp .isNone (.var 264) (.none))) (.list []) (.list [.tup [.str 256,.var 264,.var 229]]))])]⟩
noncomputable def f48:Fn:=⟨[173,212,215,139],[.int 4000],
 [.ite (.val (.cmp .eq (.var 212) (.var 215))) [.ret (.bool true)] [],.for [119] (.of (.call 27 [.var 212])) [.assign (.name 236) (.new 2 [.var 173,.var 139]),.ite (.val (.cmp .isNone (.meth (.var 236) 232 [.list [.tup [.str 256,.var 119,.var 215]],.new 1 []]) (.none))) [.ret (.bool false)] []],.ret (.bool true)]⟩
noncomputable def f49:Fn:=⟨[173,212,215],[],
 [.ret (.or [.cmp .eq (.var 212) (.var 215),.and [.call 48 [.var 173,.var 212,.var 215],.call 48 [.var 173,.var 215,.var 212]]])]⟩
noncomputable def f50:Fn:=⟨[173,212,243,139],[.int 4000],
 [.assign (.tup [242,203,111]) (.tup [.new 1 [],.list [],.var 243]),.assign (.name 145) (.list []),.while (.val (.cmp .eq (.sub (.var 111) (.int 0)) (.str 100))) [.bad,.bad,.bad,.bad,.bad],.assign (.name 136) (.meth (.new 2 [.var 173,.var 139]) 232 [.bin .add (.var 145) (.list [.tup [.str 256,.var 212,.var 111]]),.var 242]),.ite (.val (.cmp .isNone (.var 136) (.none))) [.ret (.none)] [],.assign (.name 262) (.dict0),.for [201,138] (.of (.var 203)) [.bad,.bad],.ret (.var 262)]⟩
noncomputable def f52:Fn:=⟨[243],[],
 [.ret (.bi .len [.sub (.call 8 [.var 243]) (.int 0)])]⟩
noncomputable def f53:Fn:=⟨[173,212,215],[],
 [.ite (.not (.val (.call 48 [.var 173,.var 212,.var 215]))) [.ret (.bool false)] [],.ite (.not (.val (.call 48 [.var 173,.var 215,.var 212]))) [.ret (.bool true)] [],.ret (.cmp .lt (.call 52 [.var 212]) (.call 52 [.var 215]))]⟩
noncomputable def f54:Fn:=⟨[238,243,140,143,283],[],
 [.assign (.attr (.var 238) 243) (.var 243),.assign (.attr (.var 238) 140) (.var 140),.assign (.attr (.var 238) 143) (.var 143),.assign (.attr (.var 238) 283) (.var 283),.assign (.attr (.var 238) 107) (.int 0),.assign (.attr (.var 238) 129) (.none)]⟩
noncomputable def f55:Fn:=⟨[238,295],[],
 [.ret (.and [.cmp .le (.attr (.var 238) 107) (.var 295),.or [.cmp .isNone (.attr (.var 238) 129) (.none),.cmp .lt (.var 295) (.attr (.var 238) 129)]])]⟩
noncomputable def f56:Fn:=⟨[238,173],[],
 [.assign (.attr (.var 238) 173) (.var 173),.assign (.attr (.var 238) 231) (.dict0),.assign (.attr (.var 238) 295) (.int 1)]⟩
noncomputable def f57:Fn:=⟨[238,201,230],[],
 [.assign (.attr (.var 238) 295) (.bin .add (.attr (.var 238) 295) (.int 1)),.assign (.attr (.var 230) 107) (.attr (.var 238) 295),.for [128] (.of (.meth (.attr (.var 238) 231) 239 [.var 201,.list []])) [.ite (.and [.val (.cmp .isNone (.attr (.var 128) 129) (.none)),.val (.call 49 [.attr (.var 238) 173,.attr (.var 128) 243,.attr (.var 230) 243])]) [.assign (.attr (.var 128) 129) (.attr (.var 238) 295)] []],.expr (.meth (.sub (.attr (.var 238) 231) (.var 201)) 102 [.var 230])]⟩
noncomputable def f58:Fn:=⟨[238,201,295],[],
 [.ret (.comp (.var 230) [.mk [230] (.of (.meth (.attr (.var 238) 231) 142 [.var 201,.list []])) [.val (.meth (.var 230) 161 [.var 295])]])]⟩
noncomputable def f59:Fn:=⟨[238,201,171,295],[],
 [.assign (.name 136) (.list []),.for [230] (.of (.meth (.var 238) 182 [.var 201,.var 295])) [.assign (.name 267) (.call 50 [.attr (.var 238) 173,.var 171,.attr (.var 230) 243]),.ite (.val (.cmp .isNotNone (.var 267) (.none))) [.expr (.meth (.var 136) 102 [.tup [.var 230,.var 267]])] []],.ret (.var 136)]⟩
noncomputable def f60:Fn:=⟨[238,201,171,295],[],
 [.assign (.name 136) (.meth (.var 238) 134 [.var 201,.var 171,.var 295]),.for [230,267] (.of (.var 136)) [.assign (.name 216) (.comp (.var 215) [.mk [215,198] (.of (.var 136)) [.val (.cmp .isNot (.var 215) (.var 230))]]),.ite (.val (.cmp .eq (.comp (.var 215) [.mk [215] (.of (.var 216)) [.not (.val (.call 53 [.attr (.var 238) 173,.attr (.var 230) 243,.attr (.var 215) 243]))]]) (.list []))) [.ret (.tup [.var 230,.var 267])] []],.ret (.var 136)]⟩
noncomputable def f62:Fn:=⟨[238,201,219,95,155,163,133],[.bool false,.tup []],
 [.assign (.attr (.var 238) 201) (.var 201),.assign (.attr (.var 238) 219) (.bi .list [.var 219]),.assign (.attr (.var 238) 259) (.var 95),.assign (.attr (.var 238) 155) (.var 155),.assign (.attr (.var 238) 163) (.var 163),.assign (.attr (.var 238) 133) (.bi .list [.var 133])]⟩
noncomputable def f63:Fn:=⟨[238,219],[],
 [.ret (.bi .dict [.comp (.tup [.sub (.var 230) (.int 0),.var 218]) [.mk [230,218] (.zp (.attr (.var 238) 219) (.var 219)) []]])]⟩
noncomputable def f66:Fn:=⟨[238],[],
 [.assign (.attr (.var 238) 125) (.dict1 12 (.new 7 [.str 12,.list [],.none,.bool true]))]⟩
noncomputable def f67:Fn:=⟨[238,123],[],
 [.ite (.val (.cmp .inn (.attr (.var 123) 201) (.attr (.var 238) 125))) [.bad] [],.assign (.name 95) (.attr (.var 123) 259),.ite (.or [.val (.cmp .ne (.sub (.var 95) (.int 0)) (.str 201)),.val (.cmp .notIn (.sub (.var 95) (.int 1)) (.attr (.var 238) 125)),.not (.val (.attr (.sub (.attr (.var 238) 125) (.sub (.var 95) (.int 1))) 155))]) [.bad] [],.ite (.or [.val (.cmp .eq (.var 95) (.glob 62)),.val (.cmp .ne (.bi .len [.sub (.var 95) (.int 2)]) (.bi .len [.attr (.sub (.attr (.var 238) 125) (.sub (.var 95) (.int 1))) 219]))]) [.bad] [],.assign (.name 217) (.comp (.sub (.var 230) (.int 0)) [.mk [230] (.of (.attr (.var 123) 219)) []]),.assign (.name 290) (.comp (.var 201) [.mk [201] (.of (.call 7 [.var 95])) [.val (.cmp .notIn (.var 201) (.var 217))]]),.for [201,171] (.of (.attr (.var 123) 133)) [.assign (.name 290) (.bin .add (.var 290) (.comp (.var 212) [.mk [212] (.of (.call 7 [.var 171])) [.val (.cmp .notIn (.var 212) (.var 217))]]))],.ite (.or [.val (.cmp .ne (.var 290) (.list [])),.val (.cmp .ne (.bi .len [.bi .dict [.attr (.var 123) 133]]) (.bi .len [.attr (.var 123) 133]))]) [.bad] [],.assign (.sub (.attr (.var 238) 125) (.attr (.var 123) 201)) (.var 123)]⟩
noncomputable def f69:Fn:=⟨[238,201],[],
 [.ite (.val (.cmp .notIn (.var 201) (.attr (.var 238) 125))) [.bad] [],.ret (.sub (.attr (.var 238) 125) (.var 201))]⟩
noncomputable def f70:Fn:=⟨[238,171],[],
 [.ite (.val (.cmp .eq (.sub (.var 171) (.int 0)) (.str 274))) [.bad] [],.ite (.val (.cmp .eq (.sub (.var 171) (.int 0)) (.str 135))) [.bad] [],.ite (.or [.val (.cmp .ne (.sub (.var 171) (.int 0)) (.str 201)),.val (.cmp .eq (.var 171) (.glob 6))]) [.bad] [],.assign (.name 123) (.meth (.var 238) 123 [.sub (.var 171) (.int 1)]),.ret (.call 6 [.attr (.var 123) 259,.meth (.var 123) 263 [.sub (.var 171) (.int 2)]])]⟩
noncomputable def f71:Fn:=⟨[238,171],[],
 [.assign (.name 136) (.list [.var 171]),.while (.val (.cmp .ne (.last (.var 136)) (.glob 6))) [.expr (.meth (.var 136) 102 [.meth (.var 238) 260 [.last (.var 136)]])],.ret (.var 136)]⟩
noncomputable def f77:Fn:=⟨[173,201,95,155],[.bool false],
 [.expr (.meth (.var 173) 124 [.new 7 [.var 201,.list [],.var 95,.var 155]])]⟩
noncomputable def f78:Fn:=⟨[],[],
 [.assign (.name 173) (.new 8 []),.for [201] (.of (.tup [.str 64,.str 28,.str 41,.str 8,.str 10,.str 25])) [.expr (.call 77 [.var 173,.var 201,.glob 6,.bool true])],.expr (.call 77 [.var 173,.str 47,.call 1 [.str 41],.bool true]),.expr (.call 77 [.var 173,.str 34,.call 1 [.str 47],.bool true]),.expr (.call 77 [.var 173,.str 54,.call 1 [.str 34],.bool true]),.expr (.call 77 [.var 173,.str 76,.call 1 [.str 34],.bool true]),.for [201] (.of (.glob 50)) [.expr (.call 77 [.var 173,.var 201,.call 1 [.str 54]])],.for [201] (.of (.glob 71)) [.expr (.call 77 [.var 173,.var 201,.call 1 [.str 76]])],.for [201,95] (.of (.tup [.tup [.str 17,.str 34],.tup [.str 20,.str 8],.tup [.str 57,.str 10]])) [.expr (.call 77 [.var 173,.var 201,.call 1 [.var 95]])],.expr (.call 77 [.var 173,.str 59,.glob 6]),.expr (.call 77 [.var 173,.str 40,.glob 6]),.expr (.meth (.var 173) 124 [.new 7 [.str 26,.list [],.glob 6,.bool false,.bool true,.list [.tup [.str 148,.call 1 [.str 59]],.tup [.str 105,.glob 6]]]]),.expr (.call 79 [.var 173]),.expr (.call 80 [.var 173]),.ret (.var 173)]⟩
noncomputable def f79:Fn:=⟨[173],[],
 [.assign (.name 95) (.call 1 [.str 25]),.for [201] (.of (.glob 43)) [.expr (.call 77 [.var 173,.var 201,.var 95])],.for [201] (.of (.glob 61)) [.expr (.meth (.var 173) 124 [.new 7 [.var 201,.list [],.var 95,.bool false,.bool false,.list [.tup [.str 199,.glob 6]]]])],.for [201] (.of (.glob 19)) [.expr (.meth (.var 173) 124 [.new 7 [.var 201,.list [],.var 95,.bool false,.bool false,.list [.tup [.str 131,.glob 6],.tup [.str 105,.glob 6]]]])],.expr (.meth (.var 173) 124 [.new 7 [.str 72,.list [],.var 95,.bool false,.bool false,.list [.tup [.str 281,.glob 6]]]]),.expr (.meth (.var 173) 124 [.new 7 [.str 18,.list [],.var 95,.bool false,.bool false,.list [.tup [.str 92,.glob 6],.tup [.str 151,.glob 6]]]])]⟩
noncomputable def f80:Fn:=⟨[173],[],
 [.assign (.name 101) (.list [.tup [.str 60,.glob 15,.glob 6],.tup [.str 39,.glob 15,.glob 6]]),.assign (.tup [168,227]) (.tup [.tup [.str 281,.str 60],.tup [.str 281,.str 39]]),.expr (.meth (.var 173) 124 [.new 7 [.str 7,.var 101,.glob 6,.bool true]]),.for [201] (.of (.tup [.str 14,.str 58])) [.expr (.meth (.var 173) 124 [.new 7 [.var 201,.var 101,.call 1 [.str 7,.tup [.var 168,.var 227]],.bool false,.bool true]])],.assign (.name 212) (.list [.tup [.str 60,.glob 15,.glob 6]]),.expr (.meth (.var 173) 124 [.new 7 [.str 9,.var 212,.call 1 [.str 7,.tup [.var 168,.tup [.str 200,.int 1]]],.bool true]]),.assign (.name 95) (.call 1 [.str 9,.tup [.var 168]]),.expr (.meth (.var 173) 124 [.new 7 [.str 75,.var 212,.var 95,.bool false,.bool false,.list [.tup [.str 249,.var 168],.tup [.str 254,.var 168]]]]),.expr (.meth (.var 173) 124 [.new 7 [.str 56,.var 212,.var 95,.bool false,.bool false,.list [.tup [.str 249,.var 168],.tup [.str 253,.var 168],.tup [.str 254,.var 168]]]]),.expr (.meth (.var 173) 124 [.new 7 [.str 48,.var 212,.glob 6,.bool false,.bool true,.list [.tup [.str 296,.var 168]]]]),.assign (.name 288) (.list [.tup [.str 60,.glob 15,.call 1 [.str 34]]]),.expr (.meth (.var 173) 124 [.new 7 [.str 46,.var 288,.call 1 [.str 47],.bool false,.bool false,.list [.tup [.str 208,.var 168],.tup [.str 126,.var 168]]]])]⟩
noncomputable def f81:Fn:=⟨[235,170],[],
 [.assign (.name 209) (.ite (.val (.cmp .lt (.var 170) (.bi .len [.var 235]))) (.bi .abs [.sub (.var 235) (.var 170)]) (.int 0)),.ret (.list [.var 209,.bin .mod (.bin .mul (.bin .add (.bin .add (.bin .mod (.var 209) (.int 1000303)) (.bin .mul (.int 41) (.var 170))) (.int 9)) (.int 887)) (.int 1999771)])]⟩
noncomputable def f82:Fn:=⟨[237,186],[],
 [.assign (.sub (.var 237) (.int 1)) (.bin .mod (.bin .add (.bin .mul (.sub (.var 237) (.int 1)) (.int 6449)) (.int 733)) (.int 1999771)),.assign (.name 146) (.bin .mod (.bin .add (.sub (.var 237) (.int 0)) (.bin .fdiv (.sub (.var 237) (.int 1)) (.int 23))) (.var 186)),.assign (.sub (.var 237) (.int 0)) (.bin .fdiv (.sub (.var 237) (.int 0)) (.var 186)),.ret (.var 146)]⟩
noncomputable def f83:Fn:=⟨[201],[],
 [.ret (.tup [.str 201,.var 201,.tup []])]⟩
noncomputable def f84:Fn:=⟨[237],[],
 [.assign (.name 203) (.bi .sorted [.glob 80]),.assign (.name 244) (.list [.sub (.var 203) (.call 82 [.var 237,.bi .len [.var 203]])]),.ite (.val (.cmp .eq (.call 82 [.var 237,.int 4]) (.int 0))) [.expr (.meth (.var 244) 102 [.sub (.var 203) (.call 82 [.var 237,.bi .len [.var 203]])])] [],.ret (.var 244)]⟩
noncomputable def f85:Fn:=⟨[212,215],[],
 [.ret (.cmp .eq (.comp (.var 201) [.mk [201] (.of (.var 212)) [.val (.cmp .eq (.comp (.var 95) [.mk [95] (.of (.sub (.glob 80) (.var 201))) [.val (.cmp .inn (.var 95) (.var 215))]]) (.list []))]]) (.list []))]⟩
noncomputable def f86:Fn:=⟨[212,215],[],
 [.ite (.val (.cmp .ne (.bi .len [.var 212]) (.bi .len [.var 215]))) [.ret (.bool false)] [],.ret (.cmp .eq (.comp (.var 106) [.mk [106] (.rng (.bi .len [.var 212])) [.not (.val (.call 85 [.sub (.var 212) (.var 106),.sub (.var 215) (.var 106)]))]]) (.list []))]⟩
noncomputable def f87:Fn:=⟨[221],[],
 [.assign (.name 173) (.comp (.call 3 [.comp (.call 83 [.var 201]) [.mk [201] (.of (.var 220)) []]]) [.mk [220] (.of (.var 221)) []]),.ret (.tup [.str 269,.bi .tuple [.bin .add (.list [.tup [.str 135,.str 131]]) (.var 173)],.none])]⟩
noncomputable def f88:Fn:=⟨[246,106,295],[],
 [.ret (.and [.cmp .le (.sub (.sub (.var 246) (.var 106)) (.int 0)) (.var 295),.or [.cmp .isNone (.sub (.sub (.var 246) (.var 106)) (.int 1)) (.none),.cmp .lt (.var 295) (.sub (.sub (.var 246) (.var 106)) (.int 1))]])]⟩
noncomputable def f89:Fn:=⟨[231,246,117,295],[],
 [.assign (.name 183) (.comp (.var 106) [.mk [106] (.rng (.bi .len [.var 231])) [.and [.val (.call 88 [.var 246,.var 106,.var 295]),.val (.call 86 [.var 117,.sub (.var 231) (.var 106)])]]]),.for [106] (.of (.var 183)) [.assign (.name 229) (.comp (.var 248) [.mk [248] (.of (.var 183)) [.val (.cmp .ne (.var 248) (.var 106))]]),.assign (.name 215) (.comp (.var 248) [.mk [248] (.of (.var 229)) [.not (.val (.call 86 [.sub (.var 231) (.var 106),.sub (.var 231) (.var 248)]))]]),.ite (.val (.cmp .eq (.bin .add (.var 215) (.comp (.var 248) [.mk [248] (.of (.var 229)) [.val (.call 86 [.sub (.var 231) (.var 248),.sub (.var 231) (.var 106)])]])) (.list []))) [.ret (.var 106)] []],.ret (.var 183)]⟩
noncomputable def f90:Fn:=⟨[262,149,117,295],[],
 [.assign (.name 171) (.call 87 [.var 117]),.assign (.name 136) (.meth (.var 262) 223 [.str 131,.var 171,.var 295]),.ite (.val (.bi .isTuple [.var 136])) [.ret (.ite (.val (.cmp .eq (.sub (.var 136) (.int 1)) (.dict0))) (.meth (.var 149) 152 [.sub (.var 136) (.int 0)]) (.none))] [],.ret (.comp (.meth (.var 149) 152 [.var 230]) [.mk [230,267] (.of (.var 136)) []])]⟩
noncomputable def f91:Fn:=⟨[235],[],
 [.assign (.name 173) (.call 78 []),.for [170] (.rng (.bi .max [.int 1,.bi .min [.bi .len [.var 235],.int 2]])) [.assign (.name 237) (.call 81 [.var 235,.var 170]),.assign (.tup [231,246,149,262]) (.tup [.list [],.list [],.list [],.new 4 [.var 173]]),.for [273] (.rng (.call 82 [.var 237,.int 5])) [.assign (.name 221) (.comp (.call 84 [.var 237]) [.mk [248] (.rng (.bin .add (.int 1) (.call 82 [.var 237,.int 2]))) []]),.ite (.and [.val (.cmp .ne (.var 231) (.list [])),.val (.cmp .eq (.call 82 [.var 237,.int 5]) (.int 0))]) [.assign (.name 221) (.sub (.var 231) (.call 82 [.var 237,.bi .len [.var 231]]))] [],.assign (.name 295) (.bin .add (.attr (.var 262) 295) (.int 1)),.for [106] (.rng (.bi .len [.var 231])) [.ite (.and [.val (.cmp .isNone (.sub (.sub (.var 246) (.var 106)) (.int 1)) (.none)),.val (.call 86 [.sub (.var 231) (.var 106),.var 221]),.val (.call 86 [.var 221,.sub (.var 231) (.var 106)])]) [.assign (.sub (.sub (.var 246) (.var 106)) (.int 1)) (.var 295)] []],.expr (.meth (.var 231) 102 [.var 221]),.expr (.meth (.var 246) 102 [.list [.var 295,.none]]),.expr (.meth (.var 149) 102 [.new 3 [.call 87 [.var 221],.none,.bi .len [.var 221],.list []]]),.expr (.meth (.var 262) 97 [.str 131,.last (.var 149)])],.assign (.name 203) (.list [.list [.str 32],.list [.str 17],.list [.str 57]]),.assign (.name 118) (.bin .add (.comp (.list [.var 212]) [.mk [212] (.of (.var 203)) []]) (.comp (.list [.var 212,.var 215]) [.mk [212] (.of (.take (.var 203) 2)) [],.mk [215] (.of (.drop (.var 203) 1)) []])),.for [295] (.of (.list [.bin .fdiv (.bin .add (.int 1) (.attr (.var 262) 295)) (.int 2),.attr (.var 262) 295])) [.for [117] (.of (.var 118)) [.ite (.val (.cmp .ne (.call 90 [.var 262,.var 149,.var 117,.var 295]) (.call 89 [.var 231,.var 246,.var 117,.var 295]))) [.bad] []]],.ite (.val (.cmp .ne (.meth (.var 262) 223 [.str 141,.call 87 [.list [.list [.str 17]]],.attr (.var 262) 295]) (.list []))) [.bad] []],.ret (.bool true)]⟩
noncomputable def fM{α:Type}(x:Nat):List (Nat×α)→Option α
 | []=>none
 | p::r=>am (Nat.beq x p.1) (some p.2) (fM x r)
noncomputable def fnT:List (Nat×Fn):=[(1,f1),(2,f2),(3,f3),(4,f4),(6,f6),(7,f7),(8,f8),(10,f10),(16,f16),(17,f17),(20,f20),(27,f27),(28,f28),(29,f29),(30,f30),(31,f31),(32,f32),(33,f33),(34,f34),(38,f38),(40,f40),(41,f41),(42,f42),(47,f47),(48,f48),(49,f49),(50,f50),(52,f52),(53,f53),(54,f54),(55,f55),(56,f56),(57,f57),(58,f58),(59,f59),(60,f60),(62,f62),(63,f63),(66,f66),(67,f67),(69,f69),(70,f70),(71,f71),(77,f77),(78,f78),(79,f79),(80,f80),(81,f81),(82,f82),(83,f83),(84,f84),(85,f85),(86,f86),(87,f87),(88,f88),(89,f89),(90,f90),(91,f91)]
noncomputable def nh:List (Nat×Nat):=[(1,16),(2,31),(3,54),(4,56),(7,62),(8,66)]
noncomputable def we:List (Nat×List (Nat×Nat)):=[(1,[(78,16),(122,17),(156,20)]),(2,[(78,31),(232,32),(240,33),(253,34),(116,38),(224,40),(207,41),(104,42)]),(3,[(78,54),(161,55)]),(4,[(78,56),(97,57),(182,58),(134,59),(223,60)]),(7,[(78,62),(263,63)]),(8,[(78,66),(124,67),(123,69),(260,70),(261,71)])]
noncomputable def pW:List (Nat×AV):=[(6,.tup [.str 201,.str 12,.tup []]),
 (15,.tup [.str 112]),
 (37,.int 64),
 (62,.tup [.str 201,.str 64,.tup []]),
 (27,.tup [.str 201,.str 28,.tup []]),
 (50,.tup [.str 33,.str 30,.str 31,.str 32,.str 16]),
 (71,.tup [.str 70,.str 67,.str 68,.str 69]),
 (43,.tup [.str 23,.str 29,.str 65,.str 55]),
 (61,.tup [.str 13,.str 42,.str 22,.str 24]),
 (19,.tup [.str 38,.str 11]),
 (80,.dct [(32,.lst [.str 32,.str 54,.str 34,.str 47,.str 41,.str 12]),(12,.lst [.str 12]),(17,.lst [.str 17,.str 34,.str 47,.str 41,.str 12]),(54,.lst [.str 54,.str 34,.str 47,.str 41,.str 12]),(57,.lst [.str 57,.str 10,.str 12]),(10,.lst [.str 10,.str 12]),(34,.lst [.str 34,.str 47,.str 41,.str 12]),(47,.lst [.str 47,.str 41,.str 12])])]
noncomputable def fnQ(f:Nat):Option Fn:=fM f fnT
noncomputable def Cy(k:Nat):Option Nat:=fM k nh
noncomputable def Gp(k m:Nat):Option Nat:=ay (fM k we) (fM m) none
noncomputable def Gq(x:Nat):Option AV:=fM x pW
noncomputable def PQ:Pg:=⟨fnQ,Cy,Gp,Gq,0,⟨102,225,130,152,142,239⟩,fun _ _=>none⟩
end Mine
end
section
open PySem
namespace Mine
noncomputable def lz:List Str:=[
 ⟨⟨[]⟩⟩,
 ⟨⟨[32,119,104,101,114,101,32]⟩⟩,
 ⟨⟨[33]⟩⟩,
 ⟨⟨[41]⟩⟩,
 ⟨⟨[44,32]⟩⟩,
 ⟨⟨[60,58]⟩⟩,
 ⟨⟨[65,78,89]⟩⟩,
 ⟨⟨[65,98,115,116,114,97,99,116,65,114,114,97,121]⟩⟩,
 ⟨⟨[65,98,115,116,114,97,99,116,67,104,97,114]⟩⟩,
 ⟨⟨[65,98,115,116,114,97,99,116,82,97,110,103,101]⟩⟩,
 ⟨⟨[65,98,115,116,114,97,99,116,83,116,114,105,110,103]⟩⟩,
 ⟨⟨[65,109,98,105,103,117,111,117,115,69,114,114,111,114]⟩⟩,
 ⟨⟨[65,110,121]⟩⟩,
 ⟨⟨[65,114,103,117,109,101,110,116,69,114,114,111,114]⟩⟩,
 ⟨⟨[65,114,114,97,121]⟩⟩,
 ⟨⟨[66,79,84,84,79,77]⟩⟩,
 ⟨⟨[66,105,103,73,110,116]⟩⟩,
 ⟨⟨[66,111,111,108]⟩⟩,
 ⟨⟨[66,111,117,110,100,115,69,114,114,111,114]⟩⟩,
 ⟨⟨[67,65,76,76,95,69,82,82,79,82,83]⟩⟩,
 ⟨⟨[67,104,97,114]⟩⟩,
 ⟨⟨[68,101,99,108]⟩⟩,
 ⟨⟨[68,105,109,101,110,115,105,111,110,77,105,115,109,97,116,99,104]⟩⟩,
 ⟨⟨[68,105,118,105,100,101,69,114,114,111,114]⟩⟩,
 ⟨⟨[69,114,114,111,114,69,120,99,101,112,116,105,111,110]⟩⟩,
 ⟨⟨[69,120,99,101,112,116,105,111,110]⟩⟩,
 ⟨⟨[69,120,112,114]⟩⟩,
 ⟨⟨[70,85,78,67,84,73,79,78]⟩⟩,
 ⟨⟨[70,117,110,99,116,105,111,110]⟩⟩,
 ⟨⟨[73,110,101,120,97,99,116,69,114,114,111,114]⟩⟩,
 ⟨⟨[73,110,116,49,54]⟩⟩,
 ⟨⟨[73,110,116,51,50]⟩⟩,
 ⟨⟨[73,110,116,54,52]⟩⟩,
 ⟨⟨[73,110,116,56]⟩⟩,
 ⟨⟨[73,110,116,101,103,101,114]⟩⟩,
 ⟨⟨[75,105,110,100,70,97,117,108,116]⟩⟩,
 ⟨⟨[75,105,110,100,115]⟩⟩,
 ⟨⟨[77,79,83,84,95,67,65,83,69,83]⟩⟩,
 ⟨⟨[77,101,116,104,111,100,69,114,114,111,114]⟩⟩,
 ⟨⟨[78,46,48]⟩⟩,
 ⟨⟨[78,111,116,104,105,110,103]⟩⟩,
 ⟨⟨[78,117,109,98,101,114]⟩⟩,
 ⟨⟨[79,118,101,114,102,108,111,119,69,114,114,111,114]⟩⟩,
 ⟨⟨[80,76,65,73,78,95,69,82,82,79,82,83]⟩⟩,
 ⟨⟨[80,108,97,105,110,82,111,119]⟩⟩,
 ⟨⟨[80,108,97,105,110,84,97,98,108,101,115]⟩⟩,
 ⟨⟨[82,97,116,105,111,110,97,108]⟩⟩,
 ⟨⟨[82,101,97,108]⟩⟩,
 ⟨⟨[82,101,102]⟩⟩,
 ⟨⟨[82,111,119,115,69,114,114,111,114]⟩⟩,
 ⟨⟨[83,73,71,78,69,68]⟩⟩,
 ⟨⟨[83,101,97,114,99,104]⟩⟩,
 ⟨⟨[83,105,100,101]⟩⟩,
 ⟨⟨[83,105,100,101,115]⟩⟩,
 ⟨⟨[83,105,103,110,101,100]⟩⟩,
 ⟨⟨[83,116,97,99,107,79,118,101,114,102,108,111,119,69,114,114,111,114]⟩⟩,
 ⟨⟨[83,116,101,112,82,97,110,103,101]⟩⟩,
 ⟨⟨[83,116,114,105,110,103]⟩⟩,
 ⟨⟨[83,117,98,65,114,114,97,121]⟩⟩,
 ⟨⟨[83,121,109,98,111,108]⟩⟩,
 ⟨⟨[84,46,48]⟩⟩,
 ⟨⟨[84,69,88,84,95,69,82,82,79,82,83]⟩⟩,
 ⟨⟨[84,89,80,69]⟩⟩,
 ⟨⟨[84,117,112,108,101,123]⟩⟩,
 ⟨⟨[84,121,112,101]⟩⟩,
 ⟨⟨[84,121,112,101,69,114,114,111,114]⟩⟩,
 ⟨⟨[84,121,112,101,123]⟩⟩,
 ⟨⟨[85,73,110,116,49,54]⟩⟩,
 ⟨⟨[85,73,110,116,51,50]⟩⟩,
 ⟨⟨[85,73,110,116,54,52]⟩⟩,
 ⟨⟨[85,73,110,116,56]⟩⟩,
 ⟨⟨[85,78,83,73,71,78,69,68]⟩⟩,
 ⟨⟨[85,110,100,101,102,86,97,114,69,114,114,111,114]⟩⟩,
 ⟨⟨[85,110,105,111,110,123]⟩⟩,
 ⟨⟨[85,110,105,111,110,123,125]⟩⟩,
 ⟨⟨[85,110,105,116,82,97,110,103,101]⟩⟩,
 ⟨⟨[85,110,115,105,103,110,101,100]⟩⟩,
 ⟨⟨[86,97,114,97,114,103,123]⟩⟩,
 ⟨⟨[95,95,105,110,105,116,95,95]⟩⟩,
 ⟨⟨[95,95,110,97,109,101,95,95]⟩⟩,
 ⟨⟨[95,108,97,119,95,99,104,97,105,110,115]⟩⟩,
 ⟨⟨[95,108,97,119,95,100,114,97,119]⟩⟩,
 ⟨⟨[95,108,97,119,95,100,117,101]⟩⟩,
 ⟨⟨[95,108,97,119,95,105,115,95,117,110,100,101,114]⟩⟩,
 ⟨⟨[95,108,97,119,95,108,105,118,101,115]⟩⟩,
 ⟨⟨[95,108,97,119,95,110,97,109,101,100]⟩⟩,
 ⟨⟨[95,108,97,119,95,112,97,114,116]⟩⟩,
 ⟨⟨[95,108,97,119,95,114,111,119,95,117,110,100,101,114]⟩⟩,
 ⟨⟨[95,108,97,119,95,115,101,101,100]⟩⟩,
 ⟨⟨[95,108,97,119,95,115,105,103]⟩⟩,
 ⟨⟨[95,108,97,119,95,116,111,108,100]⟩⟩,
 ⟨⟨[95,119,97,108,108]⟩⟩,
 ⟨⟨[97]⟩⟩,
 ⟨⟨[97,32,107,105,110,100,32,105,115,32,116,111,108,100,32,116,119,105,99,101,58,32]⟩⟩,
 ⟨⟨[97,32,118,97,114,105,97,98,108,101,32,116,104,97,116,32,110,111,116,104,105,110,103,32,98,105,110,100,115,44,32,111,114,32,97,32,102,105,101,108,100,32,116,119,105,99,101,58,32]⟩⟩,
 ⟨⟨[97,98,111,118,101]⟩⟩,
 ⟨⟨[97,98,115]⟩⟩,
 ⟨⟨[97,100,100]⟩⟩,
 ⟨⟨[97,100,100,95,108,111,119,101,114]⟩⟩,
 ⟨⟨[97,100,100,95,117,112,112,101,114]⟩⟩,
 ⟨⟨[97,108,108]⟩⟩,
 ⟨⟨[97,110,121,116,104,105,110,103]⟩⟩,
 ⟨⟨[97,112,112,101,110,100]⟩⟩,
 ⟨⟨[97,112,112,108,105,101,100]⟩⟩,
 ⟨⟨[97,114,101,95,99,111,110,99,114,101,116,101]⟩⟩,
 ⟨⟨[97,114,103,115]⟩⟩,
 ⟨⟨[97,116]⟩⟩,
 ⟨⟨[98,101,103,117,110]⟩⟩,
 ⟨⟨[98,101,108,111,119]⟩⟩,
 ⟨⟨[98,105,110,100,101,114,95,116,101,120,116]⟩⟩,
 ⟨⟨[98,105,110,100,101,114,115,95,109,97,110,121]⟩⟩,
 ⟨⟨[98,111,100,121]⟩⟩,
 ⟨⟨[98,111,116,116,111,109]⟩⟩,
 ⟨⟨[98,111,117,110,100]⟩⟩,
 ⟨⟨[98,111,117,110,100,95,111,99,99,117,114,114,101,110,99,101,115]⟩⟩,
 ⟨⟨[98,111,117,110,100,115]⟩⟩,
 ⟨⟨[98,121,95,102,111,114,109]⟩⟩,
 ⟨⟨[99,97,108,108]⟩⟩,
 ⟨⟨[99,97,108,108,115]⟩⟩,
 ⟨⟨[99,97,115,101]⟩⟩,
 ⟨⟨[99,97,115,101,115]⟩⟩,
 ⟨⟨[99,104,111,115,101,110]⟩⟩,
 ⟨⟨[99,111,112,105,101,100]⟩⟩,
 ⟨⟨[100,101,99,108]⟩⟩,
 ⟨⟨[100,101,99,108,97,114,101]⟩⟩,
 ⟨⟨[100,101,99,108,115]⟩⟩,
 ⟨⟨[100,101,110]⟩⟩,
 ⟨⟨[100,105,99,116]⟩⟩,
 ⟨⟨[101,108,100,101,114]⟩⟩,
 ⟨⟨[101,110,100,101,100]⟩⟩,
 ⟨⟨[101,120,116,101,110,100]⟩⟩,
 ⟨⟨[102]⟩⟩,
 ⟨⟨[102,105,101,108,100,95,107,105,110,100,115]⟩⟩,
 ⟨⟨[102,105,101,108,100,115]⟩⟩,
 ⟨⟨[102,105,116,116,105,110,103]⟩⟩,
 ⟨⟨[102,110]⟩⟩,
 ⟨⟨[102,111,117,110,100]⟩⟩,
 ⟨⟨[102,114,101,101,95,118,97,114,115]⟩⟩,
 ⟨⟨[102,114,101,115,104]⟩⟩,
 ⟨⟨[102,117,101,108]⟩⟩,
 ⟨⟨[102,117,110,99,116,105,111,110]⟩⟩,
 ⟨⟨[103]⟩⟩,
 ⟨⟨[103,101,116]⟩⟩,
 ⟨⟨[103,105,118,101,110]⟩⟩,
 ⟨⟨[103,111,97,108]⟩⟩,
 ⟨⟨[103,111,97,108,115]⟩⟩,
 ⟨⟨[103,111,116]⟩⟩,
 ⟨⟨[104,97,115,95,119,105,116,104,105,110]⟩⟩,
 ⟨⟨[104,101,97,100]⟩⟩,
 ⟨⟨[104,101,108,100]⟩⟩,
 ⟨⟨[104,101,114,101]⟩⟩,
 ⟨⟨[105]⟩⟩,
 ⟨⟨[105,110,100,101,120]⟩⟩,
 ⟨⟨[105,110,110,101,114]⟩⟩,
 ⟨⟨[105,110,115,105,100,101]⟩⟩,
 ⟨⟨[105,115,95,97,98,115,116,114,97,99,116]⟩⟩,
 ⟨⟨[105,115,95,97,115,107,101,100]⟩⟩,
 ⟨⟨[105,115,95,99,111,110,99,114,101,116,101]⟩⟩,
 ⟨⟨[105,115,95,100,101,99,108,97,114,101,100]⟩⟩,
 ⟨⟨[105,115,95,100,105,97,103,111,110,97,108]⟩⟩,
 ⟨⟨[105,115,95,101,109,112,116,121]⟩⟩,
 ⟨⟨[105,115,95,108,105,118,101]⟩⟩,
 ⟨⟨[105,115,95,109,111,114,101,95,115,112,101,99,105,102,105,99]⟩⟩,
 ⟨⟨[105,115,95,109,117,116,97,98,108,101]⟩⟩,
 ⟨⟨[105,115,95,111,110,101]⟩⟩,
 ⟨⟨[105,115,95,115,117,98,116,121,112,101]⟩⟩,
 ⟨⟨[105,115,95,119,105,116,104,105,110]⟩⟩,
 ⟨⟨[105,115,105,110,115,116,97,110,99,101]⟩⟩,
 ⟨⟨[105,116,101,109]⟩⟩,
 ⟨⟨[106,111,105,110]⟩⟩,
 ⟨⟨[107]⟩⟩,
 ⟨⟨[107,105,110,100]⟩⟩,
 ⟨⟨[107,105,110,100,95,116,101,120,116]⟩⟩,
 ⟨⟨[107,105,110,100,115]⟩⟩,
 ⟨⟨[108,97,116,101,114]⟩⟩,
 ⟨⟨[108,97,116,101,114,95,111,110,101,115]⟩⟩,
 ⟨⟨[108,97,119]⟩⟩,
 ⟨⟨[108,97,119,95,112,113,48,55,49,52,95,48,49]⟩⟩,
 ⟨⟨[108,101,102,116]⟩⟩,
 ⟨⟨[108,101,102,116,95,99,97,115,101,115]⟩⟩,
 ⟨⟨[108,101,110]⟩⟩,
 ⟨⟨[108,105,115,116]⟩⟩,
 ⟨⟨[108,105,118,101]⟩⟩,
 ⟨⟨[108,111,116,115]⟩⟩,
 ⟨⟨[108,111,119,101,114]⟩⟩,
 ⟨⟨[108,111,119,101,114,115]⟩⟩,
 ⟨⟨[109,97,110,121]⟩⟩,
 ⟨⟨[109,97,116,99,104,101,100]⟩⟩,
 ⟨⟨[109,97,120]⟩⟩,
 ⟨⟨[109,101,115,115,97,103,101]⟩⟩,
 ⟨⟨[109,101,116,104,111,100,114,111,119,115,46,101,114,114,111,114,115]⟩⟩,
 ⟨⟨[109,101,116,104,111,100,114,111,119,115,46,107,105,110,100,95,116,101,114,109,115]⟩⟩,
 ⟨⟨[109,101,116,104,111,100,114,111,119,115,46,107,105,110,100,115]⟩⟩,
 ⟨⟨[109,101,116,104,111,100,114,111,119,115,46,112,108,97,105,110,95,99,97,108,108,115]⟩⟩,
 ⟨⟨[109,101,116,104,111,100,114,111,119,115,46,115,112,101,99,105,102,105,99]⟩⟩,
 ⟨⟨[109,101,116,104,111,100,114,111,119,115,46,115,117,98,116,121,112,101,95,115,105,100,101,115]⟩⟩,
 ⟨⟨[109,101,116,104,111,100,114,111,119,115,46,115,117,98,116,121,112,101,115]⟩⟩,
 ⟨⟨[109,105,110]⟩⟩,
 ⟨⟨[109,111,114,101]⟩⟩,
 ⟨⟨[109,115,103]⟩⟩,
 ⟨⟨[110]⟩⟩,
 ⟨⟨[110,97,109,101]⟩⟩,
 ⟨⟨[110,97,109,101,100]⟩⟩,
 ⟨⟨[110,97,109,101,115]⟩⟩,
 ⟨⟨[110,97,114,114,111,119,101,100]⟩⟩,
 ⟨⟨[110,111,32,107,105,110,100,32,99,97,110,32,115,116,97,110,100,32,114,105,103,104,116,32,98,101,108,111,119,32]⟩⟩,
 ⟨⟨[110,111,32,115,117,99,104,32,107,105,110,100,58,32]⟩⟩,
 ⟨⟨[110,111,109,105,110,97,108]⟩⟩,
 ⟨⟨[110,117,109]⟩⟩,
 ⟨⟨[110,117,109,98,101,114]⟩⟩,
 ⟨⟨[110,117,109,98,101,114,115]⟩⟩,
 ⟨⟨[111,99,99,117,114,114,101,110,99,101,115]⟩⟩,
 ⟨⟨[111,110,101]⟩⟩,
 ⟨⟨[111,112,101,110,101,100]⟩⟩,
 ⟨⟨[111,114,100,101,114]⟩⟩,
 ⟨⟨[111,116,104,101,114]⟩⟩,
 ⟨⟨[111,116,104,101,114,115]⟩⟩,
 ⟨⟨[111,119,110]⟩⟩,
 ⟨⟨[112,97,114,97,109]⟩⟩,
 ⟨⟨[112,97,114,97,109,115]⟩⟩,
 ⟨⟨[112,97,114,116]⟩⟩,
 ⟨⟨[112,97,114,116,115]⟩⟩,
 ⟨⟨[112,97,114,116,115,95,111,102,95,107,105,110,100]⟩⟩,
 ⟨⟨[112,105,99,107,101,100]⟩⟩,
 ⟨⟨[112,108,97,105,110]⟩⟩,
 ⟨⟨[112,111,112]⟩⟩,
 ⟨⟨[114,97,110,103,101]⟩⟩,
 ⟨⟨[114,97,110,107]⟩⟩,
 ⟨⟨[114,101,98,117,105,108,116,95,107,105,110,100]⟩⟩,
 ⟨⟨[114,101,115,116]⟩⟩,
 ⟨⟨[114,111,119]⟩⟩,
 ⟨⟨[114,111,119,115]⟩⟩,
 ⟨⟨[114,117,110]⟩⟩,
 ⟨⟨[115,97,109,101]⟩⟩,
 ⟨⟨[115,97,109,101,95,107,105,110,100]⟩⟩,
 ⟨⟨[115,99,114,105,112,116]⟩⟩,
 ⟨⟨[115,101,97,114,99,104]⟩⟩,
 ⟨⟨[115,101,101,100]⟩⟩,
 ⟨⟨[115,101,108,102]⟩⟩,
 ⟨⟨[115,101,116,100,101,102,97,117,108,116]⟩⟩,
 ⟨⟨[115,101,116,116,108,101,100]⟩⟩,
 ⟨⟨[115,105,100,101]⟩⟩,
 ⟨⟨[115,105,100,101,115]⟩⟩,
 ⟨⟨[115,105,103]⟩⟩,
 ⟨⟨[115,111,109,101]⟩⟩,
 ⟨⟨[115,111,114,116,101,100]⟩⟩,
 ⟨⟨[115,112,97,110,115]⟩⟩,
 ⟨⟨[115,112,108,105,116]⟩⟩,
 ⟨⟨[115,112,111,116]⟩⟩,
 ⟨⟨[115,116,97,114,116]⟩⟩,
 ⟨⟨[115,116,97,114,116,95,101,114,114,111,114,115]⟩⟩,
 ⟨⟨[115,116,97,114,116,95,107,105,110,100,115]⟩⟩,
 ⟨⟨[115,116,97,114,116,95,114,111,119,115]⟩⟩,
 ⟨⟨[115,116,101,112]⟩⟩,
 ⟨⟨[115,116,111,112]⟩⟩,
 ⟨⟨[115,116,114]⟩⟩,
 ⟨⟨[115,117,98]⟩⟩,
 ⟨⟨[115,117,98,115,116,105,116,117,116,101,100]⟩⟩,
 ⟨⟨[115,117,109]⟩⟩,
 ⟨⟨[115,117,112,101,114]⟩⟩,
 ⟨⟨[115,117,112,101,114,95,111,102]⟩⟩,
 ⟨⟨[115,117,112,101,114,115]⟩⟩,
 ⟨⟨[116,97,98,108,101]⟩⟩,
 ⟨⟨[116,97,98,108,101,95,102,111,114]⟩⟩,
 ⟨⟨[116,97,105,108]⟩⟩,
 ⟨⟨[116,97,105,108,95,111,102]⟩⟩,
 ⟨⟨[116,101,120,116]⟩⟩,
 ⟨⟨[116,111,108,100]⟩⟩,
 ⟨⟨[116,111,108,100,95,112,97,114,97,109]⟩⟩,
 ⟨⟨[116,117,112,108,101]⟩⟩,
 ⟨⟨[116,117,112,108,101,95,99,97,115,101,115]⟩⟩,
 ⟨⟨[116,117,112,108,101,95,111,102]⟩⟩,
 ⟨⟨[116,117,112,108,101,95,119,97,121,115]⟩⟩,
 ⟨⟨[116,117,114,110]⟩⟩,
 ⟨⟨[116,121,112,101,111,102]⟩⟩,
 ⟨⟨[116,121,112,101,111,102,40]⟩⟩,
 ⟨⟨[117,110,100,101,114]⟩⟩,
 ⟨⟨[117,110,105,111,110]⟩⟩,
 ⟨⟨[117,110,105,111,110,95,111,102]⟩⟩,
 ⟨⟨[117,112,112,101,114]⟩⟩,
 ⟨⟨[117,112,112,101,114,115]⟩⟩,
 ⟨⟨[118,97,114]⟩⟩,
 ⟨⟨[118,97,114,105,97,98,108,101]⟩⟩,
 ⟨⟨[118,97,114,105,97,98,108,101,115]⟩⟩,
 ⟨⟨[119,97,105,116,105,110,103]⟩⟩,
 ⟨⟨[119,97,110,116,101,100]⟩⟩,
 ⟨⟨[119,97,121]⟩⟩,
 ⟨⟨[119,97,121,115]⟩⟩,
 ⟨⟨[119,104,111,108,101]⟩⟩,
 ⟨⟨[119,105,100,101,110,101,100]⟩⟩,
 ⟨⟨[119,105,108,100]⟩⟩,
 ⟨⟨[119,105,116,104,95,108,111,119,101,114]⟩⟩,
 ⟨⟨[119,105,116,104,95,117,112,112,101,114]⟩⟩,
 ⟨⟨[119,111,114,100]⟩⟩,
 ⟨⟨[119,111,114,100,115]⟩⟩,
 ⟨⟨[119,111,114,108,100]⟩⟩,
 ⟨⟨[120]⟩⟩,
 ⟨⟨[122,105,112]⟩⟩,
 ⟨⟨[123]⟩⟩,
 ⟨⟨[125]⟩⟩]
noncomputable def nS:Nat:=300
noncomputable def sT(c:Nat):Str:=lz.getD c ⟨⟨[]⟩⟩
noncomputable def Dq(s:Str):Nat:=s.cps.toList.foldl (fun n c=>n * 128 + c) 0 * 128 ^(60 - s.cps.toList.length)
noncomputable def zD:List Nat→Bool
 | []=>true
 | a::r=>match r with
  | []=>true
  | b::_=>Nat.blt a b&&zD r
theorem iO:∀l:List Nat,zD l=true→l.Pairwise (· < ·)
 | [],_=>.nil
 | [a],_=>List.pairwise_singleton _ _
 | a::b::r,h=>by
  obtain⟨h1,h2⟩:=Bool.and_eq_true_iff.mp (show(Nat.blt a b&&zD (b::r))=true from h)
  have ih:=iO (b::r) h2
  have hab:a < b:=Nat.le_of_ble_eq_true h1
  refine List.pairwise_cons.mpr ⟨fun x hx=>?_,ih⟩
  rcases List.mem_cons.mp hx with rfl | hx
  ·exact hab
  ·exact Nat.lt_trans hab ((List.pairwise_cons.mp ih).1 x hx)
theorem wg:zD (lz.map Dq)=true:=by decide +kernel
theorem jq:lz.length=nS:=by decide +kernel
theorem Cz{c d:Nat}(hd:d < nS)(h:c < d):Dq (sT c) < Dq (sT d):=by
 have hd':d < lz.length:=jq▸hd
 have hc':c < lz.length:=Nat.lt_trans h hd'
 have q:=List.pairwise_iff_getElem.mp (iO _ wg) c d (by simpa using hc') (by simpa using hd') h
 simp only[List.getElem_map] at q
 unfold sT
 rw[List.getD_eq_getElem?_getD,List.getD_eq_getElem?_getD,List.getElem?_eq_getElem hc',List.getElem?_eq_getElem hd',Option.getD_some,Option.getD_some]
 exact q
theorem iX{c d:Nat}(hc:c < nS)(hd:d < nS)(h:sT c=sT d):c=d:=by
 rcases Nat.lt_trichotomy c d with q | q | q
 ·have:=Cz hd q;rw[h] at this;omega
 ·exact q
 ·have:=Cz hc q;rw[h] at this;omega
theorem uF:(lz.all fun s=>s.cps.all (· < 128))=true:=by decide +kernel
end Mine
end
section
open PySem PySem.W PySem.Calls PyProof.Rows
namespace Mine
theorem ff{G:Prop}(q:false=true):G:=nomatch q
noncomputable def iF(d:Bool)(k0:BoolOp→(List Expr)→Pos→Bool)(k1:Expr→Operator→Expr→Pos→Bool)(k2:UnaryOp→Expr→Pos→Bool)(k3:Expr→Expr→Expr→Pos→Bool)(k4:(List (Option Expr))→(List Expr)→Pos→Bool)(k5:Expr→(List Comprehension)→Scope→Pos→Bool)(k6:Expr→(List CmpOp)→(List Expr)→Pos→Bool)(k7:Expr→(List Expr)→(List Keyword)→Pos→Bool)(k8:Const→Nat→Pos→Bool)(k9:Expr→Str→Pos→Bool)(k10:Expr→Expr→Pos→Bool)(k11:Str→Pos→Bool)(k12:(List Expr)→Pos→Bool)(k13:(List Expr)→Nat→Pos→Bool)(k14:(Option Expr)→(Option Expr)→(Option Expr)→Pos→Bool)(e:Expr):Bool:=Expr.casesOn (motive_1:=fun _=>Bool) e k0 (fun _ _ _=>d) k1 k2 (fun _ _ _ _=>d) k3 k4 (fun _ _ _=>d) k5 (fun _ _ _ _=>d) (fun _ _ _ _ _=>d) (fun _ _ _ _=>d) (fun _ _=>d) (fun _ _=>d) (fun _ _=>d) k6 k7 (fun _ _ _ _=>d) (fun _ _=>d) k8 k9 k10 (fun _ _=>d) k11 k12 k13 k14
theorem cT{G:Expr→Prop}{e:Expr}{k0:BoolOp→(List Expr)→Pos→Bool}{k1:Expr→Operator→Expr→Pos→Bool}{k2:UnaryOp→Expr→Pos→Bool}{k3:Expr→Expr→Expr→Pos→Bool}{k4:(List (Option Expr))→(List Expr)→Pos→Bool}{k5:Expr→(List Comprehension)→Scope→Pos→Bool}{k6:Expr→(List CmpOp)→(List Expr)→Pos→Bool}{k7:Expr→(List Expr)→(List Keyword)→Pos→Bool}{k8:Const→Nat→Pos→Bool}{k9:Expr→Str→Pos→Bool}{k10:Expr→Expr→Pos→Bool}{k11:Str→Pos→Bool}{k12:(List Expr)→Pos→Bool}{k13:(List Expr)→Nat→Pos→Bool}{k14:(Option Expr)→(Option Expr)→(Option Expr)→Pos→Bool}(q:iF false k0 k1 k2 k3 k4 k5 k6 k7 k8 k9 k10 k11 k12 k13 k14 e=true)(K0:∀x0 x1 x2,k0 x0 x1 x2=true→G (.BoolOp x0 x1 x2))(K1:∀x0 x1 x2 x3,k1 x0 x1 x2 x3=true→G (.BinOp x0 x1 x2 x3))(K2:∀x0 x1 x2,k2 x0 x1 x2=true→G (.UnaryOp x0 x1 x2))(K3:∀x0 x1 x2 x3,k3 x0 x1 x2 x3=true→G (.IfExp x0 x1 x2 x3))(K4:∀x0 x1 x2,k4 x0 x1 x2=true→G (.Dict x0 x1 x2))(K5:∀x0 x1 x2 x3,k5 x0 x1 x2 x3=true→G (.ListComp x0 x1 x2 x3))(K6:∀x0 x1 x2 x3,k6 x0 x1 x2 x3=true→G (.Compare x0 x1 x2 x3))(K7:∀x0 x1 x2 x3,k7 x0 x1 x2 x3=true→G (.Call x0 x1 x2 x3))(K8:∀x0 x1 x2,k8 x0 x1 x2=true→G (.Constant x0 x1 x2))(K9:∀x0 x1 x2,k9 x0 x1 x2=true→G (.Attribute x0 x1 x2))(K10:∀x0 x1 x2,k10 x0 x1 x2=true→G (.Subscript x0 x1 x2))(K11:∀x0 x1,k11 x0 x1=true→G (.Name x0 x1))(K12:∀x0 x1,k12 x0 x1=true→G (.List x0 x1))(K13:∀x0 x1 x2,k13 x0 x1 x2=true→G (.Tuple x0 x1 x2))(K14:∀x0 x1 x2 x3,k14 x0 x1 x2 x3=true→G (.Slice x0 x1 x2 x3)):G e:=by
 cases e with
 | BoolOp=>exact K0 _ _ _ q
 | BinOp=>exact K1 _ _ _ _ q
 | UnaryOp=>exact K2 _ _ _ q
 | IfExp=>exact K3 _ _ _ _ q
 | Dict=>exact K4 _ _ _ q
 | ListComp=>exact K5 _ _ _ _ q
 | Compare=>exact K6 _ _ _ _ q
 | Call=>exact K7 _ _ _ _ q
 | Constant=>exact K8 _ _ _ q
 | Attribute=>exact K9 _ _ _ q
 | Subscript=>exact K10 _ _ _ q
 | Name=>exact K11 _ _ q
 | List=>exact K12 _ _ q
 | Tuple=>exact K13 _ _ _ q
 | Slice=>exact K14 _ _ _ _ q
 | _=>exact ff q
noncomputable def ef(e:Expr)(k:(Const)→Bool):Bool:=iF false (fun _ _ _=>false) (fun _ _ _ _=>false) (fun _ _ _=>false) (fun _ _ _ _=>false) (fun _ _ _=>false) (fun _ _ _ _=>false) (fun _ _ _ _=>false) (fun _ _ _ _=>false) (fun x0 _ _=>k x0) (fun _ _ _=>false) (fun _ _ _=>false) (fun _ _=>false) (fun _ _=>false) (fun _ _ _=>false) (fun _ _ _ _=>false) e
theorem bK{G:Expr→Prop}(e:Expr){k:(Const)→Bool}(q:ef e k=true)(K:∀a0 a1 a2,k a0=true→G (.Constant a0 a1 a2)):G e:=cT q (fun _ _ _ q=>ff q) (fun _ _ _ _ q=>ff q) (fun _ _ _ q=>ff q) (fun _ _ _ _ q=>ff q) (fun _ _ _ q=>ff q) (fun _ _ _ _ q=>ff q) (fun _ _ _ _ q=>ff q) (fun _ _ _ _ q=>ff q) K (fun _ _ _ q=>ff q) (fun _ _ _ q=>ff q) (fun _ _ q=>ff q) (fun _ _ q=>ff q) (fun _ _ _ q=>ff q) (fun _ _ _ _ q=>ff q)
noncomputable def fA(e:Expr)(k:(Str)→Bool):Bool:=iF false (fun _ _ _=>false) (fun _ _ _ _=>false) (fun _ _ _=>false) (fun _ _ _ _=>false) (fun _ _ _=>false) (fun _ _ _ _=>false) (fun _ _ _ _=>false) (fun _ _ _ _=>false) (fun _ _ _=>false) (fun _ _ _=>false) (fun _ _ _=>false) (fun x0 _=>k x0) (fun _ _=>false) (fun _ _ _=>false) (fun _ _ _ _=>false) e
theorem cI{G:Expr→Prop}(e:Expr){k:(Str)→Bool}(q:fA e k=true)(K:∀a0 a1,k a0=true→G (.Name a0 a1)):G e:=cT q (fun _ _ _ q=>ff q) (fun _ _ _ _ q=>ff q) (fun _ _ _ q=>ff q) (fun _ _ _ _ q=>ff q) (fun _ _ _ q=>ff q) (fun _ _ _ _ q=>ff q) (fun _ _ _ _ q=>ff q) (fun _ _ _ _ q=>ff q) (fun _ _ _ q=>ff q) (fun _ _ _ q=>ff q) (fun _ _ _ q=>ff q) K (fun _ _ q=>ff q) (fun _ _ _ q=>ff q) (fun _ _ _ _ q=>ff q)
noncomputable def onTup(e:Expr)(k:(List Expr)→Bool):Bool:=iF false (fun _ _ _=>false) (fun _ _ _ _=>false) (fun _ _ _=>false) (fun _ _ _ _=>false) (fun _ _ _=>false) (fun _ _ _ _=>false) (fun _ _ _ _=>false) (fun _ _ _ _=>false) (fun _ _ _=>false) (fun _ _ _=>false) (fun _ _ _=>false) (fun _ _=>false) (fun _ _=>false) (fun x0 _ _=>k x0) (fun _ _ _ _=>false) e
theorem kX{G:Expr→Prop}(e:Expr){k:(List Expr)→Bool}(q:onTup e k=true)(K:∀a0 a1 a2,k a0=true→G (.Tuple a0 a1 a2)):G e:=cT q (fun _ _ _ q=>ff q) (fun _ _ _ _ q=>ff q) (fun _ _ _ q=>ff q) (fun _ _ _ _ q=>ff q) (fun _ _ _ q=>ff q) (fun _ _ _ _ q=>ff q) (fun _ _ _ _ q=>ff q) (fun _ _ _ _ q=>ff q) (fun _ _ _ q=>ff q) (fun _ _ _ q=>ff q) (fun _ _ _ q=>ff q) (fun _ _ q=>ff q) (fun _ _ q=>ff q) K (fun _ _ _ _ q=>ff q)
noncomputable def onLst(e:Expr)(k:(List Expr)→Bool):Bool:=iF false (fun _ _ _=>false) (fun _ _ _ _=>false) (fun _ _ _=>false) (fun _ _ _ _=>false) (fun _ _ _=>false) (fun _ _ _ _=>false) (fun _ _ _ _=>false) (fun _ _ _ _=>false) (fun _ _ _=>false) (fun _ _ _=>false) (fun _ _ _=>false) (fun _ _=>false) (fun x0 _=>k x0) (fun _ _ _=>false) (fun _ _ _ _=>false) e
theorem tE{G:Expr→Prop}(e:Expr){k:(List Expr)→Bool}(q:onLst e k=true)(K:∀a0 a1,k a0=true→G (.List a0 a1)):G e:=cT q (fun _ _ _ q=>ff q) (fun _ _ _ _ q=>ff q) (fun _ _ _ q=>ff q) (fun _ _ _ _ q=>ff q) (fun _ _ _ q=>ff q) (fun _ _ _ _ q=>ff q) (fun _ _ _ _ q=>ff q) (fun _ _ _ _ q=>ff q) (fun _ _ _ q=>ff q) (fun _ _ _ q=>ff q) (fun _ _ _ q=>ff q) (fun _ _ q=>ff q) K (fun _ _ _ q=>ff q) (fun _ _ _ _ q=>ff q)
noncomputable def onDict(e:Expr)(k:(List (Option Expr))→(List Expr)→Bool):Bool:=iF false (fun _ _ _=>false) (fun _ _ _ _=>false) (fun _ _ _=>false) (fun _ _ _ _=>false) (fun x0 x1 _=>k x0 x1) (fun _ _ _ _=>false) (fun _ _ _ _=>false) (fun _ _ _ _=>false) (fun _ _ _=>false) (fun _ _ _=>false) (fun _ _ _=>false) (fun _ _=>false) (fun _ _=>false) (fun _ _ _=>false) (fun _ _ _ _=>false) e
theorem jr{G:Expr→Prop}(e:Expr){k:(List (Option Expr))→(List Expr)→Bool}(q:onDict e k=true)(K:∀a0 a1 a2,k a0 a1=true→G (.Dict a0 a1 a2)):G e:=cT q (fun _ _ _ q=>ff q) (fun _ _ _ _ q=>ff q) (fun _ _ _ q=>ff q) (fun _ _ _ _ q=>ff q) K (fun _ _ _ _ q=>ff q) (fun _ _ _ _ q=>ff q) (fun _ _ _ _ q=>ff q) (fun _ _ _ q=>ff q) (fun _ _ _ q=>ff q) (fun _ _ _ q=>ff q) (fun _ _ q=>ff q) (fun _ _ q=>ff q) (fun _ _ _ q=>ff q) (fun _ _ _ _ q=>ff q)
noncomputable def lA(e:Expr)(k:(Expr)→(Str)→(Pos)→Bool):Bool:=iF false (fun _ _ _=>false) (fun _ _ _ _=>false) (fun _ _ _=>false) (fun _ _ _ _=>false) (fun _ _ _=>false) (fun _ _ _ _=>false) (fun _ _ _ _=>false) (fun _ _ _ _=>false) (fun _ _ _=>false) k (fun _ _ _=>false) (fun _ _=>false) (fun _ _=>false) (fun _ _ _=>false) (fun _ _ _ _=>false) e
theorem g6{G:Expr→Prop}(e:Expr){k:(Expr)→(Str)→(Pos)→Bool}(q:lA e k=true)(K:∀a0 a1 a2,k a0 a1 a2=true→G (.Attribute a0 a1 a2)):G e:=cT q (fun _ _ _ q=>ff q) (fun _ _ _ _ q=>ff q) (fun _ _ _ q=>ff q) (fun _ _ _ _ q=>ff q) (fun _ _ _ q=>ff q) (fun _ _ _ _ q=>ff q) (fun _ _ _ _ q=>ff q) (fun _ _ _ _ q=>ff q) (fun _ _ _ q=>ff q) K (fun _ _ _ q=>ff q) (fun _ _ q=>ff q) (fun _ _ q=>ff q) (fun _ _ _ q=>ff q) (fun _ _ _ _ q=>ff q)
noncomputable def g7(e:Expr)(k:(Expr)→(Expr)→Bool):Bool:=iF false (fun _ _ _=>false) (fun _ _ _ _=>false) (fun _ _ _=>false) (fun _ _ _ _=>false) (fun _ _ _=>false) (fun _ _ _ _=>false) (fun _ _ _ _=>false) (fun _ _ _ _=>false) (fun _ _ _=>false) (fun _ _ _=>false) (fun x0 x1 _=>k x0 x1) (fun _ _=>false) (fun _ _=>false) (fun _ _ _=>false) (fun _ _ _ _=>false) e
theorem bR{G:Expr→Prop}(e:Expr){k:(Expr)→(Expr)→Bool}(q:g7 e k=true)(K:∀a0 a1 a2,k a0 a1=true→G (.Subscript a0 a1 a2)):G e:=cT q (fun _ _ _ q=>ff q) (fun _ _ _ _ q=>ff q) (fun _ _ _ q=>ff q) (fun _ _ _ _ q=>ff q) (fun _ _ _ q=>ff q) (fun _ _ _ _ q=>ff q) (fun _ _ _ _ q=>ff q) (fun _ _ _ _ q=>ff q) (fun _ _ _ q=>ff q) (fun _ _ _ q=>ff q) K (fun _ _ q=>ff q) (fun _ _ q=>ff q) (fun _ _ _ q=>ff q) (fun _ _ _ _ q=>ff q)
noncomputable def zE(e:Expr)(k:(UnaryOp)→(Expr)→Bool):Bool:=iF false (fun _ _ _=>false) (fun _ _ _ _=>false) (fun x0 x1 _=>k x0 x1) (fun _ _ _ _=>false) (fun _ _ _=>false) (fun _ _ _ _=>false) (fun _ _ _ _=>false) (fun _ _ _ _=>false) (fun _ _ _=>false) (fun _ _ _=>false) (fun _ _ _=>false) (fun _ _=>false) (fun _ _=>false) (fun _ _ _=>false) (fun _ _ _ _=>false) e
theorem wh{G:Expr→Prop}(e:Expr){k:(UnaryOp)→(Expr)→Bool}(q:zE e k=true)(K:∀a0 a1 a2,k a0 a1=true→G (.UnaryOp a0 a1 a2)):G e:=cT q (fun _ _ _ q=>ff q) (fun _ _ _ _ q=>ff q) K (fun _ _ _ _ q=>ff q) (fun _ _ _ q=>ff q) (fun _ _ _ _ q=>ff q) (fun _ _ _ _ q=>ff q) (fun _ _ _ _ q=>ff q) (fun _ _ _ q=>ff q) (fun _ _ _ q=>ff q) (fun _ _ _ q=>ff q) (fun _ _ q=>ff q) (fun _ _ q=>ff q) (fun _ _ _ q=>ff q) (fun _ _ _ _ q=>ff q)
noncomputable def jt(e:Expr)(k:(Option Expr)→(Option Expr)→(Option Expr)→Bool):Bool:=iF false (fun _ _ _=>false) (fun _ _ _ _=>false) (fun _ _ _=>false) (fun _ _ _ _=>false) (fun _ _ _=>false) (fun _ _ _ _=>false) (fun _ _ _ _=>false) (fun _ _ _ _=>false) (fun _ _ _=>false) (fun _ _ _=>false) (fun _ _ _=>false) (fun _ _=>false) (fun _ _=>false) (fun _ _ _=>false) (fun x0 x1 x2 _=>k x0 x1 x2) e
theorem iq{G:Expr→Prop}(e:Expr){k:(Option Expr)→(Option Expr)→(Option Expr)→Bool}(q:jt e k=true)(K:∀a0 a1 a2 a3,k a0 a1 a2=true→G (.Slice a0 a1 a2 a3)):G e:=cT q (fun _ _ _ q=>ff q) (fun _ _ _ _ q=>ff q) (fun _ _ _ q=>ff q) (fun _ _ _ _ q=>ff q) (fun _ _ _ q=>ff q) (fun _ _ _ _ q=>ff q) (fun _ _ _ _ q=>ff q) (fun _ _ _ _ q=>ff q) (fun _ _ _ q=>ff q) (fun _ _ _ q=>ff q) (fun _ _ _ q=>ff q) (fun _ _ q=>ff q) (fun _ _ q=>ff q) (fun _ _ _ q=>ff q) K
noncomputable def jJ(e:Expr)(k:(Expr)→(List Expr)→(List Keyword)→(Pos)→Bool):Bool:=iF false (fun _ _ _=>false) (fun _ _ _ _=>false) (fun _ _ _=>false) (fun _ _ _ _=>false) (fun _ _ _=>false) (fun _ _ _ _=>false) (fun _ _ _ _=>false) k (fun _ _ _=>false) (fun _ _ _=>false) (fun _ _ _=>false) (fun _ _=>false) (fun _ _=>false) (fun _ _ _=>false) (fun _ _ _ _=>false) e
theorem cJ{G:Expr→Prop}(e:Expr){k:(Expr)→(List Expr)→(List Keyword)→(Pos)→Bool}(q:jJ e k=true)(K:∀a0 a1 a2 a3,k a0 a1 a2 a3=true→G (.Call a0 a1 a2 a3)):G e:=cT q (fun _ _ _ q=>ff q) (fun _ _ _ _ q=>ff q) (fun _ _ _ q=>ff q) (fun _ _ _ _ q=>ff q) (fun _ _ _ q=>ff q) (fun _ _ _ _ q=>ff q) (fun _ _ _ _ q=>ff q) K (fun _ _ _ q=>ff q) (fun _ _ _ q=>ff q) (fun _ _ _ q=>ff q) (fun _ _ q=>ff q) (fun _ _ q=>ff q) (fun _ _ _ q=>ff q) (fun _ _ _ _ q=>ff q)
noncomputable def CA(e:Expr)(k:(Expr)→(List CmpOp)→(List Expr)→Bool):Bool:=iF false (fun _ _ _=>false) (fun _ _ _ _=>false) (fun _ _ _=>false) (fun _ _ _ _=>false) (fun _ _ _=>false) (fun _ _ _ _=>false) (fun x0 x1 x2 _=>k x0 x1 x2) (fun _ _ _ _=>false) (fun _ _ _=>false) (fun _ _ _=>false) (fun _ _ _=>false) (fun _ _=>false) (fun _ _=>false) (fun _ _ _=>false) (fun _ _ _ _=>false) e
theorem tF{G:Expr→Prop}(e:Expr){k:(Expr)→(List CmpOp)→(List Expr)→Bool}(q:CA e k=true)(K:∀a0 a1 a2 a3,k a0 a1 a2=true→G (.Compare a0 a1 a2 a3)):G e:=cT q (fun _ _ _ q=>ff q) (fun _ _ _ _ q=>ff q) (fun _ _ _ q=>ff q) (fun _ _ _ _ q=>ff q) (fun _ _ _ q=>ff q) (fun _ _ _ _ q=>ff q) K (fun _ _ _ _ q=>ff q) (fun _ _ _ q=>ff q) (fun _ _ _ q=>ff q) (fun _ _ _ q=>ff q) (fun _ _ q=>ff q) (fun _ _ q=>ff q) (fun _ _ _ q=>ff q) (fun _ _ _ _ q=>ff q)
noncomputable def onBool(e:Expr)(k:(BoolOp)→(List Expr)→Bool):Bool:=iF false (fun x0 x1 _=>k x0 x1) (fun _ _ _ _=>false) (fun _ _ _=>false) (fun _ _ _ _=>false) (fun _ _ _=>false) (fun _ _ _ _=>false) (fun _ _ _ _=>false) (fun _ _ _ _=>false) (fun _ _ _=>false) (fun _ _ _=>false) (fun _ _ _=>false) (fun _ _=>false) (fun _ _=>false) (fun _ _ _=>false) (fun _ _ _ _=>false) e
theorem fN{G:Expr→Prop}(e:Expr){k:(BoolOp)→(List Expr)→Bool}(q:onBool e k=true)(K:∀a0 a1 a2,k a0 a1=true→G (.BoolOp a0 a1 a2)):G e:=cT q K (fun _ _ _ _ q=>ff q) (fun _ _ _ q=>ff q) (fun _ _ _ _ q=>ff q) (fun _ _ _ q=>ff q) (fun _ _ _ _ q=>ff q) (fun _ _ _ _ q=>ff q) (fun _ _ _ _ q=>ff q) (fun _ _ _ q=>ff q) (fun _ _ _ q=>ff q) (fun _ _ _ q=>ff q) (fun _ _ q=>ff q) (fun _ _ q=>ff q) (fun _ _ _ q=>ff q) (fun _ _ _ _ q=>ff q)
noncomputable def CB(e:Expr)(k:(Expr)→(Operator)→(Expr)→Bool):Bool:=iF false (fun _ _ _=>false) (fun x0 x1 x2 _=>k x0 x1 x2) (fun _ _ _=>false) (fun _ _ _ _=>false) (fun _ _ _=>false) (fun _ _ _ _=>false) (fun _ _ _ _=>false) (fun _ _ _ _=>false) (fun _ _ _=>false) (fun _ _ _=>false) (fun _ _ _=>false) (fun _ _=>false) (fun _ _=>false) (fun _ _ _=>false) (fun _ _ _ _=>false) e
theorem tG{G:Expr→Prop}(e:Expr){k:(Expr)→(Operator)→(Expr)→Bool}(q:CB e k=true)(K:∀a0 a1 a2 a3,k a0 a1 a2=true→G (.BinOp a0 a1 a2 a3)):G e:=cT q (fun _ _ _ q=>ff q) K (fun _ _ _ q=>ff q) (fun _ _ _ _ q=>ff q) (fun _ _ _ q=>ff q) (fun _ _ _ _ q=>ff q) (fun _ _ _ _ q=>ff q) (fun _ _ _ _ q=>ff q) (fun _ _ _ q=>ff q) (fun _ _ _ q=>ff q) (fun _ _ _ q=>ff q) (fun _ _ q=>ff q) (fun _ _ q=>ff q) (fun _ _ _ q=>ff q) (fun _ _ _ _ q=>ff q)
noncomputable def Dr(e:Expr)(k:(Expr)→(Expr)→(Expr)→Bool):Bool:=iF false (fun _ _ _=>false) (fun _ _ _ _=>false) (fun _ _ _=>false) (fun x0 x1 x2 _=>k x0 x1 x2) (fun _ _ _=>false) (fun _ _ _ _=>false) (fun _ _ _ _=>false) (fun _ _ _ _=>false) (fun _ _ _=>false) (fun _ _ _=>false) (fun _ _ _=>false) (fun _ _=>false) (fun _ _=>false) (fun _ _ _=>false) (fun _ _ _ _=>false) e
theorem rU{G:Expr→Prop}(e:Expr){k:(Expr)→(Expr)→(Expr)→Bool}(q:Dr e k=true)(K:∀a0 a1 a2 a3,k a0 a1 a2=true→G (.IfExp a0 a1 a2 a3)):G e:=cT q (fun _ _ _ q=>ff q) (fun _ _ _ _ q=>ff q) (fun _ _ _ q=>ff q) K (fun _ _ _ q=>ff q) (fun _ _ _ _ q=>ff q) (fun _ _ _ _ q=>ff q) (fun _ _ _ _ q=>ff q) (fun _ _ _ q=>ff q) (fun _ _ _ q=>ff q) (fun _ _ _ q=>ff q) (fun _ _ q=>ff q) (fun _ _ q=>ff q) (fun _ _ _ q=>ff q) (fun _ _ _ _ q=>ff q)
noncomputable def Gr(e:Expr)(k:(Expr)→(List Comprehension)→(Scope)→Bool):Bool:=iF false (fun _ _ _=>false) (fun _ _ _ _=>false) (fun _ _ _=>false) (fun _ _ _ _=>false) (fun _ _ _=>false) (fun x0 x1 x2 _=>k x0 x1 x2) (fun _ _ _ _=>false) (fun _ _ _ _=>false) (fun _ _ _=>false) (fun _ _ _=>false) (fun _ _ _=>false) (fun _ _=>false) (fun _ _=>false) (fun _ _ _=>false) (fun _ _ _ _=>false) e
theorem wi{G:Expr→Prop}(e:Expr){k:(Expr)→(List Comprehension)→(Scope)→Bool}(q:Gr e k=true)(K:∀a0 a1 a2 a3,k a0 a1 a2=true→G (.ListComp a0 a1 a2 a3)):G e:=cT q (fun _ _ _ q=>ff q) (fun _ _ _ _ q=>ff q) (fun _ _ _ q=>ff q) (fun _ _ _ _ q=>ff q) (fun _ _ _ q=>ff q) K (fun _ _ _ _ q=>ff q) (fun _ _ _ _ q=>ff q) (fun _ _ _ q=>ff q) (fun _ _ _ q=>ff q) (fun _ _ _ q=>ff q) (fun _ _ q=>ff q) (fun _ _ q=>ff q) (fun _ _ _ q=>ff q) (fun _ _ _ _ q=>ff q)
noncomputable def rV(d:Bool)(k0:(Option Expr)→Pos→Bool)(k1:(List Expr)→Expr→Pos→Bool)(k2:Expr→Expr→(List Stmt)→(List Stmt)→Pos→Bool)(k3:Expr→(List Stmt)→(List Stmt)→Pos→Bool)(k4:Expr→(List Stmt)→(List Stmt)→Pos→Bool)(k5:Expr→Pos→Bool)(e:Stmt):Bool:=Stmt.casesOn e (fun _ _ _ _ _ _ _ _ _ _=>d) (fun _ _ _ _ _ _ _ _ _ _=>d) (fun _ _ _ _ _ _ _ _ _ _ _=>d) k0 (fun _ _=>d) k1 (fun _ _ _ _ _ _ _=>d) (fun _ _ _ _=>d) (fun _ _ _ _ _=>d) k2 (fun _ _ _ _ _=>d) k3 k4 (fun _ _ _=>d) (fun _ _ _=>d) (fun _ _ _=>d) (fun _ _ _=>d) (fun _ _ _ _ _=>d) (fun _ _ _ _ _=>d) (fun _ _ _=>d) (fun _ _=>d) (fun _ _ _ _=>d) (fun _ _=>d) (fun _ _=>d) k5 (fun _=>d) (fun _=>d) (fun _=>d)
theorem jK{G:Stmt→Prop}{e:Stmt}{k0:(Option Expr)→Pos→Bool}{k1:(List Expr)→Expr→Pos→Bool}{k2:Expr→Expr→(List Stmt)→(List Stmt)→Pos→Bool}{k3:Expr→(List Stmt)→(List Stmt)→Pos→Bool}{k4:Expr→(List Stmt)→(List Stmt)→Pos→Bool}{k5:Expr→Pos→Bool}(q:rV false k0 k1 k2 k3 k4 k5 e=true)(K0:∀x0 x1,k0 x0 x1=true→G (.Return x0 x1))(K1:∀x0 x1 x2,k1 x0 x1 x2=true→G (.Assign x0 x1 x2))(K2:∀x0 x1 x2 x3 x4,k2 x0 x1 x2 x3 x4=true→G (.For x0 x1 x2 x3 x4))(K3:∀x0 x1 x2 x3,k3 x0 x1 x2 x3=true→G (.While x0 x1 x2 x3))(K4:∀x0 x1 x2 x3,k4 x0 x1 x2 x3=true→G (.If x0 x1 x2 x3))(K5:∀x0 x1,k5 x0 x1=true→G (.Expr x0 x1)):G e:=by
 cases e with
 | Return=>exact K0 _ _ q
 | Assign=>exact K1 _ _ _ q
 | For=>exact K2 _ _ _ _ _ q
 | While=>exact K3 _ _ _ _ q
 | If=>exact K4 _ _ _ _ q
 | Expr=>exact K5 _ _ q
 | _=>exact ff q
noncomputable def Gs(e:Stmt)(k:(List Expr)→(Expr)→Bool):Bool:=rV false (fun _ _=>false) (fun x0 x1 _=>k x0 x1) (fun _ _ _ _ _=>false) (fun _ _ _ _=>false) (fun _ _ _ _=>false) (fun _ _=>false) e
theorem Dt{G:Stmt→Prop}(e:Stmt){k:(List Expr)→(Expr)→Bool}(q:Gs e k=true)(K:∀a0 a1 a2,k a0 a1=true→G (.Assign a0 a1 a2)):G e:=jK q (fun _ _ q=>ff q) K (fun _ _ _ _ _ q=>ff q) (fun _ _ _ _ q=>ff q) (fun _ _ _ _ q=>ff q) (fun _ _ q=>ff q)
noncomputable def Gu(e:Stmt)(k:(Expr)→Bool):Bool:=rV false (fun _ _=>false) (fun _ _ _=>false) (fun _ _ _ _ _=>false) (fun _ _ _ _=>false) (fun _ _ _ _=>false) (fun x0 _=>k x0) e
theorem Du{G:Stmt→Prop}(e:Stmt){k:(Expr)→Bool}(q:Gu e k=true)(K:∀a0 a1,k a0=true→G (.Expr a0 a1)):G e:=jK q (fun _ _ q=>ff q) (fun _ _ _ q=>ff q) (fun _ _ _ _ _ q=>ff q) (fun _ _ _ _ q=>ff q) (fun _ _ _ _ q=>ff q) K
noncomputable def Gv(e:Stmt)(k:(Option Expr)→Bool):Bool:=rV false (fun x0 _=>k x0) (fun _ _ _=>false) (fun _ _ _ _ _=>false) (fun _ _ _ _=>false) (fun _ _ _ _=>false) (fun _ _=>false) e
theorem Dv{G:Stmt→Prop}(e:Stmt){k:(Option Expr)→Bool}(q:Gv e k=true)(K:∀a0 a1,k a0=true→G (.Return a0 a1)):G e:=jK q K (fun _ _ _ q=>ff q) (fun _ _ _ _ _ q=>ff q) (fun _ _ _ _ q=>ff q) (fun _ _ _ _ q=>ff q) (fun _ _ q=>ff q)
noncomputable def CD(e:Stmt)(k:(Expr)→(List Stmt)→(List Stmt)→Bool):Bool:=rV false (fun _ _=>false) (fun _ _ _=>false) (fun _ _ _ _ _=>false) (fun _ _ _ _=>false) (fun x0 x1 x2 _=>k x0 x1 x2) (fun _ _=>false) e
theorem zF{G:Stmt→Prop}(e:Stmt){k:(Expr)→(List Stmt)→(List Stmt)→Bool}(q:CD e k=true)(K:∀a0 a1 a2 a3,k a0 a1 a2=true→G (.If a0 a1 a2 a3)):G e:=jK q (fun _ _ q=>ff q) (fun _ _ _ q=>ff q) (fun _ _ _ _ _ q=>ff q) (fun _ _ _ _ q=>ff q) K (fun _ _ q=>ff q)
noncomputable def Gw(e:Stmt)(k:(Expr)→(List Stmt)→(List Stmt)→Bool):Bool:=rV false (fun _ _=>false) (fun _ _ _=>false) (fun _ _ _ _ _=>false) (fun x0 x1 x2 _=>k x0 x1 x2) (fun _ _ _ _=>false) (fun _ _=>false) e
theorem Dw{G:Stmt→Prop}(e:Stmt){k:(Expr)→(List Stmt)→(List Stmt)→Bool}(q:Gw e k=true)(K:∀a0 a1 a2 a3,k a0 a1 a2=true→G (.While a0 a1 a2 a3)):G e:=jK q (fun _ _ q=>ff q) (fun _ _ _ q=>ff q) (fun _ _ _ _ _ q=>ff q) K (fun _ _ _ _ q=>ff q) (fun _ _ q=>ff q)
noncomputable def CE(e:Stmt)(k:(Expr)→(Expr)→(List Stmt)→(List Stmt)→Bool):Bool:=rV false (fun _ _=>false) (fun _ _ _=>false) (fun x0 x1 x2 x3 _=>k x0 x1 x2 x3) (fun _ _ _ _=>false) (fun _ _ _ _=>false) (fun _ _=>false) e
theorem zG{G:Stmt→Prop}(e:Stmt){k:(Expr)→(Expr)→(List Stmt)→(List Stmt)→Bool}(q:CE e k=true)(K:∀a0 a1 a2 a3 a4,k a0 a1 a2 a3=true→G (.For a0 a1 a2 a3 a4)):G e:=jK q (fun _ _ q=>ff q) (fun _ _ _ q=>ff q) K (fun _ _ _ _ q=>ff q) (fun _ _ _ _ q=>ff q) (fun _ _ q=>ff q)
noncomputable def zH(d:Bool)(k0:Bool→Bool)(k1:Int→Bool)(k2:Str→Bool)(e:Const):Bool:=Const.casesOn (motive:=fun _=>Bool) e d k0 k1 (fun _=>d) (fun _ _=>d) k2 (fun _=>d) d
theorem rW{G:Const→Prop}{e:Const}{k0:Bool→Bool}{k1:Int→Bool}{k2:Str→Bool}(q:zH false k0 k1 k2 e=true)(K0:∀x0,k0 x0=true→G (.bool x0))(K1:∀x0,k1 x0=true→G (.int x0))(K2:∀x0,k2 x0=true→G (.str x0)):G e:=by
 cases e with
 | bool=>exact K0 _ q
 | int=>exact K1 _ q
 | str=>exact K2 _ q
 | _=>exact ff q
noncomputable def onI(e:Const)(k:(Int)→Bool):Bool:=zH false (fun _=>false) k (fun _=>false) e
theorem wj{G:Const→Prop}(e:Const){k:(Int)→Bool}(q:onI e k=true)(K:∀a0,k a0=true→G (.int a0)):G e:=rW q (fun _ q=>ff q) K (fun _ q=>ff q)
noncomputable def onStr(e:Const)(k:(Str)→Bool):Bool:=zH false (fun _=>false) (fun _=>false) k e
theorem oJ{G:Const→Prop}(e:Const){k:(Str)→Bool}(q:onStr e k=true)(K:∀a0,k a0=true→G (.str a0)):G e:=rW q (fun _ q=>ff q) (fun _ q=>ff q) K
noncomputable def onB(e:Const)(k:(Bool)→Bool):Bool:=zH false k (fun _=>false) (fun _=>false) e
theorem Gx{G:Const→Prop}(e:Const){k:(Bool)→Bool}(q:onB e k=true)(K:∀a0,k a0=true→G (.bool a0)):G e:=rW q K (fun _ q=>ff q) (fun _ q=>ff q)
noncomputable def tag(e:Expr):Nat:=Expr.casesOn (motive_1:=fun _=>Nat) e (fun _ _ _=>0) (fun _ _ _=>1) (fun _ _ _ _=>2) (fun _ _ _=>3) (fun _ _ _ _=>4) (fun _ _ _ _=>5) (fun _ _ _=>6) (fun _ _ _=>7) (fun _ _ _ _=>8) (fun _ _ _ _=>9) (fun _ _ _ _ _=>10) (fun _ _ _ _=>11) (fun _ _=>12) (fun _ _=>13) (fun _ _=>14) (fun _ _ _ _=>15) (fun _ _ _ _=>16) (fun _ _ _ _=>17) (fun _ _=>18) (fun _ _ _=>19) (fun _ _ _=>20) (fun _ _ _=>21) (fun _ _=>22) (fun _ _=>23) (fun _ _=>24) (fun _ _ _=>25) (fun _ _ _ _=>26)
noncomputable def cH(e:Expr):Bool:=!Nat.beq (tag e) 22
noncomputable def g8(e:Expr):Bool:=!Nat.beq (tag e) 7
noncomputable def eI(e:Expr):Bool:=!Nat.beq (tag e) 26
noncomputable def rX(e:Expr):Bool:=Nat.beq (tag e) 15
end Mine
end
section
open PySem PySem.W PyProof.Rows
namespace Mine
structure au where
 a:Addr
 d:Addr
noncomputable abbrev bf(vs:Array Value)(n:Nat):Obj:={cls:=.type "tuple",data:=.seq vs n}
noncomputable abbrev aA(vs:Array Value)(n:Nat):Obj:={cls:=.type "list",data:=.seq vs n}
noncomputable abbrev CAd:=Nat→Addr
noncomputable abbrev rY:=Addr→Option Obj
structure Cx where
 prog:Program
 w:World
 ca:CAd
 fa:Nat→Addr
 mg:Str→Option Value
 mb:Str→Option Value
 B:rY
 td:Nat→AV
noncomputable def Off(ad:List au)(b:Addr):Prop:=∀c∈ad,b≠c.a∧b≠c.d
noncomputable def Cx.On(X:Cx)(h:Heap):Prop:=∀b o,X.B b=some o→h.get? b=some o
noncomputable abbrev DO(X:Cx)(h:Heap)(a:Addr)(kvs:List (Str×Value)):Prop:=h.DictOf (strKind X.prog X.w) a kvs
noncomputable abbrev IO(X:Cx)(h:Heap)(k:Nat)(a:Addr)(kvs:List (Str×Value)):Prop:=h.Inst a (X.ca k) (valueAt kvs)
section
variable (X:Cx) (ad:List au) (h:Heap)
mutual
inductive VR:AV→Value→Prop
 | none:VR .none .none
 | bool (b:Bool):VR (.bool b) (.bool b)
 | int (i:Int) (t:Tok):VR (.int i) (.int i t)
 | str (c:Nat) (t:Tok):c < nS→VR (.str c) (.str (sT c) t)
 | tup {l:List AV} {a:Addr} {vs:List Value} {n:Nat}:h.get? a=some (bf vs.toArray n)→l.length≤lim→VRs l vs→VR (.tup l) (.ref a)
 | lst {l:List AV} {a:Addr} {vs:List Value} {n:Nat}:X.B a=some (aA vs.toArray n)→l.length≤lim→VRs l vs→VR (.lst l) (.ref a)
 | dct {l:List (Nat×AV)} {a:Addr} {kvs:List (Str×Value)}:(∀h,X.On h→DO X h a kvs)→a≠sysModules→l.length≤lim→VRd l kvs→VR (.dct l) (.ref a)
 | ins {k:Nat} {l:List (Nat×AV)} {a:Addr} {kvs:List (Str×Value)}:(∀h,X.On h→IO X h k a kvs)→l.length≤lim→VRd l kvs→VR (.ins k l) (.ref a)
 | ref {i:Nat} {c:au}:ad[i]?=some c→VR (.ref i) (.ref c.a)
 | tok {i:Nat} {x:Value}:VR (X.td i) x→VR (.tok i) x
inductive VRs:List AV→List Value→Prop
 | nil:VRs [] []
 | cons {v:AV} {x:Value} {l:List AV} {xs:List Value}:VR v x→VRs l xs→VRs (v::l) (x::xs)
inductive VRd:List (Nat×AV)→List (Str×Value)→Prop
 | nil:VRd [] []
 | cons {k:Nat} {v:AV} {x:Value} {l:List (Nat×AV)} {es:List (Str×Value)}:k < nS→VR v x→VRd l es→VRd ((k,v)::l) ((sT k,x)::es)
end
inductive OR(c:au):AO→Prop
 | list {l:List AV} {vs:List Value} {n:Nat}:c.d=c.a→h.get? c.a=some (aA vs.toArray n)→l.length≤lim→VRs X ad h l vs→OR c (.list l)
 | dict {l:List (Nat×AV)} {kvs:List (Str×Value)}:c.d=c.a→DO X h c.a kvs→c.a≠sysModules→l.length≤lim→VRd X ad h l kvs→OR c (.dict l)
 | inst {k:Nat} {l:List (Nat×AV)} {kvs:List (Str×Value)}:IO X h k c.a kvs→(∀o,h.get? c.a=some o→o.dict=some c.d)→l.length≤lim→VRd X ad h l kvs→OR c (.inst k l)
structure Rep(S:aa):Prop where
 base:X.On h
 len:ad.length=S.length
 objs:∀(i:Nat) (c:au) (o:AO),ad[i]?=some c→S[i]?=some o→OR X ad h c o
 sep:∀(i j:Nat) (c e:au),i≠j→ad[i]?=some c→ad[j]?=some e→c.a≠e.a∧c.a≠e.d∧c.d≠e.a∧c.d≠e.d
 new:∀c∈ad,X.B c.a=none∧X.B c.d=none
end
theorem VR.ind{X:Cx}{ad:List au}{h:Heap}{M:AV→Value→Prop}{ML:List AV→List Value→Prop}{MD:List (Nat×AV)→List (Str×Value)→Prop}
  (h0:M .none .none)(h1:∀b,M (.bool b) (.bool b))(h2:∀i t,M (.int i) (.int i t))(h3:∀c t,c < nS→M (.str c) (.str (sT c) t))(h4:∀{l a vs n},h.get? a=some (bf (List.toArray vs) n)→l.length≤lim→ML l vs→M (.tup l) (.ref a))
  (h5:∀{l a vs n},X.B a=some (aA (List.toArray vs) n)→l.length≤lim→ML l vs→M (.lst l) (.ref a))(h6:∀{l a kvs},(∀h,X.On h→DO X h a kvs)→a≠sysModules→l.length≤lim→MD l kvs→M (.dct l) (.ref a))
  (h7:∀{k l a kvs},(∀h,X.On h→IO X h k a kvs)→l.length≤lim→MD l kvs→M (.ins k l) (.ref a))(h8:∀{i c},ad[i]?=some c→M (.ref i) (.ref c.a))(h9:∀{i x},VR X ad h (X.td i) x→M (X.td i) x→M (.tok i) x)
  (n1:ML [] [])(c1:∀{v x l xs},M v x→ML l xs→ML (v::l) (x::xs))(n2:MD [] [])(c2:∀{k v x l es},k < nS→M v x→MD l es→MD ((k,v)::l) ((sT k,x)::es)):
  (∀{v x},VR X ad h v x→M v x)∧(∀{l xs},VRs X ad h l xs→ML l xs)∧∀{l es},VRd X ad h l es→MD l es:=
 have a4:=fun {l a vs n} g q (_:VRs X ad h l vs)=>h4 (l:=l) (a:=a) (vs:=vs) (n:=n) g q
 have a5:=fun {l a vs n} g q (_:VRs X ad h l vs)=>h5 (l:=l) (a:=a) (vs:=vs) (n:=n) g q
 have a6:=fun {l a kvs} g u q (_:VRd X ad h l kvs)=>h6 (l:=l) (a:=a) (kvs:=kvs) g u q
 have a7:=fun {k l a kvs} g q (_:VRd X ad h l kvs)=>h7 (k:=k) (l:=l) (a:=a) (kvs:=kvs) g q
 have b1:=fun {v x l xs} (_:VR X ad h v x) (_:VRs X ad h l xs)=>c1 (v:=v) (x:=x) (l:=l) (xs:=xs)
 have b2:=fun {k v x l es} q (_:VR X ad h v x) (_:VRd X ad h l es)=>c2 (k:=k) (v:=v) (x:=x) (l:=l) (es:=es) q
 ⟨VR.rec (motive_1:=fun v x _=>M v x) (motive_2:=fun l xs _=>ML l xs) (motive_3:=fun l es _=>MD l es) h0 h1 h2 h3 a4 a5 a6 a7 h8 h9 n1 b1 n2 b2,
  VRs.rec (motive_1:=fun v x _=>M v x) (motive_2:=fun l xs _=>ML l xs) (motive_3:=fun l es _=>MD l es) h0 h1 h2 h3 a4 a5 a6 a7 h8 h9 n1 b1 n2 b2,
  VRd.rec (motive_1:=fun v x _=>M v x) (motive_2:=fun l xs _=>ML l xs) (motive_3:=fun l es _=>MD l es) h0 h1 h2 h3 a4 a5 a6 a7 h8 h9 n1 b1 n2 b2⟩
section
variable {X:Cx} {ad:List au} {h:Heap} {x:Value} {xs:List Value} {es:List (Str×Value)} {G:Value→Prop} {c:au}
@[elab_as_elim] theorem VR.onNone (q:VR X ad h .none x) (K:G .none):G x:=by cases q;exact K
@[elab_as_elim] theorem VR.onBool {b:Bool} (q:VR X ad h (.bool b) x) (K:G (.bool b)):G x:=by cases q;exact K
@[elab_as_elim] theorem VR.onInt {i:Int} (q:VR X ad h (.int i) x) (K:∀t,G (.int i t)):G x:=by cases q;exact K _
@[elab_as_elim] theorem VR.onStr {i:Nat} (q:VR X ad h (.str i) x) (K:∀t,i < nS→G (.str (sT i) t)):G x:=by cases q with | str _ t hl=>exact K t hl
@[elab_as_elim] theorem VR.onTup {l:List AV} (q:VR X ad h (.tup l) x) (K:∀(a:Addr) (vs:List Value) (n:Nat),h.get? a=some (bf vs.toArray n)→l.length≤lim→VRs X ad h l vs→G (.ref a)):G x:=by cases q with | tup g hl r=>exact K _ _ _ g hl r
@[elab_as_elim] theorem VR.onLst {l:List AV} (q:VR X ad h (.lst l) x) (K:∀(a:Addr) (vs:List Value) (n:Nat),X.B a=some (aA vs.toArray n)→l.length≤lim→VRs X ad h l vs→G (.ref a)):G x:=by cases q with | lst g hl r=>exact K _ _ _ g hl r
@[elab_as_elim] theorem VR.onDct {l:List (Nat×AV)} (q:VR X ad h (.dct l) x) (K:∀(a:Addr) (kvs:List (Str×Value)),(∀h,X.On h→DO X h a kvs)→a≠sysModules→l.length≤lim→VRd X ad h l kvs→G (.ref a)):G x:=by cases q with | dct d s hl r=>exact K _ _ d s hl r
@[elab_as_elim] theorem VR.onIns {k:Nat} {l:List (Nat×AV)} (q:VR X ad h (.ins k l) x) (K:∀(a:Addr) (kvs:List (Str×Value)),(∀h,X.On h→IO X h k a kvs)→l.length≤lim→VRd X ad h l kvs→G (.ref a)):G x:=by cases q with | ins d hl r=>exact K _ _ d hl r
@[elab_as_elim] theorem VR.onRef {i:Nat} (q:VR X ad h (.ref i) x) (K:∀c:au,ad[i]?=some c→G (.ref c.a)):G x:=by cases q with | ref g=>exact K _ g
theorem VR.ofTok{i:Nat}(q:VR X ad h (.tok i) x):VR X ad h (X.td i) x:=by cases q with | tok q=>exact q
@[elab_as_elim] theorem VRs.onNil {G:List Value→Prop} (q:VRs X ad h [] xs) (K:G []):G xs:=by cases q;exact K
@[elab_as_elim] theorem VRs.onCons {G:List Value→Prop} {v:AV} {l:List AV} (q:VRs X ad h (v::l) xs) (K:∀(y:Value) (ys:List Value),VR X ad h v y→VRs X ad h l ys→G (y::ys)):G xs:=by cases q with | cons a b=>exact K _ _ a b
@[elab_as_elim] theorem VRs.on1 {G:List Value→Prop} {v:AV} (q:VRs X ad h [v] xs) (K:∀y:Value,VR X ad h v y→G [y]):G xs:=q.onCons fun y _ r q=>q.onNil (G:=fun z=>G (y::z)) (K y r)
@[elab_as_elim] theorem VRs.on2 {G:List Value→Prop} {v w:AV} (q:VRs X ad h [v,w] xs) (K:∀y z:Value,VR X ad h v y→VR X ad h w z→G [y,z]):G xs:=q.onCons fun y _ r q=>q.on1 (G:=fun z=>G (y::z)) fun z=>K y z r
@[elab_as_elim] theorem VRs.on3 {G:List Value→Prop} {u v w:AV} (q:VRs X ad h [u,v,w] xs) (K:∀x y z:Value,VR X ad h u x→VR X ad h v y→VR X ad h w z→G [x,y,z]):G xs:=q.onCons fun x _ r q=>q.on2 (G:=fun z=>G (x::z)) fun y z=>K x y z r
@[elab_as_elim] theorem VRd.onNil {G:List (Str×Value)→Prop} (q:VRd X ad h [] es) (K:G []):G es:=by cases q;exact K
@[elab_as_elim] theorem VRd.onCons {G:List (Str×Value)→Prop} {k:Nat} {v:AV} {l:List (Nat×AV)} (q:VRd X ad h ((k,v)::l) es) (K:∀(y:Value) (ys:List (Str×Value)),k < nS→VR X ad h v y→VRd X ad h l ys→G ((sT k,y)::ys)):G es:=by cases q with | cons a b r=>exact K _ _ a b r
theorem OR.onList{l:List AV}{G:Prop}(q:OR X ad h c (.list l))(K:∀(vs:List Value) (n:Nat),c.d=c.a→h.get? c.a=some (aA vs.toArray n)→l.length≤lim→VRs X ad h l vs→G):G:=by cases q with | list d g hl r=>exact K _ _ d g hl r
theorem OR.onDict{l:List (Nat×AV)}{G:Prop}(q:OR X ad h c (.dict l))(K:∀(kvs:List (Str×Value)),c.d=c.a→DO X h c.a kvs→c.a≠sysModules→l.length≤lim→VRd X ad h l kvs→G):G:=by cases q with | dict d g s hl r=>exact K _ d g s hl r
theorem OR.onInst{k:Nat}{l:List (Nat×AV)}{G:Prop}(q:OR X ad h c (.inst k l))(K:∀(kvs:List (Str×Value)),IO X h k c.a kvs→(∀o,h.get? c.a=some o→o.dict=some c.d)→l.length≤lim→VRd X ad h l kvs→G):G:=by cases q with | inst d g hl r=>exact K _ d g hl r
end
noncomputable def kO(o:Obj):Prop:=∃vs n,o=bf vs n
structure ai(X:Cx)(ex:Addr→Prop)(ad:List au)(h:Heap)(ad':List au)(S':aa)(h':Heap):Prop where
 rep:Rep X ad' h' S'
 pre:∀(i:Nat) (c:au),ad[i]?=some c→ad'[i]?=some c
 le:ad.length≤ad'.length
 ext:∀b o,h.get? b=some o→Off ad b→¬ex b→h'.get? b=some o
 seq:∀b o,h.get? b=some o→Off ad b→kO o→h'.get? b=some o
 there:∀b o,h.get? b=some o→¬ex b→∃o',h'.get? b=some o'
 fresh:∀(i:Nat) (c:au),ad.length≤i→ad'[i]?=some c→(h.get? c.a=none∧h.get? c.d=none)∧¬ex c.a∧¬ex c.d
noncomputable def noX:Addr→Prop:=fun _=>False
variable {X:Cx} {ex ex':Addr→Prop} {ad ad' ad'':List au} {h h' h'':Heap} {S S' S'':aa}
theorem ae{α:Type}{l:List α}{i:Nat}{x:α}(e:l[i]?=some x):i < l.length:=by
 rcases Nat.lt_or_ge i l.length with q | q
 ·exact q
 ·rw[List.getElem?_eq_none q] at e;cases e
theorem Rep.get(R:Rep X ad h S){i:Nat}{o:AO}(e:S[i]?=some o):∃c,ad[i]?=some c∧OR X ad h c o:=by
 have hi:i < ad.length:=by rw[R.len];exact ae e
 exact⟨ad[i],List.getElem?_eq_getElem hi,R.objs i _ _ (List.getElem?_eq_getElem hi) e⟩
theorem Rep.obj(R:Rep X ad h S){i:Nat}{c:au}(e:ad[i]?=some c):∃o,S[i]?=some o∧OR X ad h c o:=by
 have hi:i < S.length:=by rw[←R.len];exact ae e
 exact⟨S[i],List.getElem?_eq_getElem hi,R.objs i _ _ e (List.getElem?_eq_getElem hi)⟩
theorem DO.there{a:Addr}{kvs:List (Str×Value)}(d:DO X h a kvs):∃o,h.get? a=some o∧o.cls=.type "dict":=let⟨o,_,_,e,q,_⟩:=d;⟨o,e,q.1⟩
theorem IO.there{k:Nat}{a:Addr}{kvs:List (Str×Value)}(d:IO X h k a kvs):∃o,h.get? a=some o∧o.cls=.ref (X.ca k):=let⟨o,e,q,_⟩:=d;⟨o,e,q⟩
theorem IO.dict{k:Nat}{a d:Addr}{kvs:List (Str×Value)}(i:IO X h k a kvs)(q:∀o,h.get? a=some o→o.dict=some d):d≠a∧h.Ns1 d (valueAt kvs):=by
 obtain⟨o,e,_,_,y⟩:=i
 rcases y with⟨y,_⟩ | ⟨d',y,z⟩
 ·rw[q o e] at y;cases y
 ·rw[q o e] at y;cases y;exact z
theorem OR.cellA{c:au}{o:AO}(r:OR X ad h c o):∃x,h.get? c.a=some x∧∀vs n,x≠bf vs n:=by
 cases r with
 | list _ g=>exact⟨_,g,fun vs n q=>by simp at q⟩
 | dict _ g=>obtain⟨o,e,q⟩:=g.there;exact⟨o,e,fun vs n z=>by subst z;simp at q⟩
 | inst g=>obtain⟨o,e,q⟩:=g.there;exact⟨o,e,fun vs n z=>by subst z;simp at q⟩
theorem OR.cellD{c:au}{o:AO}(r:OR X ad h c o):∃x,h.get? c.d=some x∧∀vs n,x≠bf vs n:=by
 cases r with
 | list q g=>exact q▸⟨_,g,fun vs n q=>by simp at q⟩
 | dict y g=>obtain⟨o,e,q⟩:=g.there;exact⟨o,y▸e,fun vs n z=>by subst z;simp at q⟩
 | inst g q=>obtain⟨_,o,es,ep,e,d,_⟩:=g.dict q;exact⟨o,e,fun vs n z=>by subst z;simp at d⟩
theorem Rep.no_tup(R:Rep X ad h S){b:Addr}{vs:Array Value}{n:Nat}(e:h.get? b=some (bf vs n)):Off ad b:=by
 intro c hc
 obtain⟨i,hi,rfl⟩:=List.getElem_of_mem hc
 obtain⟨o,_,r⟩:=R.obj (List.getElem?_eq_getElem hi)
 constructor
 ·rintro rfl
  obtain⟨x,g,q⟩:=r.cellA
  rw[e] at g;cases g;exact q _ _ rfl
 ·rintro rfl
  obtain⟨x,g,q⟩:=r.cellD
  rw[e] at g;cases g;exact q _ _ rfl
theorem ai.off(T:ai X ex ad h ad' S' h'){b:Addr}{o:Obj}(e:h.get? b=some o)(f:Off ad b):Off ad' b:=by
 intro c hc
 obtain⟨i,hi,rfl⟩:=List.getElem_of_mem hc
 rcases Nat.lt_or_ge i ad.length with q | q
 ·have:=T.pre i _ (List.getElem?_eq_getElem q)
  rw[List.getElem?_eq_getElem hi] at this
  injection this with this
  rw[this]
  exact f _ (List.getElem_mem q)
 ·have:=(T.fresh i _ q (List.getElem?_eq_getElem hi)).1
  constructor
  ·rintro rfl;rw[this.1] at e;cases e
  ·rintro rfl;rw[this.2] at e;cases e
theorem DO.at{a:Addr}{kvs:List (Str×Value)}(d:DO X h a kvs)(k:∀x,h.get? a=some x→h'.get? a=some x):DO X h' a kvs:=let⟨o,es,ep,e,r⟩:=d;⟨o,es,ep,k _ e,r⟩
theorem IO.at{k:Nat}{a d:Addr}{kvs:List (Str×Value)}(i:IO X h k a kvs)(q:∀o,h.get? a=some o→o.dict=some d)(ka:∀x,h.get? a=some x→h'.get? a=some x)(kd:∀x,h.get? d=some x→h'.get? d=some x):IO X h' k a kvs:=by
 have z:=i.dict q
 obtain⟨o,e,c,y,_⟩:=i
 exact⟨o,ka _ e,c,y,.inr ⟨d,q o e,z.1,let⟨o,es,ep,e,r⟩:=z.2;⟨o,es,ep,kd _ e,r⟩⟩⟩
section
variable (keepT:∀b vs n,h.get? b=some (bf vs n)→h'.get? b=some (bf vs n))
 (pre:∀(i:Nat) (c:au),ad[i]?=some c→ad'[i]?=some c)
include keepT pre
theorem VR.moves:(∀{v:AV} {x:Value},VR X ad h v x→VR X ad' h' v x)∧(∀{l:List AV} {xs:List Value},VRs X ad h l xs→VRs X ad' h' l xs)∧∀{l:List (Nat×AV)} {es:List (Str×Value)},VRd X ad h l es→VRd X ad' h' l es:=
 VR.ind .none .bool .int .str (fun e l r=>.tup (keepT _ _ _ e) l r) .lst .dct .ins (fun e=>.ref (pre _ _ e)) (fun _ r=>.tok r) .nil .cons .nil .cons
theorem VR.move{v:AV}{x:Value}(r:VR X ad h v x):VR X ad' h' v x:=(VR.moves keepT pre).1 r
theorem VRs.move{l:List AV}{xs:List Value}(r:VRs X ad h l xs):VRs X ad' h' l xs:=(VR.moves keepT pre).2.1 r
theorem VRd.move{l:List (Nat×AV)}{es:List (Str×Value)}(r:VRd X ad h l es):VRd X ad' h' l es:=(VR.moves keepT pre).2.2 r
theorem OR.move{c:au}{o:AO}(r:OR X ad h c o)(ka:∀x,h.get? c.a=some x→h'.get? c.a=some x)(kd:∀x,h.get? c.d=some x→h'.get? c.d=some x):OR X ad' h' c o:=by
 cases r with
 | list e g q v=>exact .list e (ka _ g) q (v.move keepT pre)
 | dict e g q u v=>exact .dict e (g.at ka) q u (v.move keepT pre)
 | inst g q u v=>exact .inst (g.at q ka kd) (fun o e=>by obtain⟨x,y,_⟩:=g.there;rw[ka _ y] at e;cases e;exact q _ y) u (v.move keepT pre)
end
theorem ai.tups(R:Rep X ad h S)(T:ai X ex ad h ad' S' h'):∀b vs n,h.get? b=some (bf vs n)→h'.get? b=some (bf vs n):=
 fun b vs n e=>T.seq b _ e (R.no_tup e) ⟨_,_,rfl⟩
theorem VR.step(R:Rep X ad h S)(T:ai X ex ad h ad' S' h'){v:AV}{x:Value}(a:VR X ad h v x):VR X ad' h' v x:=a.move (T.tups R) T.pre
theorem VRs.step(R:Rep X ad h S)(T:ai X ex ad h ad' S' h'){v:List AV}{x:List Value}(a:VRs X ad h v x):VRs X ad' h' v x:=a.move (T.tups R) T.pre
theorem ai.refl(R:Rep X ad h S):ai X ex ad h ad S h:=
 ⟨R,fun _ _ e=>e,Nat.le_refl _,fun _ _ e _ _=>e,fun _ _ e _ _=>e,fun _ o e _=>⟨o,e⟩,fun i c q e=>absurd (ae e) (Nat.not_lt.mpr q)⟩
theorem ai.trans(T:ai X ex ad h ad' S' h')(U:ai X ex ad' h' ad'' S'' h''):ai X ex ad h ad'' S'' h'':=by
 refine⟨U.rep,fun i c e=>U.pre _ _ (T.pre _ _ e),Nat.le_trans T.le U.le,fun b o e f x=>U.ext b o (T.ext b o e f x) (T.off e f) x,fun b o e f x=>U.seq b o (T.seq b o e f x) (T.off e f) x,
  fun b o e x=>(T.there b o e x).elim fun o' e'=>U.there b o' e' x,fun i c q e=>?_⟩
 rcases Nat.lt_or_ge i ad'.length with p | p
 ·have z:=U.pre i _ (List.getElem?_eq_getElem p)
  rw[e] at z
  injection z with z
  exact T.fresh i c q (by rw[z];exact List.getElem?_eq_getElem p)
 ·have z:=U.fresh i c p e
  refine⟨⟨?_,?_⟩,z.2⟩
  ·cases y:h.get? c.a with
   | none=>rfl
   | some o=>obtain⟨o',e'⟩:=T.there _ _ y z.2.1;rw[z.1.1] at e';cases e'
  ·cases y:h.get? c.d with
   | none=>rfl
   | some o=>obtain⟨o',e'⟩:=T.there _ _ y z.2.2;rw[z.1.2] at e';cases e'
theorem ai.wk(T:ai X ex ad h ad' S' h')(q:∀b,ex b→ex' b)(there:∀b,ex' b→∃o,h.get? b=some o):ai X ex' ad h ad' S' h':=
 ⟨T.rep,T.pre,T.le,fun b o e f x=>T.ext b o e f fun y=>x (q b y),T.seq,fun b o e x=>T.there b o e fun y=>x (q b y),fun i c p e=>by
  refine⟨(T.fresh i c p e).1,fun y=>?_,fun y=>?_⟩
  ·obtain⟨o,z⟩:=there _ y;rw[(T.fresh i c p e).1.1] at z;cases z
  ·obtain⟨o,z⟩:=there _ y;rw[(T.fresh i c p e).1.2] at z;cases z⟩
theorem ai.of0(T:ai X noX ad h ad' S' h')(there:∀b,ex b→∃o,h.get? b=some o):ai X ex ad h ad' S' h':=T.wk (fun _ f=>f.elim) there
theorem ai.hide(T:ai X ex ad h ad' S' h')(q:∀b,ex b→ex' b∨h.get? b=none)(p:∀b,ex' b→ex b):ai X ex' ad h ad' S' h':=
 ⟨T.rep,T.pre,T.le,fun b o e f x=>T.ext b o e f fun y=>(q b y).elim x fun z=>(by rw[z] at e;cases e),T.seq,fun b o e x=>T.there b o e fun y=>(q b y).elim x fun z=>(by rw[z] at e;cases e),
  fun i c y e=>⟨(T.fresh i c y e).1,fun z=>(T.fresh i c y e).2.1 (p _ z),fun z=>(T.fresh i c y e).2.2 (p _ z)⟩⟩
theorem VRs.length{l:List AV}{xs:List Value}(r:VRs X ad h l xs):l.length=xs.length:=by
 induction l generalizing xs with
 | nil=>cases r;rfl
 | cons v l ih=>cases r with | cons _ r=>simp[ih r]
theorem VRd.length{l:List (Nat×AV)}{xs:List (Str×Value)}(r:VRd X ad h l xs):l.length=xs.length:=by
 induction l generalizing xs with
 | nil=>cases r;rfl
 | cons v l ih=>cases r with | cons _ _ r=>simp[ih r]
theorem VRs.get{l:List AV}{xs:List Value}(r:VRs X ad h l xs){i:Nat}{v:AV}(e:l[i]?=some v):∃x,xs[i]?=some x∧VR X ad h v x:=by
 induction l generalizing xs i with
 | nil=>simp at e
 | cons u l ih=>
  cases r with
  | cons a r=>
   cases i with
   | zero=>simp at e;subst e;exact⟨_,rfl,a⟩
   | succ i=>simp at e;simpa using ih r e
theorem VRs.append{l k:List AV}{xs ys:List Value}(r:VRs X ad h l xs)(q:VRs X ad h k ys):VRs X ad h (l++k) (xs++ys):=by
 induction l generalizing xs with
 | nil=>cases r;exact q
 | cons v l ih=>cases r with | cons a r=>exact .cons a (ih r)
theorem VRs.reverse{l:List AV}{xs:List Value}(r:VRs X ad h l xs):VRs X ad h l.reverse xs.reverse:=by
 induction l generalizing xs with
 | nil=>cases r;exact .nil
 | cons v l ih=>cases r with | cons a r=>rw[List.reverse_cons,List.reverse_cons];exact(ih r).append (.cons a .nil)
theorem VRs.take{l:List AV}{xs:List Value}(r:VRs X ad h l xs)(n:Nat):VRs X ad h (l.take n) (xs.take n):=by
 induction l generalizing xs n with
 | nil=>cases r;simp;exact .nil
 | cons v l ih=>
  cases r with
  | cons a r=>cases n with
   | zero=>exact .nil
   | succ n=>exact .cons a (ih r n)
theorem VRs.drop{l:List AV}{xs:List Value}(r:VRs X ad h l xs)(n:Nat):VRs X ad h (l.drop n) (xs.drop n):=by
 induction l generalizing xs n with
 | nil=>cases r;simp;exact .nil
 | cons v l ih=>
  cases r with
  | cons a r=>cases n with
   | zero=>exact .cons a r
   | succ n=>exact ih r n
theorem VRs.setAt{l:List AV}{xs:List Value}(r:VRs X ad h l xs){i:Nat}{v:AV}{x:Value}(a:VR X ad h v x):VRs X ad h (setAt l i v) (xs.set i x):=by
 induction l generalizing xs i with
 | nil=>cases r;exact .nil
 | cons u l ih=>
  cases r with
  | cons b r=>cases i with
   | zero=>exact .cons a r
   | succ i=>exact .cons b (ih r)
theorem VRs.last{l:List AV}{xs:List Value}(r:VRs X ad h l xs){v:AV}(e:l.getLast?=some v):∃x,xs.getLast?=some x∧VR X ad h v x:=by
 rw[List.getLast?_eq_getElem?] at e
 obtain⟨x,q,y⟩:=r.get e
 exact⟨x,by rw[List.getLast?_eq_getElem?,←r.length];exact q,y⟩
theorem VRs.dropLast{l:List AV}{xs:List Value}(r:VRs X ad h l xs):VRs X ad h l.dropLast xs.dropLast:=by
 rw[List.dropLast_eq_take,List.dropLast_eq_take,←r.length];exact r.take _
theorem eg{α:Type}:∀(l:List α) (i:Nat) (v:α),(Mine.setAt l i v).length=l.length
 | [],_,_=>rfl
 | _::_,0,_=>rfl
 | _::l,i + 1,v=>congrArg (· + 1) (eg l i v)
theorem eJ{α:Type}:∀(l:List α) (i:Nat) (v:α),i < l.length→(setAt l i v)[i]?=some v
 | [],_,_,q=>absurd q (Nat.not_lt_zero _)
 | _::_,0,_,_=>rfl
 | _::l,i + 1,v,q=>by
  show(_::setAt l i v)[i + 1]?=_
  rw[List.getElem?_cons_succ];exact eJ l i v (Nat.lt_of_succ_lt_succ q)
theorem g9{α:Type}:∀(l:List α) (i j:Nat) (v:α),i≠j→(setAt l i v)[j]?=l[j]?
 | [],_,_,_,_=>rfl
 | _::_,0,0,_,q=>absurd rfl q
 | _::_,0,j + 1,_,_=>rfl
 | _::_,i + 1,0,_,_=>rfl
 | _::l,i + 1,j + 1,v,q=>by
  show(_::setAt l i v)[j + 1]?=_
  rw[List.getElem?_cons_succ,List.getElem?_cons_succ];exact g9 l i j v fun e=>q (congrArg (· + 1) e)
theorem Rep.cell_there(R:Rep X ad h S){i:Nat}{c:au}(e:ad[i]?=some c):(∃o,h.get? c.a=some o)∧∃o,h.get? c.d=some o:=by
 obtain⟨o,_,r⟩:=R.obj e
 exact⟨r.cellA.imp fun _ q=>q.1,r.cellD.imp fun _ q=>q.1⟩
theorem ai.same(R:Rep X ad h S)(keep:∀b o,h.get? b=some o→h'.get? b=some o):ai X ex ad h ad S h':=
 ⟨⟨fun b o e=>keep b o (R.base b o e),R.len,fun i c o e e'=>(R.objs i c o e e').move (fun b vs n=>keep b _) (fun _ _ q=>q) (fun x=>keep _ x) (fun x=>keep _ x),R.sep,R.new⟩,
  fun _ _ e=>e,Nat.le_refl _,fun b o e _ _=>keep b o e,fun b o e _ _=>keep b o e,fun b o e _=>⟨o,keep b o e⟩,fun i c q e=>absurd (ae e) (Nat.not_lt.mpr q)⟩
theorem ai.write(R:Rep X ad h S){L:Addr}(hL:Off ad L)(hB:X.B L=none)(hS:∀o,h.get? L=some o→¬kO o)
  (keep:∀b o,h.get? b=some o→b≠L→h'.get? b=some o)(hx:ex L):ai X ex ad h ad S h':=by
 have ks:∀b o,h.get? b=some o→kO o→h'.get? b=some o:=fun b o e s=>keep b o e fun q=>by subst q;exact hS o e s
 refine⟨⟨fun b o e=>keep b o (R.base b o e) (fun q=>by subst q;rw[hB] at e;cases e),R.len,fun i c o e e'=>(R.objs i c o e e').move (fun b vs n e=>ks b _ e ⟨_,_,rfl⟩) (fun _ _ q=>q)
   (fun x q=>keep _ x q (hL c (List.mem_of_getElem? e)).1.symm) (fun x q=>keep _ x q (hL c (List.mem_of_getElem? e)).2.symm),R.sep,R.new⟩,
  fun _ _ e=>e,Nat.le_refl _,fun b o e _ x=>keep b o e fun q=>x (q▸hx),fun b o e _ s=>ks b o e s,fun b o e x=>⟨o,keep b o e fun q=>x (q▸hx)⟩,fun i c q e=>absurd (ae e) (Nat.not_lt.mpr q)⟩
theorem b7{α:Type}{l:List α}{c:α}{i:Nat}{x:α}(e:(l++[c])[i]?=some x):l[i]?=some x∨(i=l.length∧x=c):=by
 rcases Nat.lt_trichotomy i l.length with q | q | q
 ·left;rwa [List.getElem?_append_left q] at e
 ·right;subst q;simp at e;exact⟨rfl,e.symm⟩
 ·have:=ae e;simp at this;omega
theorem eK{c:au}:∀(i:Nat) (x:au),ad[i]?=some x→(ad++[c])[i]?=some x:=fun i x e=>by rw[List.getElem?_append_left (ae e)];exact e
theorem Off.snoc{c:au}{b:Addr}(f:Off ad b)(ha:b≠c.a)(hd:b≠c.d):Off (ad++[c]) b:=fun x hx=>by
 rcases List.mem_append.mp hx with hx | hx
 ·exact f x hx
 ·simp at hx;subst hx;exact⟨ha,hd⟩
theorem ai.alloc(R:Rep X ad h S)(keep:∀b o,h.get? b=some o→h'.get? b=some o)(c:au)(ha:h.get? c.a=none)(hd:h.get? c.d=none)(o:AO)
  (r:OR X (ad++[c]) h' c o):ai X noX ad h (ad++[c]) (S++[o]) h':=by
 have pre:=eK (ad:=ad) (c:=c)
 have offs:∀b x,h.get? b=some x→Off ad b→Off (ad++[c]) b:=fun b x e f=>f.snoc (fun q=>by subst q;rw[ha] at e;cases e) (fun q=>by subst q;rw[hd] at e;cases e)
 have away:∀(i:Nat) (x:au),ad[i]?=some x→x.a≠c.a∧x.a≠c.d∧x.d≠c.a∧x.d≠c.d:=fun i x e=>by
  obtain⟨⟨o1,e1⟩,⟨o2,e2⟩⟩:=R.cell_there e
  refine⟨?_,?_,?_,?_⟩<;>intro q
  ·rw[q,ha] at e1;cases e1
  ·rw[q,hd] at e1;cases e1
  ·rw[q,ha] at e2;cases e2
  ·rw[q,hd] at e2;cases e2
 refine⟨⟨fun b x e=>keep b x (R.base b x e),by simp[R.len],fun i x y e e'=>?_,fun i j x y ne e e'=>?_,fun x hx=>?_⟩,pre,by simp,fun b x e _ _=>keep b x e,fun b x e _ _=>keep b x e,fun b x e _=>⟨x,keep b x e⟩,fun i x q e=>?_⟩
 ·rcases b7 e with e | ⟨rfl,rfl⟩
  ·rcases b7 e' with e' | ⟨q,_⟩
   ·exact(R.objs i x y e e').move (fun b vs n=>keep b _) pre (fun z=>keep _ z) (fun z=>keep _ z)
   ·have:=ae e;rw[R.len] at this;omega
  ·rcases b7 e' with e' | ⟨_,rfl⟩
   ·have:=ae e';rw[←R.len] at this;omega
   ·exact r
 ·rcases b7 e with p | ⟨p1,p2⟩<;>rcases b7 e' with q | ⟨q1,q2⟩
  ·exact R.sep i j x y ne p q
  ·rw[q2];exact away i x p
  ·rw[p2];have:=away j y q;exact⟨this.1.symm,this.2.2.1.symm,this.2.1.symm,this.2.2.2.symm⟩
  ·exact absurd (p1.trans q1.symm) ne
 ·rcases List.mem_append.mp hx with hx | hx
  ·exact R.new x hx
  ·simp at hx;subst hx
   constructor
   ·cases e:X.B x.a with
    | none=>rfl
    | some z=>rw[R.base _ _ e] at ha;cases ha
   ·cases e:X.B x.d with
    | none=>rfl
    | some z=>rw[R.base _ _ e] at hd;cases hd
 ·rcases b7 e with e | ⟨_,rfl⟩
  ·exact absurd (ae e) (Nat.not_lt.mpr q)
  ·exact⟨⟨ha,hd⟩,id,id⟩
theorem ai.set(R:Rep X ad h S){i:Nat}{c:au}{o':AO}(e:ad[i]?=some c)(keep:∀b x,h.get? b=some x→b≠c.a→b≠c.d→h'.get? b=some x)
  (there:∀b x,h.get? b=some x→∃y,h'.get? b=some y)
  (r:OR X ad h' c o'):ai X ex ad h ad (setAt S i o') h':=by
 have hi:i < S.length:=by rw[←R.len];exact ae e
 have km:∀b x,h.get? b=some x→Off ad b→h'.get? b=some x:=fun b x q f=>keep b x q (f c (List.mem_of_getElem? e)).1 (f c (List.mem_of_getElem? e)).2
 refine⟨⟨fun b x q=>keep b x (R.base b x q) (fun z=>?_) (fun z=>?_),by rw[eg,R.len],fun j x y e1 e2=>?_,R.sep,R.new⟩,fun _ _ q=>q,Nat.le_refl _,fun b x q f _=>km b x q f,fun b x q f _=>km b x q f,fun b x q _=>there b x q,
  fun j x q e=>absurd (ae e) (Nat.not_lt.mpr q)⟩
 ·subst z;rw[(R.new c (List.mem_of_getElem? e)).1] at q;cases q
 ·subst z;rw[(R.new c (List.mem_of_getElem? e)).2] at q;cases q
 ·by_cases ij:i=j
  ·subst ij
   rw[e] at e1;cases e1
   rw[eJ _ _ _ hi] at e2;cases e2
   exact r
  ·rw[g9 _ _ _ _ ij] at e2
   have s:=R.sep i j c x ij e e1
   exact(R.objs j x y e1 e2).move (fun b vs n q=>km b _ q (R.no_tup q)) (fun _ _ q=>q) (fun z q=>keep _ z q s.1.symm s.2.2.1.symm) (fun z q=>keep _ z q s.2.1.symm s.2.2.2.symm)
theorem ax(o:Obj):∀b x,h.get? b=some x→(h.push o).get? b=some x:=fun b x e=>Heap.get?_push_of_some _ e
theorem aJ:h.get? h.objs.size=none:=by
 cases e:h.get? h.objs.size with
 | none=>rfl
 | some o=>exact absurd (Heap.lt_size e) (Nat.lt_irrefl _)
theorem ai.push(R:Rep X ad h S)(o:Obj):ai X ex ad h ad S (h.push o):=ai.same R (ax o)
section
variable {c:au} (keep:∀b o,h.get? b=some o→h'.get? b=some o) (ha:h.get? c.a=none) (hd:h.get? c.d=none)
include keep ha hd
theorem VRs.grow{l:List AV}{vs:List Value}(v:VRs X ad h l vs):VRs X (ad++[c]) h' l vs:=
 v.move (fun b vs n=>keep b _) eK
theorem VRd.grow{l:List (Nat×AV)}{vs:List (Str×Value)}(v:VRd X ad h l vs):VRd X (ad++[c]) h' l vs:=
 v.move (fun b vs n=>keep b _) eK
end
theorem ai.newList(R:Rep X ad h S){l:List AV}{vs:List Value}(v:VRs X ad h l vs)(hl:l.length≤lim):
  ai X noX ad h (ad++[⟨h.objs.size,h.objs.size⟩]) (S++[.list l]) (h.push (aA vs.toArray 0)):=
 ai.alloc R (ax _) ⟨_,_⟩ aJ aJ _ (.list rfl (Heap.get?_push_size _ rfl) hl (v.grow (ax _) aJ aJ))
theorem ai.newDict(R:Rep X ad h S){l:List (Nat×AV)}{es:List (Str×Value)}{o:Obj}(v:VRd X ad h l es)(hl:l.length≤lim)(hd:DO X (h.push o) h.objs.size es)(hs:h.objs.size≠sysModules):
  ai X noX ad h (ad++[⟨h.objs.size,h.objs.size⟩]) (S++[.dict l]) (h.push o):=
 ai.alloc R (ax _) ⟨_,_⟩ aJ aJ _ (.dict rfl hd hs hl (v.grow (ax _) aJ aJ))
theorem ni{c:au}:(ad++[c])[ad.length]?=some c:=by simp
theorem dg(R:Rep X ad h S){c:au}:VR X (ad++[c]) h' (.ref S.length) (.ref c.a):=.ref (by rw[←R.len];exact ni)
theorem ai.newInst(R:Rep X ad h S){k:Nat}{x d:Addr}(m:Heap.MadeObj h h' x d (X.ca k)):ai X noX ad h (ad++[⟨x,d⟩]) (S++[.inst k []]) h':=
 ai.alloc R m.keeps ⟨x,d⟩ m.newX m.newD _ (.inst (kvs:=[]) m.inst m.dict (Nat.zero_le _) .nil)
end Mine
end
section
open PySem PySem.W PyProof.Rows
namespace Mine
variable {X:Cx} {ad ad':List au} {h h':Heap} {S S':aa}
theorem bg(R:Rep X ad h S){v:AV}{x:Value}{l:List AV}(r:VR X ad h v x)(e:bj v S=some l):
  ∃a vs n,x=.ref a∧h.get? a=some (aA vs.toArray n)∧l.length≤lim∧VRs X ad h l vs:=by
 refine zy e (fun ev=>?_) fun i ev g=>?_
 ·subst ev;exact VR.onLst (G:=fun x=>∃a vs n,x=.ref a∧h.get? a=some (aA (List.toArray vs) n)∧l.length≤lim∧VRs X ad h l vs) r fun a vs n g hl q=>⟨_,_,_,rfl,R.base _ _ g,hl,q⟩
 ·subst ev;exact VR.onRef (G:=fun x=>∃a vs n,x=.ref a∧h.get? a=some (aA (List.toArray vs) n)∧l.length≤lim∧VRs X ad h l vs) r fun c k=>(R.objs i c _ k g).onList fun _ _ _ g hl q=>⟨_,_,_,rfl,g,hl,q⟩
theorem Dx{c:Nat}(q:c < nS):sT c∈lz:=by
 unfold sT
 have:c < lz.length:=by rw[jq];exact q
 rw[List.getD_eq_getElem?_getD,List.getElem?_eq_getElem this];exact List.getElem_mem this
theorem Gy{c:Nat}(q:c < nS):PyData.strOk (sT c)=true:=by
 have h:=List.all_eq_true.mp uF _ (Dx q)
 unfold PyData.strOk
 rw[←Array.all_toList,List.all_eq_true] at *
 intro y hy
 have:=h y hy
 simp only[decide_eq_true_eq] at this ⊢
 omega
theorem Dy{c d:Nat}(hc:c < nS)(hd:d < nS):(sT c==sT d)=Nat.beq c d:=by
 by_cases e:c=d
 ·subst e;simp
 ·have:sT c≠sT d:=fun q=>e (iX hc hd q)
  rw[beq_eq_false_iff_ne.mpr this]
  exact(Bool.eq_false_iff.mpr fun q=>e (Nat.eq_of_beq_eq_true q)).symm
mutual
noncomputable def toD:Nat→aa→AV→PyData
 | 0,_,_=>.none
 | n + 1,S,a=>AV.casesOn (motive_1:=fun _=>PyData) a .none .bool .int (fun c=>.str (sT c)) (fun l=>.tuple (eU n S l)) (fun l=>.list (eU n S l)) (fun _=>.none) (fun _ _=>.none) (fun i=>bQ S[i]? (fun l=>.list (eU n S l)) .none) (fun _=>.none)
noncomputable def eU:Nat→aa→List AV→List PyData
 | 0,_,_=>[]
 | n + 1,S,l=>List.casesOn l [] fun a r=>toD n S a::eU n S r
end
theorem eh(R:Rep X ad h S){n:Nat}{v:AV}{x:Value}{G:AV→Value→PyData→Prop}(e:isD (n + 1) S v=true)(r:VR X ad h v x)(K0:G .none .none .none)(Kb:∀b,G (.bool b) (.bool b) (.bool b))(Ki:∀i t,G (.int i) (.int i t) (.int i))(Ks:∀c t,c < nS→G (.str c) (.str (sT c) t) (.str (sT c)))
  (Kt:∀{l a vs m},eT n S l=true→h.get? a=some (bf (List.toArray vs) m)→VRs X ad h l vs→G (.tup l) (.ref a) (.tuple (eU n S l)))(Kl:∀{l a vs m},eT n S l=true→h.get? a=some (aA (List.toArray vs) m)→VRs X ad h l vs→G (.lst l) (.ref a) (.list (eU n S l)))
  (Kr:∀{i l a vs m},S[i]?=some (.list l)→eT n S l=true→h.get? a=some (aA (List.toArray vs) m)→VRs X ad h l vs→G (.ref i) (.ref a) (.list (eU n S l))):G v x (toD (n + 1) S v):=by
 cases v with
 | none=>exact VR.onNone (G:=fun x=>G .none x .none) r K0
 | bool b=>exact VR.onBool (G:=fun x=>G (.bool b) x (.bool b)) r (Kb b)
 | int i=>exact VR.onInt (G:=fun x=>G (.int i) x (.int i)) r (Ki i)
 | str c=>exact VR.onStr (G:=fun x=>G (.str c) x (.str (sT c))) r fun t q=>Ks c t q
 | tup l=>exact VR.onTup (G:=fun x=>G (.tup l) x (.tuple (eU n S l))) r fun _ _ _ g _ q=>Kt e g q
 | lst l=>exact VR.onLst (G:=fun x=>G (.lst l) x (.list (eU n S l))) r fun _ _ _ g _ q=>Kl e (R.base _ _ g) q
 | ref i=>
  exact VR.onRef (G:=fun x=>G (.ref i) x (toD (n + 1) S (.ref i))) r fun c g=>c8 e nF fun l q e=>by
   show G _ _ (bQ S[i]? _ _)
   rw[q]
   exact(R.objs i c _ g q).onList fun _ _ _ g' _ q'=>Kr q e g' q'
 | _=>exact Mine.clF e
theorem hG{n:Nat}{l:List AV}{xs:List Value}{G:List AV→List Value→List PyData→Prop}(e:eT (n + 1) S l=true)(r:VRs X ad h l xs)(K0:G [] [] [])(K:∀{a l x xs},isD n S a=true→eT n S l=true→VR X ad h a x→VRs X ad h l xs→G (a::l) (x::xs) (toD n S a::eU n S l)):G l xs (eU (n + 1) S l):=by
 cases l with
 | nil=>exact VRs.onNil (G:=fun xs=>G [] xs []) r K0
 | cons a l=>exact VRs.onCons (G:=fun xs=>G (a::l) xs (toD n S a::eU n S l)) r fun _ _ ra rl=>aT e fun e1 e2=>K e1 e2 ra rl
theorem rZ(R:Rep X ad h S)(n:Nat):(∀{v:AV} {x:Value},isD n S v=true→VR X ad h v x→∃as,Reads h x (toD n S v) as)∧∀{l:List AV} {xs:List Value},eT n S l=true→VRs X ad h l xs→∃as,ReadsAll h xs (eU n S l) as:=by
 induction n with
 | zero=>exact⟨fun e=>(nomatch e),fun e=>(nomatch e)⟩
 | succ n ih=>
  exact⟨fun e r=>eh (G:=fun v x d=>∃as,Reads h x d as) R e r ⟨_,.none⟩ (fun b=>⟨_,.bool b⟩) (fun i t=>⟨_,.int i t⟩) (fun c t _=>⟨_,.str _ t⟩) (fun d g q=>(ih.2 d q).elim fun _ q=>⟨_,.tuple g rfl rfl q⟩) (fun d g q=>(ih.2 d q).elim fun _ q=>⟨_,.list g rfl rfl q⟩) fun _ d g q=>(ih.2 d q).elim fun _ q=>⟨_,.list g rfl rfl q⟩,
   fun e r=>hG (G:=fun l xs d=>∃as,ReadsAll h xs d as) e r ⟨_,.nil⟩ fun e1 e2 a b=>(ih.1 e1 a).elim fun _ p=>(ih.2 e2 b).elim fun _ q=>⟨_,.cons p q⟩⟩
theorem eL(R:Rep X ad h S){n:Nat}{v:AV}{x:Value}(e:isD n S v=true)(r:VR X ad h v x):∃as,Reads h x (toD n S v) as:=(rZ R n).1 e r
theorem r5(R:Rep X ad h S)(n:Nat):(∀{a b:AV} {x y:Value},isD n S a=true→isD n S b=true→VR X ad h a x→VR X ad h b y→PyData.eqv (toD n S a) (toD n S b)=eqA n S a b)∧
  (∀{a b:List AV} {x y:List Value},eT n S a=true→eT n S b=true→VRs X ad h a x→VRs X ad h b y→PyData.eqvAll (eU n S a) (eU n S b)=eqL n S a b):=by
 induction n with
 | zero=>exact⟨fun e=>(nomatch e),fun e=>(nomatch e)⟩
 | succ n ih=>
  refine⟨fun {a b x y} ea eb ra rb=>?_,fun {a b x y} ea eb ra rb=>?_⟩
  ·have L:∀{v l a vs m},(∀b,eqA (n + 1) S v b=ay (bj b S) (fun y=>eqL n S l y) false)→eT n S l=true→h.get? a=some (aA (List.toArray vs) m)→VRs X ad h l vs→PyData.eqv (.list (eU n S l)) (toD (n + 1) S b)=eqA (n + 1) S v b:=fun {v l a vs m} he d _ q=>by
    rw[he]
    exact eh (G:=fun b _ D=>PyData.eqv (.list (eU n S l)) D=ay (bj b S) (fun y=>eqL n S l y) false) R eb rb rfl (fun _=>rfl) (fun _ _=>rfl) (fun _ _ _=>rfl) (fun _ _ _=>rfl) (fun d' _ q'=>ih.2 d d' q q') fun {j l' _ _ _} z d' _ q'=>by
     show _=ay (bQ S[j]? some none) _ _
     rw[z];exact ih.2 d d' q q'
   exact eh (G:=fun a _ D=>PyData.eqv D (toD (n + 1) S b)=eqA (n + 1) S a b) R ea ra
    (eh (G:=fun b _ D=>PyData.eqv .none D=eqA (n + 1) S .none b) R eb rb rfl (fun _=>rfl) (fun _ _=>rfl) (fun _ _ _=>rfl) (fun _ _ _=>rfl) (fun _ _ _=>rfl) fun _ _ _ _=>rfl)
    (fun c=>eh (G:=fun b _ D=>PyData.eqv (.bool c) D=eqA (n + 1) S (.bool c) b) R eb rb rfl (fun _=>rfl) (fun _ _=>rfl) (fun _ _ _=>rfl) (fun _ _ _=>rfl) (fun _ _ _=>rfl) fun _ _ _ _=>rfl)
    (fun i _=>eh (G:=fun b _ D=>PyData.eqv (.int i) D=eqA (n + 1) S (.int i) b) R eb rb rfl (fun _=>rfl) (fun _ _=>rfl) (fun _ _ _=>rfl) (fun _ _ _=>rfl) (fun _ _ _=>rfl) fun _ _ _ _=>rfl)
    (fun c _ hc=>eh (G:=fun b _ D=>PyData.eqv (.str (sT c)) D=eqA (n + 1) S (.str c) b) R eb rb rfl (fun _=>rfl) (fun _ _=>rfl) (fun _ _ hd=>Dy hc hd) (fun _ _ _=>rfl) (fun _ _ _=>rfl) fun _ _ _ _=>rfl)
    (fun {l _ _ _} d _ q=>eh (G:=fun b _ D=>PyData.eqv (.tuple (eU n S l)) D=eqA (n + 1) S (.tup l) b) R eb rb rfl (fun _=>rfl) (fun _ _=>rfl) (fun _ _ _=>rfl) (fun d' _ q'=>ih.2 d d' q q') (fun _ _ _=>rfl) fun _ _ _ _=>rfl)
    (L fun _=>rfl) fun {i l _ _ _} z=>L fun b=>by
     show bQ S[i]? _ _=_
     rw[z];rfl
  ·exact hG (G:=fun a _ D=>PyData.eqvAll D (eU (n + 1) S b)=eqL (n + 1) S a b) ea ra (hG (G:=fun b _ D=>PyData.eqvAll [] D=eqL (n + 1) S [] b) eb rb rfl fun _ _ _ _=>rfl)
    fun {u l _ _} e1 e2 a1 a2=>hG (G:=fun b _ D=>PyData.eqvAll (toD n S u::eU n S l) D=eqL (n + 1) S (u::l) b) eb rb rfl fun f1 f2 b1 b2=>by
     show(PyData.eqv _ _&&PyData.eqvAll _ _)=(eqA n S _ _&&eqL n S _ _)
     rw[ih.1 e1 f1 a1 b1,ih.2 e2 f2 a2 b2]
theorem wl(R:Rep X ad h S)(n:Nat):(∀{v:AV} {x:Value},isD n S v=true→VR X ad h v x→(toD n S v).canLay0=true∧(toD n S v).depth≤n)∧∀{l:List AV} {xs:List Value},eT n S l=true→VRs X ad h l xs→PyData.canLayAll0 (eU n S l)=true∧PyData.depthAll (eU n S l)≤n:=by
 induction n with
 | zero=>exact⟨fun e=>(nomatch e),fun e=>(nomatch e)⟩
 | succ n ih=>
  exact⟨fun e r=>eh (G:=fun v x d=>d.canLay0=true∧d.depth≤n + 1) R e r ⟨rfl,Nat.zero_le _⟩ (fun b=>⟨rfl,Nat.zero_le _⟩) (fun i t=>⟨rfl,Nat.zero_le _⟩) (fun c t q=>⟨Gy q,Nat.zero_le _⟩) (fun d g q=>⟨(ih.2 d q).1,Nat.succ_le_succ (ih.2 d q).2⟩) (fun d g q=>⟨(ih.2 d q).1,Nat.succ_le_succ (ih.2 d q).2⟩) fun _ d g q=>⟨(ih.2 d q).1,Nat.succ_le_succ (ih.2 d q).2⟩,
   fun e r=>hG (G:=fun l xs d=>PyData.canLayAll0 d=true∧PyData.depthAll d≤n + 1) e r ⟨rfl,Nat.zero_le _⟩ fun {a l _ _} e1 e2 r1 r2=>⟨by show(PyData.canLay0 _&&PyData.canLayAll0 _)=true;rw[(ih.1 e1 r1).1,(ih.2 e2 r2).1];rfl,Nat.le_succ_of_le (Nat.max_le.mpr ⟨(ih.1 e1 r1).2,(ih.2 e2 r2).2⟩)⟩⟩
theorem eF(R:Rep X ad h S){n:Nat}{v:AV}{x:Value}(hn:n≤64)(e:isD n S v=true)(r:VR X ad h v x):PySem.SeqAt.shaped (toD n S v)=true:=by
 have:=(wl R n).1 e r
 unfold PySem.SeqAt.shaped
 simp only[this.1,Bool.true_and,decide_eq_true_eq];omega
end Mine
end
section
open PySem PySem.W PyProof.Rows
namespace Mine
structure aQ(A:Around)(n:Nat):Prop where
 depth:A.depth + 2 * n + 4≤recursionLimit
 units:A.units + 20 * n + 300≤cLine
 handled:A.handled=none
noncomputable abbrev MX(X:Cx):Model:=model X.prog X.w
noncomputable abbrev NoE:Value→Shared→Prop:=fun _ _=>False
noncomputable def Ret(X:Cx)(ad:List au)(s:Shared)(v:AV)(S':aa)(Q:Value→Shared→Prop):Prop:=
 ∀ad' h' tk x,ai X noX ad s.heap ad' S' h'→VR X ad' h' v x→Q x {s with heap:=h',toks:=tk}
variable {X:Cx} {A:Around} {n:Nat} {ad ad':List au} {h h':Heap} {S S':aa} {s:Shared} {v a b:AV} {x y:Value} {Q:Value→Shared→Prop}
theorem Ret.val(R:Rep X ad s.heap S)(K:Ret X ad s v S Q)(r:VR X ad s.heap v x)(tk:Nat):Q x {s with toks:=tk}:=K ad s.heap tk x (ai.refl R) r
theorem Ret.val'(R:Rep X ad s.heap S)(K:Ret X ad s v S Q)(r:VR X ad s.heap v x):Q x s:=K ad s.heap s.toks x (ai.refl R) r
theorem Ret.more(R:Rep X ad s.heap S)(K:Ret X ad s v S Q)(keep:∀b o,s.heap.get? b=some o→h'.get? b=some o)(r:VR X ad h' v x)(tk:Nat):Q x {s with heap:=h',toks:=tk}:=K ad h' tk x (ai.same R keep) r
theorem tH(R:Rep X ad s.heap S)(ho:aQ A n)(ra:VR X ad s.heap a x)(rb:VR X ad s.heap b y)(ea:isD eqN S a=true)(eb:isD eqN S b=true)
  (K:Q (.bool (eqA eqN S a b)) s):wpAny (MX X) A (compareOp .Eq x y) Q NoE s:=by
 obtain⟨as,qa⟩:=eL R ea ra
 obtain⟨bs,qb⟩:=eL R eb rb
 exact eq_dataH qa qb (eF R (by decide) ea ra) (eF R (by decide) eb rb) (by have:=ho.units;omega) (by rw[(r5 R eqN).1 ea eb ra rb];exact K)
theorem tJ(R:Rep X ad s.heap S)(ho:aQ A n)(ra:VR X ad s.heap a x)(rb:VR X ad s.heap b y)(ea:isD eqN S a=true)(eb:isD eqN S b=true)
  (K:Q (.bool (!eqA eqN S a b)) s):wpAny (MX X) A (compareOp .NotEq x y) Q NoE s:=by
 obtain⟨as,qa⟩:=eL R ea ra
 obtain⟨bs,qb⟩:=eL R eb rb
 exact ne_dataH qa qb (eF R (by decide) ea ra) (eF R (by decide) eb rb) (by have:=ho.units;omega) (by rw[(r5 R eqN).1 ea eb ra rb];exact K)
theorem bS{a:Addr}{vs:List Value}{n:Nat}(g:h.get? a=some (aA vs.toArray n)):h.IsList a vs.toArray:=⟨_,g,rfl,n,rfl⟩
theorem hH{a:Addr}{vs:List Value}{n:Nat}(g:h.get? a=some (bf vs.toArray n)):h.IsTuple a vs.toArray:=⟨_,g,rfl,n,rfl⟩
theorem oM(R:Rep X ad h S){l:List (Nat×AV)}(r:VR X ad h (.dct l) x):∃a kvs,x=.ref a∧DO X h a kvs∧(a==sysModules)=false∧l.length≤lim∧VRd X ad h l kvs:=
 VR.onDct (G:=fun x=>∃a kvs,x=.ref a∧DO X h a kvs∧(a==sysModules)=false∧l.length≤lim∧VRd X ad h l kvs) r fun _ _ d sm hl q=>⟨_,_,rfl,d _ R.base,beq_eq_false_iff_ne.mpr sm,hl,q⟩
theorem dR(R:Rep X ad h S){i:Nat}{l:List (Nat×AV)}(r:VR X ad h (.ref i) x)(e:S[i]?=some (.dict l)):∃c kvs,ad[i]?=some c∧x=.ref c.a∧c.d=c.a∧DO X h c.a kvs∧(c.a==sysModules)=false∧l.length≤lim∧VRd X ad h l kvs:=
 VR.onRef (G:=fun x=>∃c kvs,ad[i]?=some c∧x=.ref c.a∧c.d=c.a∧DO X h c.a kvs∧(c.a==sysModules)=false∧l.length≤lim∧VRd X ad h l kvs) r fun c g=>(R.objs i c _ g e).onDict fun _ y d sm hl q=>⟨_,_,g,rfl,y,d,beq_eq_false_iff_ne.mpr sm,hl,q⟩
theorem lB(R:Rep X ad h S)(r:VR X ad h v x)(e:rO v S=true):∃p,x=.ref p∧DO X h p []∧(p==sysModules)=false:=
 cS e nF fun i hv e=>f9 e nF fun l e1 z=>by
  rw[hv] at r
  obtain⟨c,kvs,_,rfl,_,d,sm,_,q⟩:=dR R r e1
  cases l with
  | nil=>exact VRd.onNil (G:=fun kvs=>DO X h c.a kvs→_) q (fun d=>⟨_,rfl,d,sm⟩) d
  | cons _ _=>exact nomatch z
theorem aQ.one(ho:aQ A n):A.units + 300≤cLine:=by have:=ho.units;omega
theorem Dz(R:Rep X ad s.heap S)(ho:aQ A n)(ra:VR X ad s.heap a x)(rb:VR X ad s.heap b y){r:Bool}(e:eqV S a b=some r):
  (Q (.bool r) s→wpAny (MX X) A (compareOp .Eq x y) Q NoE s)∧(Q (.bool (!r)) s→wpAny (MX X) A (compareOp .NotEq x y) Q NoE s):=by
 have hu:=ho.one
 refine aE e (fun q e=>aT q fun qa qb=>?_) fun _ e=>aE e (fun q e=>aT q fun qa qb=>?_) fun _ e=>aC e nN fun q e=>aT q fun qa qb=>?_
 ·rw[←Option.some.inj ((be _ _).symm.trans e)]
  exact⟨tH R ho ra rb qa qb,tJ R ho ra rb qa qb⟩
 ·rw[←Option.some.inj e]
  refine ah qa nF fun l e1 z=>ah qb nF fun l' e2 z'=>?_
  obtain⟨p,vs,m,rfl,g,hl,q⟩:=bg R ra e1
  obtain⟨p',vs',m',rfl,g',hl',q'⟩:=bg R rb e2
  have hs:(vs.toArray.size != vs'.toArray.size)=true:=by
   have h1:=q.length
   have h2:=q'.length
   cases l with
   | nil=>exact nomatch z
   | cons _ _=>cases l' with
    | cons _ _=>exact nomatch z'
    | nil=>rw[List.size_toArray,List.size_toArray,←h1,←h2];rfl
  exact⟨fun K=>PySem.SeqAt.eq_list_lengthsAt (bS g) (bS g') hs (by omega) K,fun K=>PySem.SeqAt.RcNeAt.lists_lengths (bS g) (bS g') hs (by omega) _ _ _ _ K⟩
 ·rw[←Option.some.inj e]
  obtain⟨p,rfl,d1,s1⟩:=lB R ra qa
  obtain⟨p',rfl,d2,s2⟩:=lB R rb qb
  exact⟨fun K=>keq_eq (r:=true) s1 s2 d1 d2 (by omega) (fun _=>.nil) K,fun K=>keq_ne (r:=true) s1 s2 d1 d2 (by omega) (fun _=>.nil) K⟩
open Classical in
noncomputable def dOf(h:Heap)(y:Value):PyData:=if q:∃d as,Reads h y d as then choose q else .none
theorem wn{y:Value}{d:PyData}{as:List Addr}(r:Reads h y d as):dOf h y=d:=by
 have q:∃d as,Reads h y d as:=⟨d,as,r⟩
 unfold dOf
 rw[dif_pos q]
 obtain⟨bs,p⟩:=Classical.choose_spec q
 exact(Reads.unique p d as r).1
theorem wp(R:Rep X ad h S)(ra:VR X ad h a x)(ea:isD eqN S a=true):∀{l:List AV} {vs:List Value},l.all (isD eqN S)=true→VRs X ad h l vs→
  (vs.any fun y=>PyData.eqv (dOf h y) (toD eqN S a))=l.any fun b=>eqA eqN S b a
 | [],_,_,q=>VRs.onNil (G:=fun vs=>(vs.any fun y=>PyData.eqv (dOf h y) (toD eqN S a))=false) q rfl
 | b::l,_,q,r=>VRs.onCons (G:=fun vs=>(vs.any fun y=>PyData.eqv (dOf h y) (toD eqN S a))=(b::l).any fun b=>eqA eqN S b a) r fun y ys rb r=>aT q fun q1 q2=>(eL R q1 rb).elim fun bs p=>by
  rw[List.any_cons,List.any_cons,wn p,(r5 R eqN).1 q1 ea rb ra,wp R ra ea q2 r]
theorem CG(R:Rep X ad s.heap S)(ho:aQ A n)(ra:VR X ad s.heap a x)(ea:isD eqN S a=true):∀{l:List AV} {vs:List Value},l.all (isD eqN S)=true→VRs X ad s.heap l vs→
  ∀y∈vs,PySem.SeqAt.EqAt A.in1 s y x (PyData.eqv (dOf s.heap y) (toD eqN S a))
 | [],_,_,q=>VRs.onNil (G:=fun vs=>∀y∈vs,PySem.SeqAt.EqAt A.in1 s y x (PyData.eqv (dOf s.heap y) (toD eqN S a))) q fun _ hy=>nomatch hy
 | b::l,_,q,r=>VRs.onCons (G:=fun vs=>∀y∈vs,PySem.SeqAt.EqAt A.in1 s y x (PyData.eqv (dOf s.heap y) (toD eqN S a))) r fun z ys rb r=>aT q fun q1 q2=>List.forall_mem_cons.mpr ⟨by
  obtain⟨as,p⟩:=eL R ea ra
  obtain⟨bs,p'⟩:=eL R q1 rb
  rw[wn p']
  exact keq_at p' p (eF R (by decide) q1 rb) (eF R (by decide) ea ra) (by have:=ho.one;show A.units + 1 + 64 < _;omega),CG R ho ra ea q2 r⟩
theorem DA(R:Rep X ad s.heap S)(ho:aQ A n)(ra:VR X ad s.heap a x){r:Bool}{l:List AV}{vs:List Value}(q:VRs X ad s.heap l vs)(e:v8 S a l=some r):
  (∀p,s.heap.IsList p vs.toArray→(Q (.bool r) s→wpAny (MX X) A (compareOp .In x (.ref p)) Q NoE s)∧(Q (.bool (!r)) s→wpAny (MX X) A (compareOp .NotIn x (.ref p)) Q NoE s))∧
  (∀p,s.heap.IsTuple p vs.toArray→(Q (.bool r) s→wpAny (MX X) A (compareOp .In x (.ref p)) Q NoE s)∧(Q (.bool (!r)) s→wpAny (MX X) A (compareOp .NotIn x (.ref p)) Q NoE s)):=
 aC e nN fun z e=>aT z fun z1 z2=>by
  have hm:∀y,y∈vs.toArray→PySem.SeqAt.EqAt A.in1 s y x (PyData.eqv (dOf s.heap y) (toD eqN S a)):=fun y hy=>CG R ho ra z1 z2 q y (List.mem_toArray.mp hy)
  have ha:vs.toArray.any (fun y=>PyData.eqv (dOf s.heap y) (toD eqN S a))=r:=by rw[←Option.some.inj ((be _ _).symm.trans e),←wp R ra z1 z2 q,←Array.any_toList]
  exact⟨fun p g=>⟨fun K=>PySem.SeqAt.in_listAt _ g hm (by rw[ha];exact K),fun K=>PySem.SeqAt.notIn_listAt _ g hm (by rw[ha];exact K)⟩,
   fun p g=>⟨fun K=>PySem.SeqAt.in_tupleAt _ g hm (by rw[ha];exact K),fun K=>PySem.SeqAt.notIn_tupleAt _ g hm (by rw[ha];exact K)⟩⟩
theorem VRd.gets{l:List (Nat×AV)}{kvs:List (Str×Value)}(r:VRd X ad h l kvs){c:Nat}(hc:c < nS):(∃v x,cx c l=some v∧valueAt kvs (sT c)=some x∧VR X ad h v x)∨(cx c l=none∧valueAt kvs (sT c)=none):=by
 induction l generalizing kvs with
 | nil=>exact VRd.onNil (G:=fun kvs=>_∨(_∧valueAt kvs (sT c)=none)) r (.inr ⟨rfl,rfl⟩)
 | cons kv l ih=>
  refine VRd.onCons (k:=kv.1) (v:=kv.2) (G:=fun kvs=>(∃v x,cx c (kv::l)=some v∧valueAt kvs (sT c)=some x∧VR X ad h v x)∨(cx c (kv::l)=none∧valueAt kvs (sT c)=none)) r fun x es hk rv r=>?_
  have hd:cx c (kv::l)=am (Nat.beq c kv.1) (some kv.2) (cx c l):=rfl
  by_cases e:c=kv.1
  ·refine .inl ⟨kv.2,x,?_,?_,rv⟩
   ·rw[hd,e,Nat.beq_refl];rfl
   ·rw[e];simp[valueAt]
  ·have e1:Nat.beq c kv.1=false:=Bool.eq_false_iff.mpr fun q=>e (Nat.eq_of_beq_eq_true q)
   have ne:sT kv.1≠sT c:=fun q=>e (iX hc hk q.symm)
   have hv:valueAt ((sT kv.1,x)::es) (sT c)=valueAt es (sT c):=by simp[valueAt,List.find?_cons,ne]
   rw[hv,hd,e1];exact ih r
theorem cU(x:Str)(t:Tok):(PySem.strKind X.prog X.w).is x (.str x t)=true:=by simp[PySem.strKind,Value.isStrOf]
theorem zI(R:Rep X ad s.heap S){c:Nat}{l:List (Nat×AV)}{p:Addr}{kvs:List (Str×Value)}(ra:VR X ad s.heap (.str c) x)(d:DO X s.heap p kvs)(sm:(p==sysModules)=false)(q:VRd X ad s.heap l kvs):
  (Q (.bool (cx c l).isSome) {s with toks:=s.toks + 1}→wpAny (MX X) A (compareOp .In x (.ref p)) Q NoE s)∧(Q (.bool (!(cx c l).isSome)) {s with toks:=s.toks + 1}→wpAny (MX X) A (compareOp .NotIn x (.ref p)) Q NoE s):=
 VR.onStr (G:=fun x=>(_→wpAny (MX X) A (compareOp .In x (.ref p)) Q NoE s)∧(_→wpAny (MX X) A (compareOp .NotIn x (.ref p)) Q NoE s)) ra fun t hc=>by
  have:(valueAt kvs (sT c)).isSome=(cx c l).isSome:=(q.gets hc).elim (fun⟨_,_,e,z,_⟩=>by rw[e,z];rfl) fun z=>by rw[z.1,z.2];rfl
  have hk:(PySem.strKind X.prog X.w).is (sT c) (.str (sT c) t)=true:=cU _ _
  exact⟨fun K=>wpAny_in_of hk sm d.mapOf (by rw[this];exact K),fun K=>wpAny_notIn_of hk sm d.mapOf (by rw[this];exact K)⟩
theorem pX{W:CmpOp→Prop}{P:Bool→Prop}{g:Bool→Bool}{op:CmpOp}{r:Bool}(hg:(op=.In∧g=fun r=>r)∨(op=.NotIn∧g=fun r=>!r))(z:(P r→W .In)∧(P (!r)→W .NotIn))(k:P (g r)):W op:=by
 rcases hg with⟨rfl,rfl⟩ | ⟨rfl,rfl⟩
 ·exact z.1 k
 ·exact z.2 k
theorem Ret.of{r:AV}{T:aa}(K:Ret X ad s v S' Q)(e:some (r,T)=some (v,S')):Ret X ad s r T Q:=by cases e;exact K
theorem Ret.bool(R:Rep X ad s.heap S)(K:Ret X ad s v S' Q){r:Bool}(e:cR r (fun b=>some (AV.bool b,S))=some (v,S')):Q (.bool r) s:=(K.of ((be _ _).symm.trans e)).val' R (.bool _)
theorem Ret.bool'(R:Rep X ad s.heap S)(K:Ret X ad s v S' Q){r:Bool}(e:cR r (fun b=>some (AV.bool b,S))=some (v,S'))(tk:Nat):Q (.bool r) {s with toks:=tk}:=(K.of ((be _ _).symm.trans e)).val R (.bool _) tk
theorem wq(R:Rep X ad s.heap S)(ho:aQ A n)(ra:VR X ad s.heap a x)(rb:VR X ad s.heap b y){g:Bool→Bool}{op:CmpOp}(hg:(op=.In∧g=fun r=>r)∨(op=.NotIn∧g=fun r=>!r))
  (e:inV a b S g=some (v,S'))(K:Ret X ad s v S' Q):wpAny (MX X) A (compareOp op x y) Q NoE s:=by
 have onL:∀{l vs p},VRs X ad s.heap l vs→(s.heap.IsList p vs.toArray∨s.heap.IsTuple p vs.toArray)→inL a l S g=some (v,S')→wpAny (MX X) A (compareOp op x (.ref p)) Q NoE s:=fun {l vs p} q gp e=>ah e nN fun r q1 e=>by
  have z:=DA (Q:=Q) R ho ra q q1
  exact gp.elim (fun g1=>pX (W:=fun op=>wpAny (MX X) A (compareOp op x (.ref p)) Q NoE s) (P:=fun r=>Q (.bool r) s) hg (z.1 p g1) (K.bool R e)) fun g1=>pX (W:=fun op=>wpAny (MX X) A (compareOp op x (.ref p)) Q NoE s) (P:=fun r=>Q (.bool r) s) hg (z.2 p g1) (K.bool R e)
 have onD:∀{l kvs p},DO X s.heap p kvs→(p==sysModules)=false→VRd X ad s.heap l kvs→inD a l S g=some (v,S')→wpAny (MX X) A (compareOp op x (.ref p)) Q NoE s:=fun {l kvs p} d sm q e=>iU e nN fun c ha e=>by
  rw[ha] at ra
  exact pX (W:=fun op=>wpAny (MX X) A (compareOp op x (.ref p)) Q NoE s) (P:=fun r=>Q (.bool r) {s with toks:=s.toks + 1}) hg (zI R ra d sm q) (K.bool' R e _)
 refine gd e (fun l hb e=>?_) fun e=>oz e (fun l hb e=>?_) fun e=>rN e (fun l hb e=>?_) fun e=>cS e nN fun i hb e=>oB e (fun l e1 e=>?_) fun e=>f9 e nN fun l e1 e=>?_<;>rw[hb] at rb
 ·exact VR.onTup (G:=fun y=>wpAny (MX X) A (compareOp op x y) Q NoE s) rb fun _ _ _ gb _ rs=>onL rs (.inr (hH gb)) e
 ·exact VR.onLst (G:=fun y=>wpAny (MX X) A (compareOp op x y) Q NoE s) rb fun _ _ _ gb _ rs=>onL rs (.inl (bS (R.base _ _ gb))) e
 ·obtain⟨p,kvs,rfl,d,sm,hl,q⟩:=oM R rb
  exact onD d sm q e
 ·exact VR.onRef (G:=fun y=>wpAny (MX X) A (compareOp op x y) Q NoE s) rb fun c k=>(R.objs i c _ k e1).onList fun _ _ _ gb _ rs=>onL rs (.inl (bS gb)) e
 ·obtain⟨c,kvs,_,rfl,_,d,sm,hl,q⟩:=dR R rb e1
  exact onD d sm q e
noncomputable def dG(X:Cx)(t:AV→AV→Option Bool):Prop:=∀a b r,t a b=some r→∀(ad:List au) (h:Heap) (S:aa) (x y:Value),Rep X ad h S→VR X ad h a x→VR X ad h b y→
 ∃a' b',(isD eqN S a'=true∧isD eqN S b'=true)∧VR X ad h a' x∧VR X ad h b' y∧eqA eqN S a' b'=r
theorem tK{t:AV→AV→Option Bool}(E:dG X t)(R:Rep X ad s.heap S)(ho:aQ A n)(ra:VR X ad s.heap a x)(rb:VR X ad s.heap b y){r:Bool}(e:eqT t S a b=some r):
  (Q (.bool r) s→wpAny (MX X) A (compareOp .Eq x y) Q NoE s)∧(Q (.bool (!r)) s→wpAny (MX X) A (compareOp .NotEq x y) Q NoE s):=by
 refine c9 e (fun u q e=>?_) fun _ e=>?_
 ·rw[←Option.some.inj e];exact Dz R ho ra rb q
 ·obtain⟨a',b',q,ra',rb',rfl⟩:=E _ _ _ e ad s.heap S x y R ra rb
  exact⟨tH R ho ra' rb' q.1 q.2,tJ R ho ra' rb' q.1 q.2⟩
noncomputable def tL:COp→CmpOp
 | .eq=>.Eq | .ne=>.NotEq | .lt=>.Lt | .le=>.LtE | .gt=>.Gt | .ge=>.GtE | .isNone=>.Is | .isNotNone=>.IsNot | .isNot=>.IsNot | .inn=>.In | .notIn=>.NotIn
theorem VR.nn(r:VR X ad h v x)(q1:Cs v=false)(q2:Gd v=false):(x==Value.none)=false∧PySem.plainIs x .none=true:=by
 cases r<;>first | exact Mine.clT q1 | exact Mine.clT q2 | simp[PySem.plainIs]
theorem kY(R:Rep X ad s.heap S){op:CmpOp}{f:Int→Int→Bool}(H:∀i j t u,Q (.bool (f i j)) s→wpAny (MX X) A (compareOp op (.int i t) (.int j u)) Q NoE s)(ra:VR X ad s.heap a x)(rb:VR X ad s.heap b y)(e:v9 a b S f=some (v,S'))(K:Ret X ad s v S' Q):
  wpAny (MX X) A (compareOp op x y) Q NoE s:=
 ft e nN fun i ha e=>ft e nN fun j hb e=>by
  rw[ha] at ra;rw[hb] at rb
  exact VR.onInt (G:=fun x=>wpAny (MX X) A (compareOp op x y) Q NoE s) ra fun t=>VR.onInt (G:=fun y=>wpAny (MX X) A (compareOp op (.int i t) y) Q NoE s) rb fun u=>H i j t u (K.bool R e)
theorem nq(R:Rep X ad s.heap S){op:CmpOp}{f:Bool→Bool}(H:∀x,PySem.plainIs x .none=true→Q (.bool (f (x==.none))) s→wpAny (MX X) A (compareOp op x .none) Q NoE s)(ra:VR X ad s.heap a x)(rb:VR X ad s.heap b y)(e:isNone a b S (f true) (f false)=some (v,S'))(K:Ret X ad s v S' Q):
  wpAny (MX X) A (compareOp op x y) Q NoE s:=
 tw e nN fun hb e=>aE e (fun _ e=>nomatch e) fun q1 e=>by
  rw[hb] at rb
  refine VR.onNone (G:=fun y=>wpAny (MX X) A (compareOp op x y) Q NoE s) rb (aE e (fun q2 e=>?_) fun q2 e=>?_)
  ·exact jk (G:=fun a=>VR X ad s.heap a x→wpAny (MX X) A (compareOp op x .none) Q NoE s) q2 nF (fun _ ra=>VR.onNone (G:=fun x=>wpAny (MX X) A (compareOp op x .none) Q NoE s) ra (H .none rfl ((K.of e).val' R (.bool _)))) ra
  ·have z:=ra.nn q1 q2
   exact H x z.2 (by rw[z.1];exact(K.of e).val' R (.bool _))
theorem tM{t:AV→AV→Option Bool}(E:dG X t)(R:Rep X ad s.heap S)(ho:aQ A n)(op:COp)(ra:VR X ad s.heap a x)(rb:VR X ad s.heap b y)(e:iE t op a b S=some (v,S'))(K:Ret X ad s v S' Q):
  wpAny (MX X) A (compareOp (tL op) x y) Q NoE s:=by
 cases op with
 | eq=>exact ah e nN fun r q e=>(tK E R ho ra rb q).1 ((K.of e).val' R (.bool _))
 | ne=>exact ah e nN fun r q e=>(tK E R ho ra rb q).2 (K.bool R e)
 | lt=>exact kY R (fun _ _ _ _=>PySem.P.lt_int) ra rb e K
 | le=>exact kY R (fun _ _ _ _=>PySem.P.le_int) ra rb e K
 | gt=>exact kY R (fun _ _ _ _=>PySem.P.gt_int) ra rb e K
 | ge=>exact kY R (fun _ _ _ _=>PySem.P.ge_int) ra rb e K
 | isNone=>exact nq (f:=fun b=>b) R (fun _=>wpAny_is_plain) ra rb e K
 | isNotNone=>exact nq (f:=fun b=>!b) R (fun _=>wpAny_isNot_plain) ra rb e K
 | isNot=>
  refine cS e nN fun i ha e=>cS e nN fun j hb e=>?_
  rw[ha] at ra;rw[hb] at rb
  refine VR.onRef (G:=fun x=>wpAny (MX X) A (compareOp .IsNot x y) Q NoE s) ra fun c ga=>VR.onRef (G:=fun y=>wpAny (MX X) A (compareOp .IsNot (.ref c.a) y) Q NoE s) rb fun d gb=>?_
  by_cases q:i=j
  ·rw[q] at ga
   rw[Option.some.inj (ga.symm.trans gb)]
   rw[q,Nat.beq_refl] at e
   exact wpAny_isNot_ref_self (K.bool R e)
  ·obtain⟨o,_,r⟩:=R.obj ga
   obtain⟨o',_,r'⟩:=R.obj gb
   obtain⟨ox,hx,nx⟩:=r.cellA
   obtain⟨oy,hy,_⟩:=r'.cellA
   have:Nat.beq i j=false:=Bool.eq_false_iff.mpr fun z=>q (Nat.eq_of_beq_eq_true z)
   rw[this] at e
   refine wpAny_isNot_ref_other (R.sep i j c d q ga gb).1 hx hy ?_ (K.bool R e)
   cases r with
   | list _ g=>rw[Option.some.inj (hx.symm.trans g)];simp
   | dict _ g=>obtain⟨o,g,z⟩:=g.there;rw[Option.some.inj (hx.symm.trans g),z];simp
   | inst g=>obtain⟨o,g,z⟩:=g.there;rw[Option.some.inj (hx.symm.trans g),z];simp
 | inn=>exact wq R ho ra rb (.inl ⟨rfl,rfl⟩) e K
 | notIn=>exact wq R ho ra rb (.inr ⟨rfl,rfl⟩) e K
end Mine
end
section
open PySem PySem.W PyProof.Rows
namespace Mine
variable {X:Cx} {A:Around} {n:Nat} {ad ad':List au} {h h':Heap} {S S':aa} {s:Shared} {v a b:AV} {x y:Value} {Q:Value→Shared→Prop}
theorem dh{e:Expr}(q:eI e=true)(o i:Value):subscripted e false o i=operate [o,i] (getItem o i):=by
 cases e<;>first | rfl | exact Mine.clF q
theorem hJ{value slice:Expr}{o i:Value}{T id:String}(ns:∀o i,∃vs,subscripted slice false o i=operate vs (getItem o i))(hT:s.TypeIs o T)
  (hl:typeLookup (.type T) "__getitem__"=pure (some (.builtin id)))(K:wpAny (MX X) A (getItem o i) Q NoE s):wpAny (MX X) A (subscriptTail value slice o i) Q NoE s:=by
 unfold subscriptTail
 refine wpAny_bind ?_
 rw[getitemInPython_of_ne hT.not_modules]
 refine wpAny_bind (wpAny_specialOf hT hl ?_)
 obtain⟨vs,e⟩:=ns o i
 have fin:wpAny (MX X) A (subscripted slice false o i) (fun r s₃=>wpAny (MX X) A (letTemporaryGo value o r >>= fun _=>pure r) Q NoE s₃) NoE s:=by
  rw[e]
  exact wpAny_operateT (wpAny_mono K (fun r s₃ h₃=>wpAny_bind (wpAny_letTemporaryGo (wpAny_pure h₃))) fun _ _ x=>x)
 first
  | exact wpAny_pure (wpAny_bind fin)
  | exact wpAny_bind (wpAny_pure (wpAny_bind fin))
  | exact wpAny_bind fin
theorem jL{l:List AV}{i:Int}(e:jI l i=some v):0≤i∧l[i.toNat]?=some v:=aC e nN fun q e=>⟨of_decide_eq_true q,e⟩
theorem wr{l:List AV}{i:Int}(hl:l.length≤lim)(e:jI l i=some v):i < 2 ^ 63:=by
 have h1:=Nat.lt_of_lt_of_le (ae (jL e).2) hl
 clear e hl
 have:lim=1000:=rfl
 omega
theorem uG(R:Rep X ad s.heap S){l:List AV}{p:Addr}{vs:List Value}{m:Nat}{i:Int}{t:Tok}{value slice:Expr}(ns:eI slice=true)(g:s.heap.get? p=some (aA vs.toArray m))(hl:l.length≤lim)(q:VRs X ad s.heap l vs)
  (e:jI l i=some v)(K:Ret X ad s v S Q):wpAny (MX X) A (subscriptTail value slice (.ref p) (.int i t)) Q NoE s:=by
 obtain⟨h0,e'⟩:=jL e
 obtain⟨x,hx,rx⟩:=q.get e'
 exact hJ (fun o i=>⟨_,dh ns o i⟩) (bS g).typeIs list_getitem_lookup (wpAny_getItem_list (bS g) h0 (wr hl e) (by simpa using hx) (K.val' R rx))
theorem zJ{i:Int}{vs:List Value}(h0:0≤i)(hlt:i.toNat < vs.length):seqIndex? i vs.toArray.size=some i.toNat:=by
 unfold seqIndex?
 have hn:¬i < 0:=by omega
 have hm:(decide (0≤i)&&decide (i < (vs.toArray.size:Int)))=true:=by
  simp only[List.size_toArray,Bool.and_eq_true,decide_eq_true_eq];omega
 simp only[if_neg hn]
 rw[if_pos hm]
theorem wt(R:Rep X ad s.heap S){l:List AV}{p:Addr}{vs:List Value}{m:Nat}{i:Int}{t:Tok}{value slice:Expr}(ns:eI slice=true)(g:s.heap.get? p=some (bf vs.toArray m))(hl:l.length≤lim)(q:VRs X ad s.heap l vs)
  (e:jI l i=some v)(K:Ret X ad s v S Q):wpAny (MX X) A (subscriptTail value slice (.ref p) (.int i t)) Q NoE s:=by
 obtain⟨h0,e'⟩:=jL e
 obtain⟨x,hx,rx⟩:=q.get e'
 have hT:IsTup s.heap p vs.toArray:=⟨_,g,rfl,m,rfl⟩
 refine hJ (fun o i=>⟨_,dh ns o i⟩) hT.typeIs slot_tuple_getitem.lookup (PyProof.Rows.getItem_tuple hT (j:=i.toNat) (Int.le_trans (by decide) h0) (wr hl e) ?_ (by simpa using hx) (K.val' R rx))
 exact zJ h0 (ae hx)
theorem nr(R:Rep X ad s.heap S){l:List (Nat×AV)}{p:Addr}{kvs:List (Str×Value)}{c:Nat}{value slice:Expr}(ns:eI slice=true)(ra:VR X ad s.heap (.str c) x)(d:DO X s.heap p kvs)(q:VRd X ad s.heap l kvs)
  (e:cx c l=some v)(K:Ret X ad s v S Q):wpAny (MX X) A (subscriptTail value slice (.ref p) x) Q NoE s:=by
 refine VR.onStr (G:=fun x=>wpAny (MX X) A (subscriptTail value slice (.ref p) x) Q NoE s) ra fun t hc=>(q.gets hc).elim (fun⟨u,y,e',hy,ry⟩=>?_) fun z=>nomatch e.symm.trans z.1
 rw[Option.some.inj (e'.symm.trans e)] at ry
 exact hJ (fun o i=>⟨_,dh ns o i⟩) d.typeIs slot_dict_getitem.lookup (wpAny_getItem_of (cU _ _) d.mapOf hy (K.val R ry _))
theorem zK(R:Rep X ad s.heap S){value slice:Expr}(ns:eI slice=true)(ra:VR X ad s.heap a x)(rb:VR X ad s.heap b y)(e:rS a b S=some (v,S'))(K:Ret X ad s v S' Q):
  wpAny (MX X) A (subscriptTail value slice x y) Q NoE s:=by
 refine v6 e (fun i hb e=>?_) fun e=>iU e nN fun c hb e=>?_<;>rw[hb] at rb
 ·refine VR.onInt (G:=fun y=>wpAny (MX X) A (subscriptTail value slice x y) Q NoE s) rb fun t=>gd e (fun l ha e=>ah e nN fun u q e=>?_) fun e=>ah e nN fun l e1 e=>ah e nN fun u q e=>?_
  ·rw[ha] at ra
   exact VR.onTup (G:=fun x=>wpAny (MX X) A (subscriptTail value slice x (.int i t)) Q NoE s) ra fun _ _ _ g hl rs=>wt R ns g hl rs q (K.of e)
  ·obtain⟨p,vs,m,rfl,g',hl,rs⟩:=bg R ra e1
   exact uG R ns g' hl rs q (K.of e)
 ·refine rN e (fun l ha e=>ah e nN fun u q e=>?_) fun e=>cS e nN fun j ha e=>f9 e nN fun l e1 e=>ah e nN fun u q e=>?_<;>rw[ha] at ra
  ·obtain⟨p,kvs,rfl,d,sm,hl,rd⟩:=oM R ra
   exact nr R ns rb d rd q (K.of e)
  ·obtain⟨c,kvs,_,rfl,_,d,sm,hl,rd⟩:=dR R ra e1
   exact nr R ns rb d rd q (K.of e)
theorem lC{l:List AV}:newList l S=some (.ref S.length,S++[.list l]):=by simp[newList,gg]
theorem lD(R:Rep X ad s.heap S){l:List AV}{vs:List Value}(hl:l.length≤lim)(q:VRs X ad s.heap l vs)(e:newList l S=some (v,S'))(K:Ret X ad s v S' Q)(tk:Nat):
  Q (.ref s.heap.objs.size) {s with heap:=s.heap.push (aA vs.toArray 0),toks:=tk}:=by
 exact K.of (lC.symm.trans e) _ _ tk _ (ai.newList R q hl) (dg R)
theorem zL{x y:Int}(h:lx x=true):IntMulOk x y:=by
 have hb:big=18446744073709551616:=rfl
 refine aT h fun h1 h2=>IntMulOk.of_left (PySem.intBits_le_64 ?_ ?_)
 ·have h1:=of_decide_eq_true h1;omega
 ·have h2:=of_decide_eq_true h2;omega
noncomputable def nw:BOp→Operator
 | .add=>.Add | .sub=>.Sub | .mul=>.Mult | .fdiv=>.FloorDiv | .mod=>.Mod
theorem wu{t b:Addr}{vs ws:List Value}{m k:Nat}(g:s.heap.get? t=some (bf vs.toArray m))(g':s.heap.get? b=some (bf ws.toArray k))(hs:vs.length + ws.length≤sizeLine)
  (h0:vs=[]→Q (.ref b) s)(h1:vs≠[]→ws=[]→Q (.ref t) s)(h2:Q (.ref s.heap.objs.size) {s with heap:=s.heap.push (bf (vs++ws).toArray 0)}):
  wpAny (MX X) A (binaryOp .Add (.ref t) (.ref b)) Q NoE s:=by
 by_cases hv:vs=[]
 ·exact concat_meets ⟨_,g,rfl⟩ ⟨_,g',rfl⟩ noFill_tuple_add seq_tuple_add PySem.F.slot_tuple_add PySem.F.entry_tuple_add (PySem.F.args_tuple_add_2 _ _)
   (tuple_addW0 t b vs.toArray ws.toArray m k none none #[] #[] (by simp[hv])) ⟨g,g',h0 hv⟩
 ·by_cases hw:ws=[]
  ·exact concat_meets ⟨_,g,rfl⟩ ⟨_,g',rfl⟩ noFill_tuple_add seq_tuple_add PySem.F.slot_tuple_add PySem.F.entry_tuple_add (PySem.F.args_tuple_add_2 _ _)
    (tuple_addW1 t b vs.toArray ws.toArray m k none none #[] #[] (by simpa using hv) (by simp[hw])) ⟨g,g',h1 hv hw⟩
  ·refine concat_meets ⟨_,g,rfl⟩ ⟨_,g',rfl⟩ noFill_tuple_add seq_tuple_add PySem.F.slot_tuple_add PySem.F.entry_tuple_add (PySem.F.args_tuple_add_2 _ _)
    (tuple_addW2 t b vs.toArray ws.toArray m k none none #[] #[] (by simpa using hv) (by simpa using hw) (by simpa using hs)) ⟨g,g',?_⟩
   have e:vs.toArray++ws.toArray=(vs++ws).toArray:=by simp
   rw[e];exact h2
theorem few{a b:Nat}(h:Nat.ble (a + b) lim=true):a + b≤sizeLine:=Nat.le_trans (Nat.le_of_ble_eq_true h) (by decide)
theorem zM{c:Nat}(z:((sT c).length==0)=true):sT c=⟨⟨[]⟩⟩:=by
 have z:(sT c).cps.size=0:=by simpa [Str.length] using z
 have:=Array.eq_empty_of_size_eq_zero z
 cases hh:sT c;rw[hh] at this;simp only at this;rw[this]
theorem Ret.int(R:Rep X ad s.heap S)(K:Ret X ad s v S' Q){i:Int}(e:bA i (fun i=>some (AV.int i,S))=some (v,S'))(tk:Nat)(t:Tok):Q (.int i t) {s with toks:=tk}:=(K.of ((aO _ _).symm.trans e)).val R (.int _ _) tk
theorem zN(R:Rep X ad s.heap S)(ra:VR X ad s.heap a x)(rb:VR X ad s.heap b y){emp:Nat}(he:emp < nS)(hemp:sT emp=⟨⟨[]⟩⟩)(e:Gf emp a b S=some (v,S'))(K:Ret X ad s v S' Q):
  wpAny (MX X) A (binaryOp .Add x y) Q NoE s:=by
 refine v6 e (fun i ha e=>ft e nN fun j hb e=>?_) fun e=>gd e (fun l ha e=>lu e nN fun l' hb e=>aC e nN fun q e=>?_) fun e=>Dk e (fun c ha e=>iU e nN fun d hb e=>aC e nN fun q e=>?_) fun e=>ah e nN fun u e1 e=>ah e nN fun w e2 e=>aC e nN fun q e=>?_
 ·rw[ha] at ra;rw[hb] at rb
  exact VR.onInt (G:=fun x=>wpAny (MX X) A (binaryOp .Add x y) Q NoE s) ra fun t=>VR.onInt (G:=fun y=>wpAny (MX X) A (binaryOp .Add (.int i t) y) Q NoE s) rb fun u=>PySem.P.add_int (K.int R e _ _)
 ·rw[ha] at ra;rw[hb] at rb
  refine VR.onTup (G:=fun x=>wpAny (MX X) A (binaryOp .Add x y) Q NoE s) ra fun p vs m g hl rs=>VR.onTup (G:=fun y=>wpAny (MX X) A (binaryOp .Add (.ref p) y) Q NoE s) rb fun p' ws m' g' hl' rs'=>?_
  have K:=K.of ((aB _ _).symm.trans e)
  rw[List.length_append] at q
  refine wu g g' (by rw[←rs.length,←rs'.length];exact few q) (fun z=>?_) (fun _ z=>?_) ?_
  ·rw[z] at rs
   cases l with
   | nil=>exact K.val' R (.tup g' hl' rs')
   | cons _ _=>exact nomatch rs.length
  ·rw[z] at rs'
   cases l' with
   | nil=>rw[List.append_nil] at K;exact K.val' R (.tup g hl rs)
   | cons _ _=>exact nomatch rs'.length
  ·exact K.more R (ax _) (.tup (Heap.get?_push_size _ rfl) (by rw[List.length_append];exact Nat.le_of_ble_eq_true q) ((rs.append rs').move (fun b vs n=>ax _ b _) (fun _ _ q=>q))) s.toks
 ·rw[ha] at ra;rw[hb] at rb
  rw[Nat.eq_of_beq_eq_true q] at rb
  refine VR.onStr (G:=fun x=>wpAny (MX X) A (binaryOp .Add x y) Q NoE s) ra fun t hc=>VR.onStr (G:=fun y=>wpAny (MX X) A (binaryOp .Add (.str (sT c) t) y) Q NoE s) rb fun u hd=>PySem.P.add_str ?_
  by_cases z:((sT c).length==0)=true
  ·rw[if_pos z,←(iX hc hd ((zM z).trans hemp.symm):c=emp)]
   exact(K.of e).val' R (.str _ _ hc)
  ·rw[if_neg z,if_pos (by rw[hemp];rfl)]
   exact(K.of e).val' R (.str _ _ hc)
 ·obtain⟨p,vs,m,rfl,g,hl,rs⟩:=bg R ra e1
  obtain⟨p',ws,k,rfl,g',hl',rs'⟩:=bg R rb e2
  have hz:=Nat.le_of_ble_eq_true q
  rw[List.length_append] at q
  refine PySem.P.add_list g g' ?_ (by rw[List.size_toArray,List.size_toArray,←rs.length,←rs'.length];exact few q)
  rw[show vs.toArray++ws.toArray=(vs++ws).toArray by simp]
  exact lD R hz (rs.append rs') e K s.toks
theorem zO(R:Rep X ad s.heap S){op:BOp}{i j:Int}{t u:Tok}(e:Gg op i j S=some (v,S'))(K:Ret X ad s v S' Q):wpAny (MX X) A (binaryOp (nw op) (.int i t) (.int j u)) Q NoE s:=by
 cases op with
 | add=>exact nomatch e
 | sub=>exact PySem.P.sub_int (K.int R e _ _)
 | mul=>exact aC e nN fun q e=>aT q fun q1 q2=>PySem.P.mul_int (K.int R e _ _) (zL q1)
 | fdiv=>
  refine aC e nN fun q e=>aT q fun q1 q2=>?_
  have q1:=of_decide_eq_true q1
  have q2:=of_decide_eq_true q2
  exact floordiv_int (Int.ne_of_gt q1) (K.int R e _ _) (.inl (PyProof.noPylong_small (by omega)))
 | mod=>exact aC e nN fun q e=>PyProof.Rows.mod_int' (Int.ne_of_gt (of_decide_eq_true q)) (K.int R e _ _)
theorem zP(R:Rep X ad s.heap S)(op:BOp)(ra:VR X ad s.heap a x)(rb:VR X ad s.heap b y){emp:Nat}(he:emp < nS)(hemp:sT emp=⟨⟨[]⟩⟩)(e:pV emp op a b S=some (v,S'))(K:Ret X ad s v S' Q):
  wpAny (MX X) A (binaryOp (nw op) x y) Q NoE s:=by
 refine aE e (fun q e=>?_) fun q e=>ft e nN fun i ha e=>ft e nN fun j hb e=>?_
 ·cases op with
  | add=>exact zN R ra rb he hemp e K
  | _=>exact nomatch q
 ·rw[ha] at ra;rw[hb] at rb
  exact VR.onInt (G:=fun x=>wpAny (MX X) A (binaryOp (nw op) x y) Q NoE s) ra fun t=>VR.onInt (G:=fun y=>wpAny (MX X) A (binaryOp (nw op) (.int i t) y) Q NoE s) rb fun u=>zO R e K
end Mine
end
section
open PySem PySem.W PyProof.Rows
namespace Mine
variable {X:Cx} {A:Around} {n:Nat} {ex:Addr→Prop} {ad ad':List au} {h h':Heap} {S S':aa} {s:Shared} {v a b:AV} {x y b':Value} {Q:Value→Shared→Prop}
theorem bU{S:aa}{i:Nat}{o:AO}{β:Type}{k:aa→β}:fz S i o k=k (setAt S i o):=aB _ _
theorem Off.ne{c:au}{p:Addr}(f:Off ad p){i:Nat}(e:ad[i]?=some c):p≠c.a∧p≠c.d:=f c (List.mem_of_getElem? e)
theorem fO(R:Rep X ad h S){i:Nat}{l:List AV}(r:VR X ad h (.ref i) x)(e:S[i]?=some (.list l)):
  ∃c vs m,ad[i]?=some c∧x=.ref c.a∧c.d=c.a∧h.get? c.a=some (aA vs.toArray m)∧l.length≤lim∧VRs X ad h l vs:=
 VR.onRef (G:=fun x=>∃c vs m,ad[i]?=some c∧x=.ref c.a∧c.d=c.a∧h.get? c.a=some (aA (List.toArray vs) m)∧l.length≤lim∧VRs X ad h l vs) r fun c g=>(R.objs i c _ g e).onList fun _ _ y d hl q=>⟨_,_,_,g,rfl,y,d,hl,q⟩
theorem lE{a b:Nat}(e:a=b)(h:a≤lim):b≤sizeLine:=e▸Nat.le_trans h (by decide)
theorem ai.turn(R:Rep X ad h S){i:Nat}{c:au}{l':List AV}{vs vs':List Value}{m:Nat}(e:ad[i]?=some c)(cd:c.d=c.a)(g:h.get? c.a=some (aA vs.toArray m))(f:Array Value→Array Value)
  (hf:f vs.toArray=vs'.toArray)(r:VRs X ad h l' vs')(hl:l'.length≤lim):ai X ex ad h ad (setAt S i (.list l')) (h.update c.a (Obj.mapSeq f)):=by
 have u:=PySem.IsL.update (l:=c.a) (items:=vs.toArray) (n:=m) g f
 rw[hf] at u
 have sb:=Heap.SameBut.update h c.a (Obj.mapSeq f)
 have keep:∀b x,h.get? b=some x→b≠c.a→(h.update c.a (Obj.mapSeq f)).get? b=some x:=fun b x q z=>(sb.2 b z).trans q
 refine ai.set R e (fun b x q z _=>keep b x q z) (fun b x q=>?_) (.list cd u hl ?_)
 ·by_cases z:b=c.a
  ·subst z;exact⟨_,u⟩
  ·exact⟨x,keep b x q z⟩
 ·exact r.move (fun b vs n q=>keep b _ q ((R.no_tup q).ne e).1) (fun _ _ q=>q)
theorem zQ{vs:List Value}{y:Value}(e:vs.getLast?=some y):vs.toArray[vs.toArray.size - 1]?=some y:=by
 rw[List.getLast?_eq_getElem?] at e;simpa using e
theorem r7(vs:List Value):vs.toArray.eraseIdxIfInBounds (vs.toArray.size - 1)=vs.dropLast.toArray:=by
 by_cases h:vs=[]
 ·subst h;rfl
 ·have hl:0 < vs.length:=List.length_pos_iff.mpr h
  unfold Array.eraseIdxIfInBounds
  rw[dif_pos (by simp;omega)]
  apply Array.toList_inj.mp
  rw[Array.toList_eraseIdx]
  simp only[List.size_toArray]
  have e:=List.dropLast_concat_getLast h
  have hn:vs.dropLast.length=vs.length - 1:=List.length_dropLast ..
  rw[←hn]
  generalize vs.getLast h=z at e
  generalize vs.dropLast=u at e
  subst e
  rw[List.eraseIdx_append_of_length_le (Nat.le_refl _)]
  simp
theorem DB(R:Rep X ad s.heap S){i:Nat}{l:List AV}(r:VR X ad s.heap (.ref i) x)(e:S[i]?=some (.list l))(hv:l.getLast?=some v)
  (K:Ret X ad s v (setAt S i (.list l.dropLast)) Q):wpAny (MX X) A (call (.builtin "list.pop") [x]) Q NoE s:=by
 obtain⟨c,vs,m,e1,rfl,cd,g,hl,q⟩:=fO R r e
 obtain⟨y,hy,ry⟩:=q.last hv
 have T:ai X noX ad s.heap ad (setAt S i (.list l.dropLast)) (s.heap.update c.a (Obj.mapSeq fun xs=>xs.eraseIdxIfInBounds (vs.toArray.size - 1))):=
  ai.turn R e1 cd g _ (r7 vs) q.dropLast (by rw[List.length_dropLast];exact Nat.le_trans (Nat.sub_le _ _) hl)
 exact call_meets PySem.F.slot_list_pop ⟨_,g,rfl⟩ PySem.F.entry_list_pop (PySem.F.args_list_pop_1 _) (PySem.MeetsSeq.list_pop_last c.a _ m y (zQ hy) (by rw[List.size_toArray];exact lE q.length hl)) ⟨g,K _ _ s.toks _ T (ry.step R T)⟩
theorem nA(R:Rep X ad s.heap S){i:Nat}{l:List AV}(r:VR X ad s.heap (.ref i) x)(e:S[i]?=some (.list l))(rv:VR X ad s.heap v y)(hlt:l.length < lim)
  (K:Ret X ad s .none (setAt S i (.list (l++[v]))) Q):wpAny (MX X) A (call (.builtin "list.append") [x,y]) Q NoE s:=by
 obtain⟨c,vs,m,e1,rfl,cd,g,hl,q⟩:=fO R r e
 have L:lim=1000:=rfl
 have Z:1000≤sizeLine:=by decide
 have hw:=q.length
 have T:ai X noX ad s.heap ad (setAt S i (.list (l++[v]))) (s.heap.update c.a (Obj.mapSeq fun xs=>xs.push y)):=
  ai.turn R e1 cd g _ (by simp) (q.append (.cons rv .nil)) (by simp only[List.length_append,List.length_singleton];omega)
 exact call_meets PySem.F.slot_list_append ⟨_,g,rfl⟩ PySem.F.entry_list_append (PySem.F.args_list_append_2 _ _) (PySem.AutoListH.list_append_list_val_0 c.a _ m y (by simp only[List.size_toArray];omega)) ⟨g,K _ _ s.toks _ T .none⟩
theorem uH(R:Rep X ad s.heap S){i:Nat}{l k:List AV}(r:VR X ad s.heap (.ref i) x)(e:S[i]?=some (.list l))(rv:VR X ad s.heap v y)(hv:bj v S=some k)(hlt:(l++k).length≤lim)
  (K:Ret X ad s .none (setAt S i (.list (l++k))) Q):wpAny (MX X) A (call (.builtin "list.extend") [x,y]) Q NoE s:=by
 obtain⟨c,vs,m,e1,rfl,cd,g,hl,q⟩:=fO R r e
 obtain⟨p,ws,m',rfl,g',hl',q'⟩:=bg R rv hv
 have L:lim=1000:=rfl
 have Z:1000≤sizeLine:=by decide
 have hw:=q.length
 have hw':=q'.length
 have hlt':=hlt
 rw[List.length_append] at hlt'
 have T:ai X noX ad s.heap ad (setAt S i (.list (l++k))) (s.heap.update c.a (Obj.mapSeq fun xs=>xs++ws.toArray)):=
  ai.turn R e1 cd g _ (by simp) (q.append q') hlt
 exact call_meets PySem.F.slot_list_extend ⟨_,g,rfl⟩ PySem.F.entry_list_extend (PySem.F.args_list_extend_2 _ _)
  (PySem.AutoSeq1.list_extend_list_list_0 c.a _ m p _ m' (extend_door (by simp only[List.size_toArray];omega)) (by simp only[List.size_toArray];omega) (by simp only[List.size_toArray];omega)) ⟨g,g',K _ _ s.toks _ T .none⟩
theorem mX{l:Addr}{vs:List Value}{m:Nat}{k:Int}{t:Tok}{y:Value}{Q:Unit→Shared→Prop}(g:s.heap.get? l=some (aA vs.toArray m))(h0:0≤k)(hs:k < 2 ^ 63)(hj:k < (vs.length:Int))
  (K:Q () {s with heap:=s.heap.update l (Obj.mapSeq (·.setIfInBounds k.toNat y))}):wpAny (MX X) A (setItem (.ref l) (.int k t) y) Q NoE s:=by
 have hl:s.heap.IsList l vs.toArray:=⟨_,g,rfl,m,rfl⟩
 unfold setItem
 try with_reducible refine wpAny_holding ?_
 first | refine wpAny_bind (wpAny_pure ?_) | skip
 refine wpAny_bind (wpAny_sequenceKey hl.typeIs (by decide) ?_)
 refine wpAny_bind (wpAny_callSpecial?_slot (name:=Str.ofString "__setitem__") hl.typeIs slot_list_setitem
  (wpAny_call_entry slot_list_setitem hl.typeIs entry_list_setitem ?_ (args_list_setitem _ _ _)))
 show wpAny _ _ (Builtin.List.listSubscript? (.int k t)>>= _) _ _ s
 refine wpAny_bind (wpAny_listSubscript_int (fitsIndex_of h0 hs) ?_)
 clear hs
 obtain⟨j,rfl⟩:=Int.eq_ofNat_of_zero_le h0
 have hj':j < vs.length:=by omega
 have hx:vs.toArray[j]?=some (vs[j]):=by simp[hj']
 show wpAny _ _ ((seqItemAt l j >>= fun r=>pure (r.map (j,·)))>>= _) _ _ s
 refine wpAny_bind (wpAny_bind (wpAny_seqItemAt g rfl (wpAny_pure ?_)))
 rw[hx]
 show wpAny _ _ (setSeqItemAt l j y >>= _) _ _ s
 refine wpAny_bind (wpAny_setSeqItemAt g rfl ?_)
 first
  | exact wpAny_bind (wpAny_pure (wpAny_pure ⟨.none,rfl,wpAny_pure K⟩))
  | exact wpAny_pure ⟨.none,rfl,wpAny_pure K⟩
theorem kP{Q:Unit→Shared→Prop}(R:Rep X ad s.heap S){i:Nat}{l:List AV}{j:Int}{t:Tok}(r:VR X ad s.heap (.ref i) x)(e:S[i]?=some (.list l))(rv:VR X ad s.heap v y)(h0:0≤j)(hj:j.toNat < l.length)
  (K:∀h',ai X noX ad s.heap ad (setAt S i (.list (setAt l j.toNat v))) h'→Q () {s with heap:=h'}):wpAny (MX X) A (setItem x (.int j t) y) Q NoE s:=by
 obtain⟨c,vs,m,e1,rfl,cd,g,hl,q⟩:=fO R r e
 have L:lim=1000:=rfl
 have hw:=q.length
 refine mX g h0 (by omega) (by omega) (K _ (ai.turn R e1 cd g _ ?_ (q.setAt rv) (by rw[eg];exact hl)))
 apply Array.toList_inj.mp
 simp[Array.toList_setIfInBounds]
noncomputable def lF(n:Str)(x:Value):List (Str×Value)→List (Str×Value)
 | []=>[(n,x)]
 | p::r=>if p.1=n then(p.1,x)::r else p::lF n x r
theorem ju(p:Str×Value)(r:List (Str×Value))(y:Str):valueAt (p::r) y=if p.1=y then some p.2 else valueAt r y:=by
 unfold valueAt
 rw[List.find?_cons]
 by_cases e:p.1=y
 ·rw[if_pos e,decide_eq_true e];rfl
 ·rw[if_neg e,decide_eq_false e]
theorem tN(n:Str)(x:Value):∀kvs:List (Str×Value),valueAt (lF n x kvs)=fun y=>if y=n then some x else valueAt kvs y
 | []=>by
  funext y
  show valueAt [(n,x)] y=_
  rw[ju]
  by_cases e:y=n
  ·rw[if_pos e,if_pos e.symm]
  ·rw[if_neg e,if_neg fun q=>e q.symm]
 | p::r=>by
  funext y
  have ih:=congrFun (tN n x r) y
  show valueAt (if p.1=n then(p.1,x)::r else p::lF n x r) y=_
  by_cases e:p.1=n
  ·rw[if_pos e,ju,ju]
   by_cases z:y=n
   ·rw[if_pos z,if_pos (e.trans z.symm)]
   ·have q:¬p.1=y:=fun q=>z (q.symm.trans e)
    rw[if_neg z,if_neg q,if_neg q]
  ·rw[if_neg e,ju,ju]
   by_cases q:p.1=y
   ·rw[if_pos q,if_neg fun z=>e (q.trans z),if_pos q]
   ·rw[if_neg q,if_neg q];exact ih
theorem eV(n:Str)(x:Value):∀kvs:List (Str×Value),(kvs.map (·.1)).Nodup→stored kvs n x=lF n x kvs
 | [],_=>rfl
 | p::r,nd=>by
  rw[List.map_cons,List.nodup_cons] at nd
  have ih:=eV n x r nd.2
  unfold stored at ih ⊢
  unfold lF
  by_cases e:p.1=n
  ·subst e
   have:r.map (fun kv=>if kv.1=p.1 then(kv.1,x) else kv)=r:=by
    conv=>rhs;rw[←List.map_id r]
    apply List.map_congr_left
    intro q hq
    rw[if_neg fun(z:q.1=p.1)=>nd.1 (z▸List.mem_map_of_mem hq)];rfl
   simp[this]
  ·simp only[List.any_cons,e,decide_false,Bool.false_or,if_false,List.map_cons] at ih ⊢
   split<;>rename_i z
   ·rw[if_pos z] at ih;rw[ih]
   ·rw[if_neg z] at ih;rw[←ih];rfl
theorem jv{l:List (Nat×AV)}{kvs:List (Str×Value)}{c:Nat}(hc:c < nS)(r:VRd X ad h l kvs)(rv:VR X ad h v x):VRd X ad h (dI c v l) (lF (sT c) x kvs):=by
 induction l generalizing kvs with
 | nil=>exact VRd.onNil (G:=fun kvs=>VRd X ad h [(c,v)] (lF (sT c) x kvs)) r (.cons hc rv .nil)
 | cons kv l ih=>
  refine VRd.onCons (k:=kv.1) (v:=kv.2) (G:=fun kvs=>VRd X ad h (am (Nat.beq c kv.1) ((kv.1,v)::l) (kv::dI c v l)) (lF (sT c) x kvs)) r fun y es hk ru r=>?_
  unfold lF
  by_cases e:c=kv.1
  ·rw[if_pos (by rw[e]),e,Nat.beq_refl]
   exact .cons hk rv r
  ·rw[if_neg fun q=>e (iX hc hk (Eq.symm q)),(Bool.eq_false_iff.mpr fun q=>e (Nat.eq_of_beq_eq_true q):Nat.beq c kv.1=false)]
   exact .cons hk ru (ih r)
theorem lG(c:Nat)(v:AV):∀l:List (Nat×AV),(dI c v l).length≤l.length + 1
 | []=>Nat.le_refl _
 | p::r=>by
  show List.length (am (Nat.beq c p.1) ((p.1,v)::r) (p::dI c v r))≤_
  cases Nat.beq c p.1 with
  | true=>exact Nat.le_succ _
  | false=>exact Nat.succ_le_succ (lG c v r)
theorem lH{c:Nat}{l:List (Nat×AV)}(h:l.length < lim):(dI c v l).length≤lim:=Nat.le_trans (lG c v l) h
theorem DO.nodup{a:Addr}{kvs:List (Str×Value)}(d:DO X h a kvs):(kvs.map (·.1)).Nodup:=let⟨_,_,_,_,_,_,_,_,q⟩:=d;q
theorem ai.dturn(R:Rep X ad h S){i:Nat}{c:au}{l':List (Nat×AV)}{kvs':List (Str×Value)}(e:ad[i]?=some c)(cd:c.d=c.a)(sm:c.a≠sysModules)(d':DO X h' c.a kvs')(sb:Heap.SameBut c.a h h')
  (r:VRd X ad h l' kvs')(hl:l'.length≤lim):ai X ex ad h ad (setAt S i (.dict l')) h':=by
 have keep:∀b x,h.get? b=some x→b≠c.a→h'.get? b=some x:=fun b x q z=>(sb.2 b z).trans q
 refine ai.set R e (fun b x q z _=>keep b x q z) (fun b x q=>?_) (.dict cd d' sm hl ?_)
 ·by_cases z:b=c.a
  ·subst z;obtain⟨o,q,_⟩:=d'.there;exact⟨o,q⟩
  ·exact⟨x,keep b x q z⟩
 ·exact r.move (fun b vs n q=>keep b _ q ((R.no_tup q).ne e).1) (fun _ _ q=>q)
theorem kQ{Q:Unit→Shared→Prop}(R:Rep X ad s.heap S){i c:Nat}{l:List (Nat×AV)}(r:VR X ad s.heap (.ref i) x)(e:S[i]?=some (.dict l))(rc:VR X ad s.heap (.str c) b')(rv:VR X ad s.heap v y)(hlt:l.length < lim)
  (K:∀h' tk,ai X noX ad s.heap ad (setAt S i (.dict (dI c v l))) h'→Q () {s with heap:=h',toks:=tk}):wpAny (MX X) A (setItem x b' y) Q NoE s:=by
 obtain⟨cl,kvs,e1,rfl,cd,d,sm,hl,q⟩:=dR R r e
 refine VR.onStr (G:=fun b'=>wpAny (MX X) A (setItem (.ref cl.a) b' y) Q NoE s) rc fun t hc=>wpAny_setItem_pairs (cU _ _) d (fun h' d' sb=>K h' _ ?_) (lE q.length hl)
 rw[eV _ _ _ d.nodup] at d'
 exact ai.dturn R e1 cd (ne_of_beq_false sm) d' sb (jv hc q rv) (lH hlt)
theorem DC(R:Rep X ad s.heap S){i c:Nat}{l:List (Nat×AV)}(r:VR X ad s.heap (.ref i) x)(e:S[i]?=some (.dict l))(rc:VR X ad s.heap (.str c) b')(rv:VR X ad s.heap v y)
  (K:Ret X ad s ((cx c l).getD v) S Q):wpAny (MX X) A (call (.builtin "dict.get") [x,b',y]) Q NoE s:=by
 obtain⟨cl,kvs,e1,rfl,cd,d,sm,hl,q⟩:=dR R r e
 refine VR.onStr (G:=fun b'=>wpAny (MX X) A (call (.builtin "dict.get") [.ref cl.a,b',y]) Q NoE s) rc fun t hc=>call_meetsIn PySem.F.slot_dict_get d.typeIs PySem.F.entry_dict_get (PySem.F.args_dict_get_3 _ _ _) (meets_dict_get_default _ _ (cU _ _) sm y) ⟨_,d.mapOf,?_⟩
 refine(q.gets hc).elim (fun⟨u,w,e2,hw,rw'⟩=>?_) fun z=>?_
 ·rw[e2] at K;rw[hw];exact K.val R rw' _
 ·rw[z.1] at K;rw[z.2];exact K.val R rv _
theorem mY(R:Rep X ad s.heap S){i c:Nat}{l:List (Nat×AV)}(r:VR X ad s.heap (.ref i) x)(e:S[i]?=some (.dict l))(rc:VR X ad s.heap (.str c) b')(rv:VR X ad s.heap v y)
  (K:∀u,cx c l=some u→Ret X ad s u S Q)(K':cx c l=none→l.length < lim∧Ret X ad s v (setAt S i (.dict (dI c v l))) Q):wpAny (MX X) A (call (.builtin "dict.setdefault") [x,b',y]) Q NoE s:=by
 obtain⟨cl,kvs,e1,rfl,cd,d,sm,hl,q⟩:=dR R r e
 refine VR.onStr (G:=fun b'=>wpAny (MX X) A (call (.builtin "dict.setdefault") [.ref cl.a,b',y]) Q NoE s) rc fun t hc=>call_meetsIn PySem.F.slot_dict_setdefault d.typeIs PySem.F.entry_dict_setdefault (PySem.F.args_dict_setdefault_3 _ _ _) (kt_meets_setdefault _ _ (cU _ _) sm y)
   ⟨kvs,d,lE q.length hl,fun u hu=>?_,fun hn h' d' sb=>?_⟩
 ·refine(q.gets hc).elim (fun⟨u',w,e2,hw,rw'⟩=>?_) fun z=>nomatch hu.symm.trans z.2
  rw[Option.some.inj (hw.symm.trans hu)] at rw'
  exact(K _ e2).val R rw' _
 ·refine(q.gets hc).elim (fun⟨u',w,e2,hw,rw'⟩=>nomatch hn.symm.trans hw) fun z=>?_
  rw[eV _ _ _ d.nodup] at d'
  have T:ai X noX ad s.heap ad (setAt S i (.dict (dI c v l))) h':=ai.dturn R e1 cd (ne_of_beq_false sm) d' sb (jv hc q rv) (lH (K' z.1).1)
  exact(K' z.1).2 _ _ _ _ T (rv.step R T)
end Mine
end
section
open PySem PySem.W PySem.Calls PyProof.Rows
namespace Mine
variable {X:Cx} {A:Around} {n:Nat} {ex:Addr→Prop} {ad ad':List au} {h h':Heap} {S S':aa} {s:Shared} {v a b:AV} {x y b':Value} {Q:Value→Shared→Prop}
theorem cX{o:AO}:gg o S=some (.ref S.length,S++[o]):=by simp[gg]
theorem aR{l:List AV}:newList l S=some (.ref S.length,S++[.list l]):=lC
theorem ai.newListIn(R:Rep X ad h S){l:List AV}{vs:List Value}{p:Addr}{m:Nat}(q:VRs X ad h l vs)(hl:l.length≤lim)(keep:∀b o,h.get? b=some o→h'.get? b=some o)(hp:h.get? p=none)(g:h'.get? p=some (aA vs.toArray m)):
  ai X noX ad h (ad++[⟨p,p⟩]) (S++[.list l]) h':=
 ai.alloc R keep ⟨p,p⟩ hp hp _ (.list rfl g hl (q.grow keep hp hp))
theorem VRs.keep(q:VRs X ad h l vs)(keep:∀b o,h.get? b=some o→h'.get? b=some o):VRs X ad h' l vs:=
 q.move (fun b vs n=>keep b _) (fun _ _ q=>q)
theorem lI(R:Rep X ad s.heap S){l:List AV}{p:Addr}{vs:List Value}{T:String}{m:Nat}{o:Obj}(hT:T="list"∨T="tuple")(ho:s.heap.get? p=some o)(hc:o.cls=.type T)(hd:o.data=.seq vs.toArray m)
  (hl:l.length≤lim)(q:VRs X ad s.heap l vs)(K:Ret X ad s (.ref S.length) (S++[.list l]) Q):wpAny (MX X) A (call (.type "list") [.ref p]) Q NoE s:=by
 exact call_list_seq p hT ho hc hd (fun h' c' hk g=>K _ h' s.toks _ (ai.newListIn R q hl hk aJ g) (dg R)) (by rw[List.size_toArray];exact lE q.length hl)
theorem pY(R:Rep X ad s.heap S){l:List AV}{p:Addr}{vs:List Value}{m:Nat}(g:s.heap.get? p=some (aA vs.toArray m))
  (hl:l.length≤lim)(q:VRs X ad s.heap l vs)(K:Ret X ad s (.tup l) S Q):wpAny (MX X) A (call (.type "tuple") [.ref p]) Q NoE s:=by
 refine call_tuple_list (bS g) (fun h' hk=>?_) (by rw[List.size_toArray];exact lE q.length hl)
 have hk':∀b o,s.heap.get? b=some o→(h'.push (bf vs.toArray 0)).get? b=some o:=fun b o e=>ax _ _ _ (hk b o e)
 exact K _ _ s.toks _ (ai.same R hk') (.tup (Heap.get?_push_size _ rfl) hl (q.keep hk'))
theorem lJ(R:Rep X ad s.heap S){l:List AV}{p:Addr}{vs:List Value}{m:Nat}(g:s.heap.get? p=some (aA vs.toArray m)∨s.heap.get? p=some (bf vs.toArray m))
  (hl:l.length≤lim)(q:VRs X ad s.heap l vs)(K:Ret X ad s (.int l.length) S Q):wpAny (MX X) A (call (.builtin "len") [.ref p]) Q NoE s:=by
 have L:lim=1000:=rfl
 have hw:=q.length
 have hz:(vs.toArray.size:Int) < 2 ^ 63:=by simp only[List.size_toArray];omega
 have e:(vs.toArray.size:Int)=l.length:=by simp[hw]
 rcases g with g | g
 ·exact call_len_list (bS g) hz (by rw[e];exact K.val R (.int _ _) _)
 ·exact PySem.P.len_tuple g (by omega) (by rw[e];exact K.val R (.int _ _) _)
theorem pZ(R:Rep X ad s.heap S){l:List (Nat×AV)}{p:Addr}{kvs:List (Str×Value)}(d:DO X s.heap p kvs)(sm:(p==sysModules)=false)
  (hl:l.length≤lim)(q:VRd X ad s.heap l kvs)(K:Ret X ad s (.int l.length) S Q):wpAny (MX X) A (call (.builtin "len") [.ref p]) Q NoE s:=by
 have L:lim=1000:=rfl
 have hw:=q.length
 have e:(kvs.length:Int)=l.length:=by rw[hw]
 exact call_len_dict sm d (by omega) (by rw[e];exact K.val R (.int _ _) _)
theorem DD(R:Rep X ad s.heap S){i:Int}{t:Tok}(K:Ret X ad s (.int (Int.ofNat i.natAbs)) S Q):wpAny (MX X) A (call (.builtin "abs") [.int i t]) Q NoE s:=by
 refine call_abs_int fun u tk=>?_
 have:(if i < 0 then -i else i)=Int.ofNat i.natAbs:=by simp only[Int.ofNat_eq_natCast];split<;>omega
 rw[this];exact K.val R (.int _ _) _
theorem DE(R:Rep X ad s.heap S)(ho:aQ A n){i j:Int}{t u:Tok}(K:Ret X ad s (.int (if i < j then j else i)) S Q):wpAny (MX X) A (call (.builtin "max") [.int i t,.int j u]) Q NoE s:=by
 refine max_two_ints ho.handled fun h' tk hk=>?_
 by_cases q:i < j
 ·rw[if_pos q] at K;rw[if_pos q];exact K.more R hk (.int _ _) tk
 ·rw[if_neg q] at K;rw[if_neg q];exact K.more R hk (.int _ _) tk
theorem DF(R:Rep X ad s.heap S)(ho:aQ A n){i j:Int}{t u:Tok}(K:Ret X ad s (.int (if j < i then j else i)) S Q):wpAny (MX X) A (call (.builtin "min") [.int i t,.int j u]) Q NoE s:=by
 refine min_two_ints ho.handled fun h' tk hk=>?_
 by_cases q:j < i
 ·rw[if_pos q] at K;rw[if_pos q];exact K.more R hk (.int _ _) tk
 ·rw[if_neg q] at K;rw[if_neg q];exact K.more R hk (.int _ _) tk
theorem oO(R:Rep X ad s.heap S)(ok:∀h,X.On h→sysModules < h.objs.size){l:List (Nat×AV)}{p:Addr}{kvs:List (Str×Value)}(d:DO X s.heap p kvs)(sm:(p==sysModules)=false)
  (hl:l.length≤lim)(q:VRd X ad s.heap l kvs)(K:Ret X ad s (.ref S.length) (S++[.dict l]) Q):wpAny (MX X) A (call (.type "dict") [.ref p]) Q NoE s:=by
 refine PySem.kt_call_dict sm d (lE q.length hl) fun h' d' sb=>?_
 have hn:=aJ (h:=s.heap)
 have hk:∀b o,s.heap.get? b=some o→h'.get? b=some o:=fun b o e=>(sb.2 b fun z=>by rw[z,hn] at e;cases e).trans (ax _ _ _ e)
 have T:ai X noX ad s.heap (ad++[⟨s.heap.objs.size,s.heap.objs.size⟩]) (S++[.dict l]) h':=
  ai.alloc R hk ⟨_,_⟩ hn hn _ (.dict rfl d' (Nat.ne_of_gt (ok _ R.base)) hl (q.grow hk hn hn))
 exact K _ _ s.toks _ T (dg R)
theorem jM(R:Rep X ad h S){l:List (Nat×AV)}(r:VR X ad h v x)(e:tB v S=some l):∃a kvs,x=.ref a∧DO X h a kvs∧(a==sysModules)=false∧l.length≤lim∧VRd X ad h l kvs:=by
 refine rN e (fun k h e=>?_) fun e=>cS e nN fun i h e=>f9 e nN fun k e1 e=>?_<;>rw[h] at r<;>rw[←Option.some.inj e]
 ·exact oM R r
 ·obtain⟨c,kvs,_,rfl,_,d,sm,hl,q⟩:=dR R r e1
  exact⟨_,_,rfl,d,sm,hl,q⟩
noncomputable def oP:BI→Value
 | .list=>.type "list" | .tuple=>.type "tuple" | .len=>.builtin "len" | .sorted=>.builtin "sorted" | .dict=>.type "dict" | .abs=>.builtin "abs" | .max=>.builtin "max" | .min=>.builtin "min" | .isTuple=>.builtin "isinstance"
noncomputable def iY(bi:BI)(xs:List Value):List Value:=BI.casesOn bi xs xs xs xs xs xs xs xs (xs++[.type "tuple"])
structure uI(X:Cx):Prop where
 sysm:∀h,X.On h→sysModules < h.objs.size
 pairs:∀{A:Around} {n:Nat} {ad:List au} {S:aa} {s:Shared} {Q:Value→Shared→Prop} {l:List AV} {ps:List (Nat×AV)} {x:Value} {v:AV},Rep X ad s.heap S→aQ A n→bj v S=some l→VR X ad s.heap v x→pairsOf l=some ps→
  Ret X ad s (.ref S.length) (S++[.dict (ps.foldl (fun d p=>dI p.1 p.2 d) [])]) Q→wpAny (MX X) A (call (.type "dict") [x]) Q NoE s
 sorted:∀{A:Around} {n:Nat} {ad:List au} {S:aa} {s:Shared} {Q:Value→Shared→Prop} {l:List (Nat×AV)} {p:Addr} {kvs:List (Str×Value)},Rep X ad s.heap S→aQ A n→DO X s.heap p kvs→(p==sysModules)=false→l.length≤60→VRd X ad s.heap l kvs→
  Ret X ad s (.ref S.length) (S++[.list ((ku (l.map (·.1))).map .str)]) Q→wpAny (MX X) A (call (.builtin "sorted") [.ref p]) Q NoE s
theorem wv(R:Rep X ad s.heap S)(r:VR X ad s.heap a x)(e:Cu a S=some (v,S'))(K:Ret X ad s v S' Q):wpAny (MX X) A (call (.type "list") [x]) Q NoE s:=by
 refine gd e (fun l ha e=>?_) fun e=>ah e nN fun l e1 e=>?_
 ·rw[ha] at r
  exact VR.onTup (G:=fun x=>wpAny (MX X) A (call (.type "list") [x]) Q NoE s) r fun _ _ _ g hl q=>lI R (.inr rfl) g rfl rfl hl q (K.of (aR.symm.trans e))
 ·obtain⟨p,vs,m,rfl,g,hl,q⟩:=bg R r e1
  exact lI R (.inl rfl) g rfl rfl hl q (K.of (aR.symm.trans e))
theorem uJ(R:Rep X ad s.heap S)(r:VR X ad s.heap a x)(e:wa a S=some (v,S'))(K:Ret X ad s v S' Q):wpAny (MX X) A (call (.type "tuple") [x]) Q NoE s:=by
 refine gd e (fun l ha e=>?_) fun e=>ah e nN fun l e1 e=>?_
 ·rw[ha] at r
  exact VR.onTup (G:=fun x=>wpAny (MX X) A (call (.type "tuple") [x]) Q NoE s) r fun _ _ _ g hl q=>call_tuple_same (hH g) ((K.of e).val' R (.tup g hl q))
 ·obtain⟨p,vs,m,rfl,g,hl,q⟩:=bg R r e1
  exact pY R g hl q (K.of e)
theorem zR(R:Rep X ad s.heap S)(r:VR X ad s.heap a x)(e:Gi a S=some (v,S'))(K:Ret X ad s v S' Q):wpAny (MX X) A (call (.builtin "len") [x]) Q NoE s:=by
 refine gd e (fun l ha e=>?_) fun e=>c9 e (fun l e1 e=>?_) fun _ e=>ah e nN fun l e1 e=>?_
 ·rw[ha] at r
  exact VR.onTup (G:=fun x=>wpAny (MX X) A (call (.builtin "len") [x]) Q NoE s) r fun _ _ _ g hl q=>lJ R (.inr g) hl q (K.of ((aO _ _).symm.trans e))
 ·obtain⟨p,vs,m,rfl,g,hl,q⟩:=bg R r e1
  exact lJ R (.inl g) hl q (K.of ((aO _ _).symm.trans e))
 ·obtain⟨p,kvs,rfl,d,sm,hl,q⟩:=jM R r e1
  exact pZ R d sm hl q (K.of ((aO _ _).symm.trans e))
theorem zS(R:Rep X ad s.heap S)(r:VR X ad s.heap a x)(e:Gk a S=some (v,S'))(K:Ret X ad s v S' Q):wpAny (MX X) A (call (.builtin "isinstance") [x,.type "tuple"]) Q NoE s:=by
 refine gd e (fun l ha e=>?_) fun e=>ah e nN fun l e1 e=>?_
 ·rw[ha] at r
  exact VR.onTup (G:=fun x=>wpAny (MX X) A (call (.builtin "isinstance") [x,.type "tuple"]) Q NoE s) r fun _ _ _ g hl q=>PySem.IsiPair.tuple_tuple g rfl ((K.of e).val' R (.bool _))
 ·obtain⟨p,vs,m,rfl,g,hl,q⟩:=bg R r e1
  exact PySem.IsiPair.list_tuple g rfl ((K.of e).val R (.bool false) _)
theorem DG(H:uI X)(R:Rep X ad s.heap S)(ho:aQ A n){bi:BI}(r:VR X ad s.heap a x)(e:bi1 bi a S=some (v,S'))(K:Ret X ad s v S' Q):
  wpAny (MX X) A (call (oP bi) (iY bi [x])) Q NoE s:=by
 cases bi with
 | list=>exact wv R r e K
 | tuple=>exact uJ R r e K
 | len=>exact zR R r e K
 | isTuple=>exact zS R r e K
 | max=>exact nomatch e
 | min=>exact nomatch e
 | abs=>
  refine ft e nN fun i ha e=>?_
  rw[ha] at r
  exact VR.onInt (G:=fun x=>wpAny (MX X) A (call (.builtin "abs") [x]) Q NoE s) r fun t=>DD R (K.of ((aO _ _).symm.trans e))
 | sorted=>
  refine ah e nN fun l e1 e=>aC e nN fun hz e=>?_
  obtain⟨p,kvs,rfl,d,sm,hl,q⟩:=jM R r e1
  exact H.sorted R ho d sm (Nat.le_of_ble_eq_true hz) q (K.of (aR.symm.trans e))
 | dict=>
  refine c9 e (fun l e1 e=>?_) fun _ e=>ah e nN fun l e1 e=>ah e nN fun ps e2 e=>?_
  ·obtain⟨p,kvs,rfl,d,sm,hl,q⟩:=jM R r e1
   exact oO R H.sysm d sm hl q (K.of (cX.symm.trans e))
  ·rw[aB] at e
   exact H.pairs R ho e1 r e2 (K.of (cX.symm.trans e))
theorem DH(R:Rep X ad s.heap S)(ho:aQ A n){bi:BI}{i j:Int}{t u:Tok}(e:bi2 bi i j S=some (v,S'))(K:Ret X ad s v S' Q):
  wpAny (MX X) A (call (oP bi) (iY bi [.int i t,.int j u])) Q NoE s:=by
 cases bi with
 | max=>
  have e:bA (if i < j then j else i) (fun i=>some (AV.int i,S))=some (v,S'):=e
  exact DE R ho (K.of ((aO _ _).symm.trans e))
 | min=>
  have e:bA (if j < i then j else i) (fun i=>some (AV.int i,S))=some (v,S'):=e
  exact DF R ho (K.of ((aO _ _).symm.trans e))
 | _=>exact nomatch e
theorem ww(H:uI X)(R:Rep X ad s.heap S)(ho:aQ A n){bi:BI}{args:List AV}{xs:List Value}(ra:VRs X ad s.heap args xs)(e:biV bi args S=some (v,S'))(K:Ret X ad s v S' Q):
  wpAny (MX X) A (call (oP bi) (iY bi xs)) Q NoE s:=
 bu (G:=fun args=>VRs X ad s.heap args xs→_) e (fun e=>nomatch e) (fun a t e=>bu (G:=fun t=>VRs X ad s.heap (a::t) xs→_) e
  (fun e r=>VRs.on1 (G:=fun xs=>wpAny (MX X) A (call (oP bi) (iY bi xs)) Q NoE s) r fun _ r=>DG H R ho r e K)
  fun b t e=>bu (G:=fun t=>VRs X ad s.heap (a::b::t) xs→_) e (fun e r=>ft e nN fun i ha e=>ft e nN fun j hb e=>by
   rw[ha,hb] at r
   exact VRs.on2 (G:=fun xs=>wpAny (MX X) A (call (oP bi) (iY bi xs)) Q NoE s) r fun x y r1 r2=>
    VR.onInt (G:=fun x=>wpAny (MX X) A (call (oP bi) (iY bi [x,y])) Q NoE s) r1 fun t=>VR.onInt (G:=fun y=>wpAny (MX X) A (call (oP bi) (iY bi [.int i t,y])) Q NoE s) r2 fun u=>DH R ho e K)
   fun _ _ e=>nomatch e) ra
end Mine
end
section
open PySem PySem.W PySem.Calls PyProof.Rows
namespace Mine
variable {X:Cx} {A:Around} {n:Nat} {ex:Addr→Prop} {ad ad':List au} {h h':Heap} {S S':aa} {s:Shared} {v a b:AV} {x y b':Value} {Q:Value→Shared→Prop}
noncomputable def r8(n:Nat):List AV:=(List.range n).map fun k=>.int (Int.ofNat k)
noncomputable def wy(X:Cx)(ad:List au)(h:Heap)(z:Addr)(pv:Addr→Prop)(o:Option Nat):Prop:=∃(TI TO i1 i2:Addr) (a b:Value),
 IsZip h z TI TO .none∧IsPair h TI (.ref i1) (.ref i2)∧IsPair h TO a b∧z≠i1∧pv z∧pv i1∧(∀b,pv b→b=z∨b=i1)∧
 (match o with
  | none=>(∃p m,h.IsTupleIter i1 p 0∧h.get? p=some (bf #[] m))∨(∃p m,h.IsListIter i1 p 0∧X.B p=some (aA #[] m))
  | some i=>∃c,ad[i]?=some c∧h.IsListIter i1 c.a 0)
inductive hK(X:Cx)(ad:List au)(h:Heap)(it:Addr)(pv:Addr→Prop):Src→Nat→Prop
 | tup {l:List AV} {p:Addr} {vs:List Value} {m k:Nat}:pv it→(∀b,pv b→b=it)→h.IsTupleIter it p k→h.get? p=some (bf vs.toArray m)→VRs X ad h l vs→hK X ad h it pv (.items l) k
 | lst {l:List AV} {p:Addr} {vs:List Value} {m k:Nat}:pv it→(∀b,pv b→b=it)→h.IsListIter it p k→X.B p=some (aA vs.toArray m)→VRs X ad h l vs→hK X ad h it pv (.items l) k
 | rng {n k:Nat}:pv it→(∀b,pv b→b=it)→IsRangeIter h it k ((n:Int)- k) 1→hK X ad h it pv (.items (r8 n)) k
 | live {i k:Nat} {c:au}:pv it→(∀b,pv b→b=it)→h.IsListIter it c.a k→ad[i]?=some c→hK X ad h it pv (.live i) k
 | zip {o:Option Nat}:wy X ad h it pv o→hK X ad h it pv (.zip o) 0
structure ItS(X:Cx)(ad:List au)(h:Heap)(it:Addr)(pv:Addr→Prop)(src:Src)(k:Nat):Prop where
 off:∀b,pv b→Off ad b
 nb:∀b,pv b→X.B b=none
 shape:hK X ad h it pv src k
variable {it:Addr} {pv:Addr→Prop} {src:Src} {k:Nat}
theorem bY{o:Obj}{vs}(e:o.data=.fields vs):¬kO o:=by
 rintro ⟨ws,m,rfl⟩;simp at e
theorem hK.obj(I:hK X ad h it pv src k):∀b,pv b→∃o,h.get? b=some o∧¬kO o:=by
 intro b hb
 cases I with
 | tup p1 p2 g=>obtain rfl:=p2 b hb;obtain⟨o,e,_,d⟩:=g;exact⟨o,e,bY d⟩
 | lst p1 p2 g=>obtain rfl:=p2 b hb;obtain⟨o,e,_,d⟩:=g;exact⟨o,e,bY d⟩
 | rng p1 p2 g=>obtain rfl:=p2 b hb;exact⟨_,g,bY rfl⟩
 | live p1 p2 g=>obtain rfl:=p2 b hb;obtain⟨o,e,_,d⟩:=g;exact⟨o,e,bY d⟩
 | @zip o z=>
  obtain⟨TI,TO,i1,i2,a,c,z1,z2,z3,z4,z5,z6,z7,z8⟩:=z
  rcases z7 b hb with rfl | rfl
  ·exact⟨_,z1,bY rfl⟩
  ·cases o with
   | none=>
    rcases z8 with⟨p,m,g,_⟩ | ⟨p,m,g,_⟩
    ·obtain⟨o,e,_,d⟩:=g;exact⟨o,e,bY d⟩
    ·obtain⟨o,e,_,d⟩:=g;exact⟨o,e,bY d⟩
   | some i=>obtain⟨c,_,g⟩:=z8;obtain⟨o,e,_,d⟩:=g;exact⟨o,e,bY d⟩
theorem hK.self(I:hK X ad h it pv src k):pv it:=by
 cases I with
 | tup p=>exact p
 | lst p=>exact p
 | rng p=>exact p
 | live p=>exact p
 | zip z=>obtain⟨_,_,_,_,_,_,_,_,_,_,p,_⟩:=z;exact p
theorem ItS.there(I:ItS X ad h it pv src k):∀b,pv b→∃o,h.get? b=some o:=fun b hb=>(I.shape.obj b hb).imp fun _ q=>q.1
theorem ItS.step(I:ItS X ad h it pv src k)(R:Rep X ad h S)(T:ai X ex ad h ad' S' h')(hx:∀b,pv b→¬ex b):ItS X ad' h' it pv src k:=by
 have keep:∀b,pv b→∀o,h.get? b=some o→h'.get? b=some o:=fun b hb o e=>T.ext _ o e (I.off b hb) (hx b hb)
 refine⟨fun b hb=>by obtain⟨o,e⟩:=I.there b hb;exact T.off e (I.off b hb),I.nb,?_⟩
 cases I.shape with
 | tup p1 p2 g t r=>obtain⟨o,e,z⟩:=g;exact .tup p1 p2 ⟨o,keep _ p1 _ e,z⟩ (T.tups R _ _ _ t) (r.step R T)
 | lst p1 p2 g t r=>obtain⟨o,e,z⟩:=g;exact .lst p1 p2 ⟨o,keep _ p1 _ e,z⟩ t (r.step R T)
 | rng p1 p2 g=>exact .rng p1 p2 (keep _ p1 _ g)
 | live p1 p2 g q=>obtain⟨o,e,z⟩:=g;exact .live p1 p2 ⟨o,keep _ p1 _ e,z⟩ (T.pre _ _ q)
 | @zip o z=>
  obtain⟨TI,TO,i1,i2,a,c,z1,z2,z3,z4,z5,z6,z7,z8⟩:=z
  refine .zip ⟨TI,TO,i1,i2,a,c,keep _ z5 _ z1,T.tups R _ _ _ z2,T.tups R _ _ _ z3,z4,z5,z6,z7,?_⟩
  cases o with
  | none=>
   rcases z8 with⟨p,m,g,t⟩ | ⟨p,m,g,t⟩
   ·obtain⟨o,e,z⟩:=g;exact .inl ⟨p,m,⟨o,keep _ z6 _ e,z⟩,T.tups R _ _ _ t⟩
   ·obtain⟨o,e,z⟩:=g;exact .inr ⟨p,m,⟨o,keep _ z6 _ e,z⟩,t⟩
  | some i=>obtain⟨c,q,g⟩:=z8;obtain⟨o,e,z⟩:=g;exact⟨c,T.pre _ _ q,⟨o,keep _ z6 _ e,z⟩⟩
theorem ItS.turn(I:ItS X ad s.heap it pv src k)(R:Rep X ad s.heap S)(keep:∀b o,s.heap.get? b=some o→b≠it→h'.get? b=some o):ai X pv ad s.heap ad S h':=by
 obtain⟨o,e,q⟩:=I.shape.obj it I.shape.self
 exact ai.write R (I.off it I.shape.self) (I.nb it I.shape.self) (fun o' e'=>by rw[e] at e';cases e';exact q) keep I.shape.self
theorem ItS.self{Q:Value→Shared→Prop}(I:ItS X ad s.heap it pv src k)(K:Q (.ref it) s):wpAny (MX X) A (pyIter (.ref it)) Q NoE s:=by
 cases I.shape with
 | tup _ _ g=>exact wpAny_pyIter_tupleiter g K
 | lst _ _ g=>exact wpAny_pyIter_listiter g K
 | rng _ _ g=>exact wpAny_pyIter_rangeiter g K
 | live _ _ g=>exact wpAny_pyIter_listiter g K
 | zip z=>obtain⟨_,_,_,_,_,_,z1,_⟩:=z;exact wpAny_pyIter_zip z1 K
noncomputable def iZ(S:aa)(src:Src)(k:Nat):Option AV:=Src.casesOn src (fun l=>l[k]?) (fun i=>bQ S[i]? (fun l=>l[k]?) none) fun _=>none
theorem nD{Q:Option Value→Shared→Prop}(R:Rep X ad s.heap S)(I:ItS X ad s.heap it pv src k)(e:iZ S src k=some v)
  (K:∀h' x tk,ai X pv ad s.heap ad S h'→ItS X ad h' it pv src (k + 1)→VR X ad h' v x→Q (some x) {s with heap:=h',toks:=tk}):wpAny (MX X) A (pyNext (.ref it)) Q NoE s:=by
 have I0:=I
 obtain⟨off,nb,sh⟩:=I
 cases sh with
 | tup p1 p2 g t r=>
  obtain⟨x,hx,rx⟩:=r.get e
  refine wpAny_pyNext_tuple_item g (hH t) (by simpa using hx) fun h' g' sb=>?_
  have T:=I0.turn R fun b o q z=>(sb.2 b z).trans q
  exact K h' x s.toks T ⟨off,nb,.tup p1 p2 g' (T.tups R _ _ _ t) (r.step R T)⟩ (rx.step R T)
 | lst p1 p2 g t r=>
  obtain⟨x,hx,rx⟩:=r.get e
  refine wpAny_pyNext_list_item g (bS (R.base _ _ t)) (by simpa using hx) fun h' g' sb=>?_
  have T:=I0.turn R fun b o q z=>(sb.2 b z).trans q
  exact K h' x s.toks T ⟨off,nb,.lst p1 p2 g' t (r.step R T)⟩ (rx.step R T)
 | @rng n k p1 p2 g=>
  have e:((List.range n).map fun k=>AV.int (Int.ofNat k))[k]?=some v:=e
  have hk:k < n:=by
   rcases Nat.lt_or_ge k n with q | q
   ·exact q
   ·rw[List.getElem?_eq_none (by simpa using q)] at e;cases e
  rw[List.getElem?_map,List.getElem?_range hk] at e
  simp only[Option.map_some,Option.some.injEq] at e
  subst e
  refine wpAny_pyNext_range_item g (by omega) fun h' g' sb=>?_
  have T:=I0.turn R fun b o q z=>(sb.2 b z).trans q
  refine K h' _ _ T ⟨off,nb,.rng p1 p2 ?_⟩ (.int _ _)
  have e1:((k:Int)+ 1)=((k + 1:Nat):Int):=by omega
  have e2:((n:Int)- k - 1)=(n:Int)-((k + 1:Nat):Int):=by omega
  rw[e1,e2] at g'
  exact g'
 | @live i k c p1 p2 g q=>
  exact c8 e nN fun l e1 e=>(R.objs i c _ q e1).onList fun _ _ cd t hl r=>by
   obtain⟨x,hx,rx⟩:=r.get e
   refine wpAny_pyNext_list_item g (bS t) (by simpa using hx) fun h' g' sb=>?_
   have T:=I0.turn R fun b o q z=>(sb.2 b z).trans q
   exact K h' x s.toks T ⟨off,nb,.live p1 p2 g' q⟩ (rx.step R T)
 | zip z=>exact(nomatch e)
noncomputable def qc(S:aa):Src→Nat→Prop
 | .items l,k=>l[k]?=none
 | .live i,k=>∃l,S[i]?=some (.list l)∧l[k]?=none
 | .zip o,_=>gZ o S=true
theorem DI{l:List AV}{vs:List Value}(r:VRs X ad h l vs)(e:l[k]?=none):vs.toArray[k]?=none:=by rw[List.getElem?_toArray];exact List.getElem?_eq_none_iff.mpr (r.length▸List.getElem?_eq_none_iff.mp e)
theorem qd{Q:Option Value→Shared→Prop}(hz:∀o,src=.zip o→wy X ad s.heap it pv o→gZ o S=true→(∀h',(∀b o,s.heap.get? b=some o→¬pv b→h'.get? b=some o)→Q none {s with heap:=h'})→wpAny (MX X) A (pyNext (.ref it)) Q NoE s)
  (R:Rep X ad s.heap S)(ho:aQ A n)(I:ItS X ad s.heap it pv src k)(e:qc S src k)
  (K:∀h' tk,ai X pv ad s.heap ad S h'→Q none {s with heap:=h',toks:=tk}):wpAny (MX X) A (pyNext (.ref it)) Q NoE s:=by
 have I0:=I
 have fin:∀h',Heap.ExtBut it s.heap h'→Q none {s with heap:=h'}:=fun h' eb=>K h' s.toks (I0.turn R fun b o q z=>eb b o z q)
 obtain⟨off,nb,sh⟩:=I
 cases sh with
 | tup p1 p2 g t r=>exact wpAny_pyNext_tuple_end ho.handled g (hH t) (DI r e) fin
 | lst p1 p2 g t r=>exact wpAny_pyNext_list_end ho.handled g (bS (R.base _ _ t)) (DI r e) fin
 | @rng n k p1 p2 g=>
  simp only[qc,r8,List.getElem?_eq_none_iff,List.length_map,List.length_range] at e
  exact wpAny_pyNext_range_end ho.handled g (by omega) fin
 | @live i k c p1 p2 g q=>
  obtain⟨l,e1,e⟩:=e
  exact(R.objs i c _ q e1).onList fun _ _ cd t hl r=>wpAny_pyNext_list_end ho.handled g (bS t) (DI r e) fin
 | @zip o z=>
  refine hz o rfl z e fun h' keep=>K h' s.toks ?_
  have nsq:=I0.shape.obj
  have ks:∀b o,s.heap.get? b=some o→kO o→h'.get? b=some o:=fun b o e sq=>keep b o e fun hb=>by obtain⟨o',e',q⟩:=nsq b hb;rw[e] at e';cases e';exact q sq
  refine⟨⟨fun b o e=>keep b o (R.base b o e) (fun hb=>by rw[nb b hb] at e;cases e),R.len,fun i c o e e'=>(R.objs i c o e e').move (fun b vs n e=>ks b _ e ⟨_,_,rfl⟩) (fun _ _ q=>q)
    (fun x q=>keep _ x q fun hb=>(off _ hb c (List.mem_of_getElem? e)).1 rfl) (fun x q=>keep _ x q fun hb=>(off _ hb c (List.mem_of_getElem? e)).2 rfl),R.sep,R.new⟩,
   fun _ _ e=>e,Nat.le_refl _,fun b o e _ x=>keep b o e x,fun b o e _ sq=>ks b o e sq,fun b o e x=>⟨o,keep b o e x⟩,fun i c q e=>absurd (ae e) (Nat.not_lt.mpr q)⟩
theorem lK(R:Rep X ad h S):Off ad h.objs.size:=fun c hc=>by
 obtain⟨i,hi,rfl⟩:=List.getElem_of_mem hc
 obtain⟨⟨o1,e1⟩,o2,e2⟩:=R.cell_there (List.getElem?_eq_getElem hi)
 exact⟨fun q=>(by rw[←q,aJ] at e1;cases e1),fun q=>(by rw[←q,aJ] at e2;cases e2)⟩
theorem jN(R:Rep X ad h S):X.B h.objs.size=none:=by
 cases e:X.B h.objs.size with
 | none=>rfl
 | some o=>have:=R.base _ _ e;rw[aJ] at this;cases this
theorem zT(R:Rep X ad s.heap S)(r:VR X ad s.heap v x)(e:tA S v=some src)
  (K:∀it h',(∀b o,s.heap.get? b=some o→h'.get? b=some o)→s.heap.get? it=none→ItS X ad h' it (·=it) src 0→Q (.ref it) {s with heap:=h'}):wpAny (MX X) A (pyIter x) Q NoE s:=by
 have mv:∀{l vs o},VRs X ad s.heap l vs→VRs X ad (s.heap.push o) l vs:=fun q=>q.keep (ax _)
 have at_:∀{h'},hK X ad h' s.heap.objs.size (·=s.heap.objs.size) src 0→ItS X ad h' s.heap.objs.size (·=s.heap.objs.size) src 0:=fun z=>⟨fun b hb=>hb▸lK R,fun b hb=>hb▸jN R,z⟩
 refine gd e (fun l hv e=>?_) fun e=>oz e (fun l hv e=>?_) fun e=>cS e nN fun i hv e=>c8 e nN fun l e1 e=>?_<;>rw[hv] at r<;>rw[←Option.some.inj e] at K at_
 ·exact VR.onTup (G:=fun x=>wpAny (MX X) A (pyIter x) Q NoE s) r fun _ _ _ g hl q=>wpAny_pyIter_tuple (hH g) (K _ _ (ax _) aJ (at_ (.tup rfl (fun _ q=>q) ⟨_,Heap.get?_push_size _ rfl,rfl,rfl⟩ (ax _ _ _ g) (mv q))))
 ·exact VR.onLst (G:=fun x=>wpAny (MX X) A (pyIter x) Q NoE s) r fun _ _ _ g hl q=>wpAny_pyIter_list (bS (R.base _ _ g)) (K _ _ (ax _) aJ (at_ (.lst rfl (fun _ q=>q) ⟨_,Heap.get?_push_size _ rfl,rfl,rfl⟩ g (mv q))))
 ·exact VR.onRef (G:=fun x=>wpAny (MX X) A (pyIter x) Q NoE s) r fun c g=>(R.objs i c _ g e1).onList fun _ _ cd g' hl r=>wpAny_pyIter_list (bS g') (K _ _ (ax _) aJ (at_ (.live rfl (fun _ q=>q) ⟨_,Heap.get?_push_size _ rfl,rfl,rfl⟩ g)))
theorem wz(R:Rep X ad s.heap S){i:Int}{t:Tok}(h0:0≤i)(h1:i < 1000000)
  (K:∀r h' tk,(∀b o,s.heap.get? b=some o→h'.get? b=some o)→(∀(s':Shared) (A':Around) (Q':Value→Shared→Prop),s'.heap=h'→
   (∀it h'',(∀b o,h'.get? b=some o→h''.get? b=some o)→h'.get? it=none→ItS X ad h'' it (·=it) (.items (r8 i.toNat)) 0→Q' (.ref it) {s' with heap:=h''})→wpAny (MX X) A' (pyIter r) Q' NoE s')→Q r {s with heap:=h',toks:=tk}):
  wpAny (MX X) A (call (.type "range") [.int i t]) Q NoE s:=by
 refine call_range_1 (K _ _ _ (ax _) fun s' A' Q' e K'=>?_)
 have hr:IsRange s'.heap s.heap.objs.size 0 i 1 s.toks t (s.toks + 1):=by rw[e];exact IsRange.new ..
 have R':Rep X ad s'.heap S:=by rw[e];exact(ai.same (ex:=noX) R (ax _)).rep
 refine wpAny_pyIter_range hr (small_one (by omega) (by omega) (by omega) (by omega)) ?_
 have z:Builtin.Range.rangeSize 0 i 1=i:=by rw[rangeSize_one];split<;>omega
 rw[z]
 rw[←e] at K'
 refine K' _ _ (ax _) aJ ⟨fun b hb=>hb▸lK R',fun b hb=>hb▸jN R',.rng rfl (fun _ q=>q) ?_⟩
 obtain⟨k,rfl⟩:=Int.eq_ofNat_of_zero_le h0
 exact Heap.get?_push_size _ rfl
end Mine
end
section
open PySem PySem.W PySem.Calls PyProof.Rows
namespace Mine
variable {X:Cx} {A:Around} {n:Nat} {ex ex':Addr→Prop} {ad ad':List au} {h h':Heap} {S S':aa} {s:Shared} {v a b:AV} {x y b':Value} {loc:Loc} {env:Env}
noncomputable def kZ(k:NameKind):Prop:=k=.local∨k=.cell∨k=.free
noncomputable def Holds(h:Heap)(env:Env)(k:NameKind)(n:Str)(val:Value):Prop:=match k with
 | .local=>∃m,h.Ns env.locals m∧m n=some val
 | _=>∃c,env.cells.lookup n=some c∧h.IsCell c (some val)
structure Frm(X:Cx)(ad:List au)(h:Heap)(env:Env)(ex:Addr→Prop)(loc:Loc):Prop where
 kind:env.scope.kind=.function
 glb:env.globals=mainGlobals
 bns:env.builtins=builtinsNs
 L:Off ad env.locals∧X.B env.locals=none∧ex env.locals∧∃m,h.Ns env.locals m
 cells:∀n c,env.cells.lookup n=some c→Off ad c∧X.B c=none∧c≠env.locals∧∃v,h.IsCell c v
 inj:∀n n' c,env.cells.lookup n=some c→env.cells.lookup n'=some c→n=n'
 exL:∀b,ex b→b=env.locals∨∃n,env.cells.lookup n=some b
 vars:∀x v,get? x loc=some v→x < nS→∀k,env.kindOf (sT x)=some k→kZ k→∃val,VR X ad h v val∧Holds h env k (sT x) val
noncomputable def Env.has(env:Env)(b:Addr):Prop:=b=env.locals∨∃n,env.cells.lookup n=some b
theorem qe{β:Type}{y x:Nat}{a b:β}:am (Nat.beq y x) a b=if y=x then a else b:=by
 by_cases e:y=x
 ·rw[if_pos e,e,Nat.beq_refl];rfl
 ·rw[if_neg e,(Bool.eq_false_iff.mpr fun q=>e (Nat.eq_of_beq_eq_true q):Nat.beq y x=false)];rfl
theorem eW(x:Nat)(v:AV)(y:Nat):∀loc:Loc,get? y (upd x v loc)=if y=x then some v else get? y loc
 | []=>qe
 | p::r=>by
  show get? y (am (Nat.beq x p.1) ((x,v)::r) (p::upd x v r))=if y=x then some v else am (Nat.beq y p.1) (some p.2) (get? y r)
  rw[qe,qe]
  by_cases e:x=p.1
  ·rw[if_pos e,←e]
   show am (Nat.beq y x) (some v) (get? y r)=_
   rw[qe]
   by_cases q:y=x
   ·rw[if_pos q,if_pos q]
   ·rw[if_neg q,if_neg q,if_neg q]
  ·rw[if_neg e]
   show am (Nat.beq y p.1) (some p.2) (get? y (upd x v r))=_
   rw[eW x v y r,qe]
   by_cases q:y=p.1
   ·rw[if_pos q,if_pos q,if_neg fun z=>e (z.symm.trans q)]
   ·rw[if_neg q,if_neg q]
theorem Holds.map{k:NameKind}{n:Str}{val:Value}(z:Holds h env k n val)(f:k=.local→(∃m,h.Ns env.locals m∧m n=some val)→∃m,h'.Ns env.locals m∧m n=some val)(g:(∃c,env.cells.lookup n=some c∧h.IsCell c (some val))→∃c,env.cells.lookup n=some c∧h'.IsCell c (some val)):Holds h' env k n val:=by
 cases k with
 | «local»=>exact f rfl z
 | _=>exact g z
theorem oU{L:Addr}{m:Str→Option Value}(q:h.Ns L m):∀o,h.get? L=some o→¬kO o:=by
 obtain⟨o,es,ep,e,d,_⟩:=q
 intro o' e'
 rw[e] at e';cases e'
 rintro ⟨vs,k,rfl⟩;simp at d
theorem uK{c:Addr}{v:Option Value}(q:h.IsCell c v):∀o,h.get? c=some o→¬kO o:=by
 obtain⟨o,e,d⟩:=q
 intro o' e'
 rw[e] at e';cases e'
 rintro ⟨vs,k,rfl⟩;simp at d
theorem lL{L:Addr}{m:Str→Option Value}(q:h.Ns L m)(k:∀o,h.get? L=some o→h'.get? L=some o):h'.Ns L m:=let⟨o,es,ep,e,r⟩:=q;⟨o,es,ep,k o e,r⟩
theorem et{c:Addr}{v:Option Value}(q:h.IsCell c v)(k:∀o,h.get? c=some o→h'.get? c=some o):h'.IsCell c v:=let⟨o,e,r⟩:=q;⟨o,k o e,r⟩
theorem Frm.off(F:Frm X ad h env ex loc){b:Addr}(q:Env.has env b):Off ad b∧∃o,h.get? b=some o:=by
 rcases q with rfl | ⟨n,e⟩
 ·obtain⟨f,_,_,m,o,es,ep,e,_⟩:=F.L;exact⟨f,o,e⟩
 ·obtain⟨f,_,_,v,o,e,_⟩:=F.cells n b e;exact⟨f,o,e⟩
theorem Frm.there(F:Frm X ad h env ex loc):∀b,ex b→∃o,h.get? b=some o:=fun b q=>(F.off (F.exL b q)).2
theorem Frm.step(F:Frm X ad h env ex loc)(R:Rep X ad h S)(T:ai X ex' ad h ad' S' h')(q:∀b,Env.has env b→¬ex' b):Frm X ad' h' env ex loc:=by
 have keep:∀b,Env.has env b→∀o,h.get? b=some o→h'.get? b=some o:=fun b z o e=>T.ext b o e (F.off z).1 (q b z)
 refine⟨F.kind,F.glb,F.bns,?_,fun n c e=>?_,F.inj,F.exL,fun x v e hx k hk vk=>?_⟩
 ·obtain⟨f,nb,x,m,N⟩:=F.L
  obtain⟨o,es,ep,e,_⟩:=id N
  exact⟨T.off e f,nb,x,m,lL N (keep _ (.inl rfl))⟩
 ·obtain⟨f,nb,ne,v,C⟩:=F.cells n c e
  obtain⟨o,e',_⟩:=id C
  exact⟨T.off e' f,nb,ne,v,et C (keep _ (.inr ⟨n,e⟩))⟩
 ·obtain⟨val,r,z⟩:=F.vars x v e hx k hk vk
  exact⟨val,r.step R T,z.map (fun _ ⟨m,N,e⟩=>⟨m,lL N (keep _ (.inl rfl)),e⟩) fun⟨c,e,C⟩=>⟨c,e,et C (keep _ (.inr ⟨_,e⟩))⟩⟩
theorem Frm.step0(F:Frm X ad h env ex loc)(R:Rep X ad h S)(T:ai X noX ad h ad' S' h'):Frm X ad' h' env ex loc:=F.step R T fun _ _ f=>f
theorem Frm.reloc{loc':Loc}(F:Frm X ad h env ex loc)(q:∀x v,get? x loc'=some v→get? x loc=some v):Frm X ad h env ex loc':=
 ⟨F.kind,F.glb,F.bns,F.L,F.cells,F.inj,F.exL,fun x v e=>F.vars x v (q x v e)⟩
theorem zU{Q:Value→Shared→Prop}(F:Frm X ad s.heap env ex loc){c:Nat}{k:NameKind}(hc:c < nS)(e:get? c loc=some v)(hk:env.kindOf (sT c)=some k)(vk:kZ k)(nc:(sT c==("__classdict__":Str))=false)
  (K:∀val,VR X ad s.heap v val→Q val s):wpAny (MX X) A (loadName env (sT c)) Q NoE s:=by
 obtain⟨val,r,z⟩:=F.vars c v e hc k hk vk
 rcases vk with rfl | rfl | rfl
 ·obtain⟨m,N,e⟩:=z;exact wpAny_loadName_local F.kind hk N e (K val r)
 ·obtain⟨p,e,C⟩:=z;exact wpAny_loadName_cell F.kind hk e C (K val r)
 ·obtain⟨p,e,C⟩:=z;exact wpAny_loadName_free F.kind hk e C (K val r) nc
noncomputable def oV(env:Env)(ex:Addr→Prop)(n:Str):Prop:=env.kindOf n=some .local∨(env.kindOf n=some .cell∧∃c,env.cells.lookup n=some c∧ex c)
theorem Frm.stored(F:Frm X ad h env ex loc)(R:Rep X ad h S){c:Nat}(hc:c < nS)(T:ai X ex ad h ad S h')(L':∃m,h'.Ns env.locals m)(C':∀n c,env.cells.lookup n=some c→∃v,h'.IsCell c v)(r:VR X ad h v x)
  (new:∀k,env.kindOf (sT c)=some k→Holds h' env k (sT c) x)(old:∀n k val,n≠sT c→env.kindOf n=some k→Holds h env k n val→Holds h' env k n val):Frm X ad h' env ex (upd c v loc):=by
 refine⟨F.kind,F.glb,F.bns,⟨F.L.1,F.L.2.1,F.L.2.2.1,L'⟩,fun n c e=>⟨(F.cells n c e).1,(F.cells n c e).2.1,(F.cells n c e).2.2.1,C' n c e⟩,F.inj,F.exL,fun y u e hy k hk vk=>?_⟩
 rw[eW] at e
 by_cases z:y=c
 ·rw[if_pos z] at e
  rw[z] at hk ⊢
  exact⟨x,Option.some.inj e▸r.step R T,new k hk⟩
 ·rw[if_neg z] at e
  obtain⟨val,r',w⟩:=F.vars y u e hy k hk vk
  exact⟨val,r'.step R T,old _ k val (fun q=>z (iX hy hc q)) hk w⟩
theorem DJ{L:Addr}{m m':Str→Option Value}(N:h.Ns L m)(N':h.Ns L m')(n:Str):m n=m' n:=by
 obtain⟨o1,es1,ep1,g1,d1,_,f1⟩:=N
 obtain⟨o2,es2,ep2,g2,d2,_,f2⟩:=N'
 rw[g1] at g2;cases g2;rw[d1] at d2;cases d2
 rw[←f2,f1]
theorem fP{Q:Unit→Shared→Prop}(R:Rep X ad s.heap S)(F:Frm X ad s.heap env ex loc){c:Nat}(hc:c < nS)(st:oV env ex (sT c))(r:VR X ad s.heap v x)
  (K:∀h' tk,ai X ex ad s.heap ad S h'→Frm X ad h' env ex (upd c v loc)→Q () {s with heap:=h',toks:=tk}):wpAny (MX X) A (storeName env (sT c) x) Q NoE s:=by
 obtain⟨fL,nbL,xL,mL,NL⟩:=F.L
 rcases st with hk | ⟨hk,p,hp,xp⟩
 ·refine wpAny_storeName_local hk NL (fun h' N' sb=>?_) (by rw[F.kind];rfl)
  have T:ai X ex ad s.heap ad S h':=ai.write R fL nbL (oU NL) (fun b o e q=>(sb.2 b q).trans e) xL
  have C':∀n c v,env.cells.lookup n=some c→s.heap.IsCell c v→h'.IsCell c v:=fun n c v e C=>et C fun o e'=>(sb.2 _ (F.cells n c e).2.2.1).trans e'
  refine K h' _ T (F.stored R hc T ⟨_,N'⟩ (fun n c e=>(F.cells n c e).2.2.2.imp fun v C=>C' n c v e C) r (fun k hk'=>?_) fun n k val ne hk' w=>w.map (fun _ ⟨m,N,e⟩=>⟨_,N',?_⟩) fun⟨q,e,C⟩=>⟨q,e,C' _ _ _ e C⟩)
  ·rw[←Option.some.inj (hk.symm.trans hk')]
   exact⟨_,N',if_pos rfl⟩
  ·exact(if_neg ne).trans ((DJ NL N n).trans e)
 ·obtain⟨fp,nbp,nep,vp,Cp⟩:=F.cells _ _ hp
  refine wpAny_storeName_cell F.kind hk hp Cp (fun h' C' sb=>?_)
  have T:ai X ex ad s.heap ad S h':=ai.write R fp nbp (uK Cp) (fun b o e q=>(sb.2 b q).trans e) xp
  have keep:∀{b},b≠p→∀o,s.heap.get? b=some o→h'.get? b=some o:=fun z o e=>(sb.2 _ z).trans e
  refine K h' s.toks T (F.stored R hc T ⟨mL,lL NL (keep nep.symm)⟩ (fun n c' e=>?_) r (fun k hk'=>?_) fun n k val ne hk' w=>w.map (fun _ ⟨m,N,e⟩=>⟨m,lL N (keep nep.symm),e⟩) fun⟨q,e,C⟩=>⟨q,e,et C (keep fun w=>ne (F.inj _ _ _ (w▸e) hp))⟩)
  ·by_cases z:c'=p
   ·rw[z];exact⟨_,C'⟩
   ·exact(F.cells n c' e).2.2.2.imp fun v C=>et C (keep z)
  ·rw[←Option.some.inj (hk.symm.trans hk')]
   exact⟨p,hp,C'⟩
noncomputable def fB:List (Nat×AV)→Loc→Loc
 | [],loc=>loc
 | p::r,loc=>fB r (upd p.1 p.2 loc)
theorem nE{Q:Unit→Shared→Prop}{cs:List Nat}:∀{vs:List AV} {xs:List Value} {ts:List (Value→Sem Unit)} {s:Shared} {loc:Loc},Rep X ad s.heap S→Frm X ad s.heap env ex loc→
  (∀c∈cs,c < nS∧oV env ex (sT c))→cs.length=vs.length→ts.length=cs.length→
  (∀(i:Nat) (t:Value→Sem Unit) (c:Nat),ts[i]?=some t→cs[i]?=some c→∀(s:Shared) (x:Value) (Q:Unit→Shared→Prop),wpAny (MX X) A (storeName env (sT c) x) Q NoE s→wpAny (MX X) A (t x) Q NoE s)→VRs X ad s.heap vs xs→
  (∀h' tk,ai X ex ad s.heap ad S h'→Frm X ad h' env ex (fB (cs.zip vs) loc)→Q () {s with heap:=h',toks:=tk})→wpAny (MX X) A (assignInOrder ts xs) Q NoE s:=by
 induction cs with
 | nil=>
  intro vs xs ts s loc R F _ hl ht _ r K
  cases vs with
  | cons _ _=>exact nomatch hl
  | nil=>cases ts with
   | cons _ _=>exact nomatch ht
   | nil=>exact VRs.onNil (G:=fun xs=>wpAny (MX X) A (assignInOrder [] xs) Q NoE s) r (wpAny_pure (K s.heap s.toks (ai.refl R) F))
 | cons c cs ih=>
  intro vs xs ts s loc R F hs hl ht h r K
  cases vs with
  | nil=>exact nomatch hl
  | cons v vs=>cases ts with
   | nil=>exact nomatch ht
   | cons t ts=>
    refine VRs.onCons (G:=fun xs=>wpAny (MX X) A (assignInOrder (t::ts) xs) Q NoE s) r fun x xs r rs=>wpAny_bind (wpAny_holding (h 0 t c rfl rfl s _ _ (fP R F (hs c (.head _)).1 (hs c (.head _)).2 r fun h' tk T F'=>?_)))
    exact ih (s:={s with heap:=h',toks:=tk}) T.rep F' (fun c' hc'=>hs c' (.tail _ hc')) (Nat.succ.inj hl) (Nat.succ.inj ht) (fun i t c e1 e2=>h (i + 1) t c e1 e2) (rs.step R T) fun h'' tk' T' F''=>K h'' tk' (T.trans T') F''
end Mine
end
section
open PySem PySem.W PySem.Calls PyProof.Rows
namespace Mine
variable {X:Cx} {P:Pg} {at_:List Nat} {A:Around} {n:Nat} {ex ex':Addr→Prop} {ad ad':List au} {h h':Heap} {S S':aa} {s:Shared} {v a b:AV} {x y b':Value} {loc:Loc} {env:Env} {Q:Value→Shared→Prop}
structure Gz(X:Cx)(P:Pg)(at_:List Nat)(k:Nat)(nm q:Str)(N:Addr)(bs:List Value)(sn:List Str)(sub:List Value)(col:Option Bool)(dd:Option Addr)(k0 k1 k2 k3 k5:Option Value)(mN:Str→Option Value):Prop where
 obj:X.B (X.ca k)=some (excClassObj nm q (X.ca k) N bs [.type "object"] true sn sub false col dd k0 k1 k2 k3 k5 "object.__new__")
 ns:∀h,X.On h→h.Ns N mN
 ga:mN "__getattribute__"=none
 gh:mN "__getattr__"=none
 sa:mN "__setattr__"=none
 eq:mN "__eq__"=none
 ne:mN "__ne__"=none
 atn:∀c∈at_,mN (sT c)=none
 met:∀m f,P.meth k m=some f→mN (sT m)=some (.ref (X.fa f))
 ini:∀f,P.init k=some f→mN "__init__"=some (.ref (X.fa f))
inductive Cls(X:Cx)(P:Pg)(at_:List Nat)(k:Nat):Prop
 | mk (nm q:Str) (N:Addr) (bs:List Value) (sn:List Str) (sub:List Value) (col:Option Bool) (dd:Option Addr) (k0 k1 k2 k3 k5:Option Value) (mN:Str→Option Value) (C:Gz X P at_ k nm q N bs sn sub col dd k0 k1 k2 k3 k5 mN):Cls X P at_ k
structure cD(X:Cx)(P:Pg)(at_:List Nat):Prop where
 nolimit:∀h,X.On h→h.NoLimit
 sysm:∀h,X.On h→sysModules < h.objs.size
 gns:∀h,X.On h→h.Ns mainGlobals X.mg
 bns:∀h,X.On h→h.Ns builtinsNs X.mb
 cls:∀k,(P.init k).isSome=true→Cls X P at_ k
 atl:∀c∈at_,c < nS∧typeLookup (.type "object") (sT c)=pure none
 metl:∀k m f,P.meth k m=some f→m < nS∧∃y,typeLookup (.type "object") (sT m)=pure y
 fnc:∀k f,(P.init k=some f∨∃m,P.meth k m=some f)→∃o,X.B (X.fa f)=some o∧o.cls=.type "function"∧∃fd,o.data=.func fd
 emp:P.emp < nS∧sT P.emp=⟨⟨[]⟩⟩
 nmPop:sT P.mn.pop=Str.ofString "pop"
 nmAppend:sT P.mn.append=Str.ofString "append"
 nmExtend:sT P.mn.extend=Str.ofString "extend"
 nmIndex:sT P.mn.index=Str.ofString "index"
 nmGet:sT P.mn.get=Str.ofString "get"
 nmSetdefault:sT P.mn.setdefault=Str.ofString "setdefault"
 eqt:dG X P.eqt
theorem VR.handed{v:AV}{x:Value}(r:VR X ad h v x):handedOut x=pure x:=
 (VR.ind (M:=fun _ x=>handedOut x=pure x) (ML:=fun _ _=>True) (MD:=fun _ _=>True) rfl (fun _=>rfl) (fun _ _=>rfl) (fun _ _ _=>rfl) (fun _ _ _=>rfl) (fun _ _ _=>rfl) (fun _ _ _ _=>rfl) (fun _ _ _=>rfl) (fun _=>rfl) (fun _ q=>q) trivial (fun _ _=>trivial) trivial fun _ _ _=>trivial).1 r
theorem qg(R:Rep X ad h S){k:Nat}{l:List (Nat×AV)}(r:VR X ad h v x)(e:v=.ins k l∨∃i,v=.ref i∧S[i]?=some (.inst k l)):∃p kvs,x=.ref p∧IO X h k p kvs∧l.length≤lim∧VRd X ad h l kvs:=by
 rcases e with rfl | ⟨i,rfl,e⟩
 ·exact VR.onIns (G:=fun x=>∃p kvs,x=.ref p∧IO X h k p kvs∧l.length≤lim∧VRd X ad h l kvs) r fun _ _ i hl q=>⟨_,_,rfl,i _ R.base,hl,q⟩
 ·exact VR.onRef (G:=fun x=>∃p kvs,x=.ref p∧IO X h k p kvs∧l.length≤lim∧VRd X ad h l kvs) r fun c g=>(R.objs i c _ g e).onInst fun _ i _ hl q=>⟨_,_,rfl,i,hl,q⟩
theorem zV(G:cD X P at_)(R:Rep X ad s.heap S){c k:Nat}{l:List (Nat×AV)}(hc:c∈at_)(r:VR X ad s.heap v x)(e:v=.ins k l∨∃i,v=.ref i∧S[i]?=some (.inst k l))(hk:(P.init k).isSome=true)
  {u:AV}(hu:cx c l=some u)(K:Ret X ad s u S Q):wpAny (MX X) A (getAttr x (sT c) true) Q NoE s:=by
 obtain⟨p,kvs,rfl,I,hl,q⟩:=qg R r e
 obtain⟨nm,qn,N,bs,sn,sub,col,dd,k0,k1,k2,k3,k5,mN,C⟩:=G.cls k hk
 refine(q.gets (G.atl c hc).1).elim (fun⟨u',y,e',hy,ry⟩=>?_) fun z=>nomatch hu.symm.trans z.1
 rw[Option.some.inj (e'.symm.trans hu)] at ry
 exact load_attr (h:=s.heap) (g:=s.gens) (d:=s.drawn) (t:=s.toks) (os:=s.os) (R.base _ _ C.obj) (C.ns _ R.base) C.ga (C.atn c hc) (G.atl c hc).2 I hy ry.handed (K.val R ry _)
theorem wA(G:cD X P at_)(R:Rep X ad s.heap S){c:Nat}(hc:c∈at_)(r:VR X ad s.heap a x)(e:tC P a c S=some (v,S'))(K:Ret X ad s v S' Q):wpAny (MX X) A (getAttr x (sT c) true) Q NoE s:=by
 have at_:∀{k l},(a=.ins k l∨∃i,a=.ref i∧S[i]?=some (.inst k l))→Dn P k l c S=some (v,S')→wpAny (MX X) A (getAttr x (sT c) true) Q NoE s:=fun z e=>ah e nN fun f e1 e=>ah e nN fun u e2 e=>zV G R hc r z (by rw[e1];rfl) e2 (K.of e)
 exact v7 e (fun k l h e=>at_ (.inl h) e) fun e=>cS e nN fun i h e=>ow e nN fun k l e1 e=>at_ (.inr ⟨i,h,e1⟩) e
theorem zW{kvs:List (Str×Value)}{y:Str}(hy:valueAt kvs y≠none):y∈kvs.map (·.1):=by
 unfold valueAt at hy
 cases hf:kvs.find? (fun kv=>decide (kv.1=y)) with
 | none=>rw[hf] at hy;exact absurd rfl hy
 | some kv=>exact List.mem_map.mpr ⟨kv,List.mem_of_find?_eq_some hf,by have:=List.find?_some hf;exact of_decide_eq_true this⟩
theorem wB(R:Rep X ad h S){c i k:Nat}{cl:au}{l:List (Nat×AV)}{kvs:List (Str×Value)}(e1:ad[i]?=some cl)(I:IO X h k cl.a kvs)(dq:∀o,h.get? cl.a=some o→o.dict=some cl.d)(q:VRd X ad h l kvs)(hcn:c < nS)(rv:VR X ad h v y)(hlt:l.length < lim)
  (I':h'.Inst cl.a (X.ca k) (fun z=>if z=sT c then some y else valueAt kvs z))(hk':∀b o,b≠cl.a→(∀o0 dx,h.get? cl.a=some o0→o0.dict=some dx→b≠dx)→h.get? b=some o→h'.get? b=some o)
  (hsame:∀o0,h.get? cl.a=some o0→∃o1,h'.get? cl.a=some o1∧o1.cls=o0.cls∧o1.data=o0.data∧o1.slots=o0.slots∧∀dx,o0.dict=some dx→o1.dict=some dx):ai X ex ad h ad (setAt S i (.inst k (dI c v l))) h':=by
 have I2:IO X h' k cl.a (lF (sT c) y kvs):=by unfold IO;rw[tN];exact I'
 have dq':∀o,h'.get? cl.a=some o→o.dict=some cl.d:=fun o eo=>by
  obtain⟨o0,e0,_⟩:=I.there
  obtain⟨o1,e1',_,_,_,z⟩:=hsame o0 e0
  rw[Option.some.inj (eo.symm.trans e1')]
  exact z _ (dq _ e0)
 have keep:∀b o,h.get? b=some o→b≠cl.a→b≠cl.d→h'.get? b=some o:=fun b o eo na nd=>hk' b o na (fun o0 dx e0 ed=>Option.some.inj ((dq _ e0).symm.trans ed)▸nd) eo
 refine ai.set R e1 keep (fun b o eo=>?_) (.inst I2 dq' (lH hlt) ((jv hcn q rv).move (fun b vs n q=>keep b _ q ((R.no_tup q).ne e1).1 ((R.no_tup q).ne e1).2) (fun _ _ q=>q)))
 by_cases na:b=cl.a
 ·rw[na];obtain⟨o,q,_⟩:=I2.there;exact⟨o,q⟩
 ·by_cases nd:b=cl.d
  ·rw[nd];obtain⟨_,o,es,ep,q,_⟩:=I2.dict dq';exact⟨o,q⟩
  ·exact⟨o,keep b o eo na nd⟩
theorem r9{Q:Unit→Shared→Prop}(G:cD X P at_)(R:Rep X ad s.heap S){c i k:Nat}{l:List (Nat×AV)}(hc:c∈at_)(r:VR X ad s.heap (.ref i) x)(e:S[i]?=some (.inst k l))(hk:(P.init k).isSome=true)(hlt:l.length < lim)
  (rv:VR X ad s.heap v y)(K:∀h' tk,ai X noX ad s.heap ad (setAt S i (.inst k (dI c v l))) h'→Q () {s with heap:=h',toks:=tk}):wpAny (MX X) A (setAttr x (sT c) y) Q NoE s:=by
 refine VR.onRef (G:=fun x=>wpAny (MX X) A (setAttr x (sT c) y) Q NoE s) r fun cl e1=>(R.objs i cl _ e1 e).onInst fun kvs I dq hl q=>?_
 obtain⟨nm,qn,N,bs,sn,sub,col,dd,k0,k1,k2,k3,k5,mN,C⟩:=G.cls k hk
 obtain⟨hcn,hB⟩:=G.atl c hc
 have hxC:cl.a≠X.ca k:=fun z=>by have:=(R.new cl (List.mem_of_getElem? e1)).1;rw[z,C.obj] at this;exact nomatch this
 exact store_attr (h:=s.heap) (g:=s.gens) (d:=s.drawn) (t:=s.toks) (os:=s.os) (ns:=kvs.map (·.1)) F.store_object (R.base _ _ C.obj) (C.ns _ R.base) C.sa (C.atn c hc) hB hxC I (fun h' tk' I' hk' hsame=>K h' tk' (wB R e1 I dq q hcn rv hlt I' hk' hsame))
  (fun y hy=>zW hy) (by rw[List.length_map];exact lE q.length hl)
theorem zX{Q:Value×List Value→Shared→Prop}{pl:Sem Bool}(G:cD X P at_)(R:Rep X ad s.heap S){m k f:Nat}{l:List (Nat×AV)}(r:VR X ad s.heap v x)(e:v=.ins k l∨∃i,v=.ref i∧S[i]?=some (.inst k l))(hk:(P.init k).isSome=true)
  (hm:P.meth k m=some f)(hu:cx m l=none)(K:Q (.ref (X.fa f),[x]) s):wpAny (MX X) A (getMethod x (sT m) pl) Q NoE s:=by
 obtain⟨p,kvs,rfl,I,hl,q⟩:=qg R r e
 obtain⟨nm,qn,N,bs,sn,sub,col,dd,k0,k1,k2,k3,k5,mN,C⟩:=G.cls k hk
 obtain⟨hmn,y,hB⟩:=G.metl k m f hm
 have z:valueAt kvs (sT m)=none:=(q.gets hmn).elim (fun⟨_,_,e',_⟩=>nomatch hu.symm.trans e') fun z=>z.2
 obtain⟨o,ho,hc,_⟩:=G.fnc k f (.inr ⟨m,hm⟩)
 exact method_of (h:=s.heap) (g:=s.gens) (d:=s.drawn) (t:=s.toks) (os:=s.os) (R.base _ _ C.obj) (C.ns _ R.base) C.ga C.gh (C.met m f hm) (R.base _ _ ho) hc hB I z K
noncomputable def bo(X:Cx)(n f:Nat)(args:List AV)(S:aa)(v:AV)(S':aa):Prop:=
 ∀(A:Around) (ad:List au) (s:Shared) (xs:List Value) (Q:Value→Shared→Prop),aQ A n→Rep X ad s.heap S→VRs X ad s.heap args xs→Ret X ad s v S' Q→wpAny (MX X) A (call (.ref (X.fa f)) xs) Q NoE s
noncomputable def Snd(X:Cx)(n:Nat)(cf:CF):Prop:=∀f args S v S',cf f args S=some (v,S')→bo X n f args S v S'
theorem wC(ho:aQ A (n + 1)){k:Nat}{xs:List Value}:aQ (A.under (.builtin "type.__call__" ⟨.ref (X.ca k)::xs,[]⟩)) n:=by
 have hd:=ho.depth
 have hu:=ho.units
 refine⟨?_,?_,ho.handled⟩
 ·have:(Code.builtin "type.__call__" ⟨.ref (X.ca k)::xs,[]⟩).weight≤2:=Nat.le_of_ble_eq_true rfl
  show A.depth + _ + 2 * n + 4≤_
  omega
 ·have:(Code.builtin "type.__call__" ⟨.ref (X.ca k)::xs,[]⟩).cUnits≤20:=Nat.le_of_ble_eq_true rfl
  show A.units + _ + 20 * n + 300≤_
  omega
theorem DK(G:cD X P at_){cf:CF}(C:Snd X n cf)(ho:aQ A (n + 1))(R:Rep X ad s.heap S){k:Nat}{args:List AV}{xs:List Value}(ra:VRs X ad s.heap args xs)(e:wc P cf k args S=some (v,S'))(K:Ret X ad s v S' Q):
  wpAny (MX X) A (call (.ref (X.ca k)) xs) Q NoE s:=by
 refine ah e nN fun f hf e=>?_
 rw[cX] at e
 have e:bnd (cf f (.ref S.length::args) (S++[.inst k []])) (fun v T=>iN v (some (.ref S.length,T)) none)=some (v,S'):=e
 refine fJ e fun r S1 e1 e=>tw e nN fun hr e=>?_
 have K:=K.of e
 obtain⟨nm,qn,N,bs,sn,sub,col,dd,k0,k1,k2,k3,k5,mN,CC⟩:=G.cls k (by rw[hf];rfl)
 obtain⟨o,hfo,hfc,_⟩:=G.fnc k f (.inl hf)
 refine wpAny_call_obj_init (h:=s.heap) (g:=s.gens) (d:=s.drawn) (t:=s.toks) (os:=s.os) F.objNew (R.base _ _ CC.obj) (CC.ns _ R.base) (CC.ini f hf) (R.base _ _ hfo) hfc fun h' p dx M=>?_
 have T:ai X noX ad s.heap (ad++[⟨p,dx⟩]) (S++[.inst k []]) h':=ai.newInst R M
 refine C f _ _ _ _ e1 _ (ad++[⟨p,dx⟩]) ⟨h',s.gens,s.drawn,s.toks,s.os⟩ _ _ (wC ho) T.rep (.cons (dg R) (ra.step R T)) fun ad' h'' tk y T' ry=>?_
 rw[hr] at ry
 exact VR.onNone (G:=fun y=>y=.none∧_) ry ⟨rfl,K ad' h'' tk _ (T.trans T') (.ref (c:=⟨p,dx⟩) (T'.pre _ _ (by rw[←R.len];exact ni)))⟩
end Mine
end
section
open PySem PySem.W PySem.Calls PyProof.Rows
namespace Mine
variable {X:Cx} {P:Pg} {at_:List Nat} {A:Around} {n:Nat} {ex ex':Addr→Prop} {ad ad':List au} {h h':Heap} {S S':aa} {s:Shared} {v a b:AV} {x y b':Value} {loc:Loc} {env:Env} {Q:Value→Shared→Prop}
theorem qh(G:cD X P at_)(R:Rep X ad h S){k:Nat}{p:Addr}{kvs:List (Str×Value)}(I:IO X h k p kvs)(hk:(P.init k).isSome=true):h.CmpInst p (X.ca k) [.type "object"]:=by
 obtain⟨nm,qn,N,bs,sn,sub,col,dd,k0,k1,k2,k3,k5,mN,C⟩:=G.cls k hk
 obtain⟨o,e,c⟩:=I.there
 exact⟨o,nm,qn,N,bs,_,sn,sub,_,col,dd,k0,k1,k2,k3,k5,_,mN,e,c,R.base _ _ C.obj,C.ns _ R.base,C.eq,C.ne⟩
theorem i0(G:cD X P at_)(R:Rep X ad s.heap S)(ho:aQ A n){i j k k':Nat}{l l':List (Nat×AV)}(rx:VR X ad s.heap (.ref i) x)(ry:VR X ad s.heap (.ref j) y)(ex:S[i]?=some (.inst k l))(ey:S[j]?=some (.inst k' l'))
  (hk:(P.init k).isSome=true)(hk':(P.init k').isSome=true):PySem.SeqAt.EqAt A.in1 s x y (Nat.beq i j)∧((x=y)↔i=j):=by
 refine VR.onRef (G:=fun x=>PySem.SeqAt.EqAt A.in1 s x y (Nat.beq i j)∧((x=y)↔i=j)) rx fun c g=>VR.onRef (G:=fun y=>PySem.SeqAt.EqAt A.in1 s (.ref c.a) y (Nat.beq i j)∧((.ref c.a=y)↔i=j)) ry fun c' g'=>?_
 by_cases e:i=j
 ·rw[e] at g
  rw[e,Nat.beq_refl,Option.some.inj (g.symm.trans g')]
  exact⟨.same _,iff_of_true rfl rfl⟩
 ·have hpq:=(R.sep i j _ _ e g g').1
  rw[(Bool.eq_false_iff.mpr fun q=>e (Nat.eq_of_beq_eq_true q):Nat.beq i j=false)]
  refine(R.objs i c _ g ex).onInst fun _ I _ _ _=>(R.objs j c' _ g' ey).onInst fun _ I' _ _ _=>⟨.of_refs hpq fun prog w E Q hq=>?_,iff_of_false (fun z=>hpq (Value.ref.inj z)) e⟩
  exact richCompare_eq_other (h:=s.heap) (g:=s.gens) (d:=s.drawn) (t:=s.toks) (os:=s.os) F.cmp_object F.cmp_object (qh G R I hk) (qh G R I' hk') hpq (by have:=ho.one;show A.units + 1 < _;omega) hq
theorem ky{i:Nat}:∀{l:List AV} {k r:Nat},iW i l k=some r→∃m,r=k + m∧l[m]?=some (.ref i)∧∀j,j < m→∃u,l[j]?=some (.ref u)∧u≠i
 | [],k,r,e=>nomatch e
 | u::l,k,r,e=>ov (G:=fun u=>∃m,r=k + m∧(u::l)[m]?=some (.ref i)∧∀j,j < m→∃u',(u::l)[j]?=some (.ref u')∧u'≠i) e nN fun j e=>aE e (fun q e=>⟨0,(Option.some.inj e).symm,by rw[Nat.eq_of_beq_eq_true q];rfl,fun _ h=>absurd h (Nat.not_lt_zero _)⟩) fun q e=>
  (ky e).elim fun m z=>⟨m + 1,by rw[z.1,Nat.add_assoc,Nat.add_comm 1],z.2.1,fun j' hj=>by
   cases j' with
   | zero=>exact⟨j,rfl,fun z=>by rw[z,Nat.beq_refl] at q;exact nomatch q⟩
   | succ j'=>exact z.2.2 j' (Nat.lt_of_succ_lt_succ hj)⟩
theorem wD(G:cD X P at_)(R:Rep X ad s.heap S)(ho:aQ A n){i j:Nat}{l:List AV}(r:VR X ad s.heap (.ref i) x)(e:S[i]?=some (.list l))(rv:VR X ad s.heap (.ref j) y)(ha:kW P S (.ref j::l)=true){m:Nat}(hm:iW j l 0=some m)
  (K:Ret X ad s (.int m) S Q):wpAny (MX X) A (call (.builtin "list.index") [x,y]) Q NoE s:=by
 obtain⟨c,vs,k,e1,rfl,cd,g,hl,q⟩:=fO R r e
 obtain⟨m',rfl,h1,h2⟩:=ky hm
 rw[Nat.zero_add] at K
 have inst:∀{u},u∈(.ref j::l:List AV)→∃i k f,u=.ref i∧S[i]?=some (.inst k f)∧(P.init k).isSome=true:=fun {u} hu=>cS (List.all_eq_true.mp ha u hu) nF fun i h e=>ow e nF fun k f e1 e=>⟨i,k,f,h,e1,e⟩
 have ref:∀{u},(.ref u:AV)∈(.ref j::l:List AV)→∃k f,S[u]?=some (.inst k f)∧(P.init k).isSome=true:=fun hu=>(inst hu).elim fun i ⟨k,f,h,e,p⟩=>⟨k,f,AV.ref.inj h▸e,p⟩
 obtain⟨kj,fj,ej,hkj⟩:=ref (.head _)
 obtain⟨x',hx',rx'⟩:=q.get h1
 have hm':m' < vs.toArray.size:=by rw[List.size_toArray];exact ae hx'
 have item:∀{i':Nat} {y':Value},vs[i']?=some y'→∃u,l[i']?=some u∧VR X ad s.heap u y':=fun {i' y'} hy=>by
  have el:=List.getElem?_eq_getElem (show i' < l.length from q.length▸ae hy)
  obtain⟨y2,e2,r2⟩:=q.get el
  exact⟨_,el,Option.some.inj (e2.symm.trans hy)▸r2⟩
 have at_:∀{k:Nat} {y':Value} (h:k < vs.toArray.size),vs[k]?=some y'→vs.toArray[k]=y':=fun h e=>by
  rw[List.getElem?_eq_getElem (by rw[List.size_toArray] at h;exact h)] at e
  rw[List.getElem_toArray];exact Option.some.inj e
 refine call_meets PySem.F.slot_list_index ⟨_,g,rfl⟩ PySem.F.entry_list_index (PySem.F.args_list_index_2 _ _)
  (PySem.SeqAt.list_indexAt c.a vs.toArray k none #[] y (fun z=>decide (z=y)) m' hm' (by have hw:=q.length;have L:lim=1000:=rfl;rw[List.size_toArray] at hm';omega) ?_ ?_) ⟨g,fun z hz=>?_,K.val R (.int _ _) _⟩
 ·rw[at_ hm' hx',(i0 G R ho rx' rv ej ej hkj hkj).2.mpr rfl]
  exact decide_eq_true rfl
 ·intro i' hi' hlt'
  obtain⟨u,hu,hne⟩:=h2 i' hlt'
  obtain⟨y',hy',ry'⟩:=q.get hu
  obtain⟨k2,f2,e3,hk2⟩:=ref (.tail _ (List.mem_of_getElem? hu))
  rw[at_ hi' hy']
  exact decide_eq_false fun z=>hne ((i0 G R ho ry' rv e3 ej hk2 hkj).2.mp z)
 ·obtain⟨i',hi',hz'⟩:=List.getElem_of_mem (List.mem_toArray.mp hz)
  obtain⟨u,hu,ru⟩:=item (i':=i') (y':=z) (by rw[←hz'];exact List.getElem?_eq_getElem hi')
  obtain⟨iu,k2,f2,zz,e3,hk2⟩:=inst (.tail _ (List.mem_of_getElem? hu))
  rw[zz] at ru
  have t:=i0 G R ho ru rv e3 ej hk2 hkj
  have e4:decide (z=y)=Nat.beq iu j:=by
   cases w:Nat.beq iu j with
   | true=>exact decide_eq_true (t.2.mpr (Nat.eq_of_beq_eq_true w))
   | false=>exact decide_eq_false fun q=>by rw[t.2.mp q,Nat.beq_refl] at w;exact nomatch w
  rw[e4];exact t.1
inductive LM(P:Pg)(i:Nat)(l:List AV)(m:Nat)(args:List AV)(S:aa):AV→aa→Prop
 | pop {v:AV}:m=P.mn.pop→args=[]→l.getLast?=some v→LM P i l m args S v (setAt S i (.list l.dropLast))
 | append {v:AV}:m=P.mn.append→args=[v]→l.length < lim→LM P i l m args S .none (setAt S i (.list (l++[v])))
 | extend {v:AV} {k:List AV}:m=P.mn.extend→args=[v]→bj v S=some k→(l++k).length≤lim→LM P i l m args S .none (setAt S i (.list (l++k)))
 | index {j n:Nat}:m=P.mn.index→args=[.ref j]→kW P S (.ref j::l)=true→iW j l 0=some n→LM P i l m args S (.int n) S
theorem zY{i m:Nat}{l:List AV}{args:List AV}(e:ly P i l m args S=some (v,S')):LM P i l m args S v S':=by
 have at_:∀{r:AV×aa},LM P i l m args S r.1 r.2→some r=some (v,S')→LM P i l m args S v S':=fun {r} k e=>by cases Option.some.inj e;exact k
 have put:∀{l':List AV} {r:AV},LM P i l m args S r (setAt S i (.list l'))→br l' (fun l=>fz S i (.list l) fun S=>some (r,S))=some (v,S')→LM P i l m args S v S':=fun {l' r} k e=>by rw[aB,bU] at e;exact at_ (r:=(r,_)) k e
 refine bu (G:=fun a=>args=a→_) e (fun e h=>aC e nN fun q e=>ah e nN fun u q2 e=>put (.pop (Nat.eq_of_beq_eq_true q) h q2) e) (fun u t e=>bu (G:=fun t=>args=u::t→_) e (fun e h=>?_) fun _ _ e=>nomatch e) rfl
 refine aE e (fun q1 e=>aC e nN fun q2 e=>put (.append (Nat.eq_of_beq_eq_true q1) h (Nat.le_of_ble_eq_true q2)) e) fun _ e=>aE e (fun q1 e=>aE e (fun _ e=>nomatch e) fun _ e=>ah e nN fun k q3 e=>aC e nN fun q4 e=>put (.extend (Nat.eq_of_beq_eq_true q1) h q3 (Nat.le_of_ble_eq_true q4)) e)
  fun _ e=>aC e nN fun q1 e=>cS e nN fun j hu e=>aC e nN fun q2 e=>ah e nN fun n q3 e=>?_
 rw[aO] at e
 rw[hu] at h q2
 exact at_ (r:=(.int n,S)) (.index (Nat.eq_of_beq_eq_true q1) h q2 q3) e
inductive DM(P:Pg)(i:Nat)(l:List (Nat×AV))(m:Nat)(args:List AV)(S:aa):AV→aa→Prop
 | get {k:Nat} {d:AV}:m=P.mn.get→args=[.str k,d]→DM P i l m args S ((cx k l).getD d) S
 | setdefault {k:Nat} {d:AV} {u:AV}:m=P.mn.setdefault→args=[.str k,d]→cx k l=some u→DM P i l m args S u S
 | setnew {k:Nat} {d:AV}:m=P.mn.setdefault→args=[.str k,d]→cx k l=none→l.length < lim→DM P i l m args S d (setAt S i (.dict (dI k d l)))
theorem zZ{i m:Nat}{l:List (Nat×AV)}{args:List AV}(e:oH P i l m args S=some (v,S')):DM P i l m args S v S':=by
 refine bu (G:=fun a=>args=a→_) e (fun e=>nomatch e) (fun u t e=>bu (G:=fun t=>args=u::t→_) e (fun e=>nomatch e) fun d t e=>bu (G:=fun t=>args=u::d::t→_) e (fun e h=>iU e nN fun k hu e=>?_) fun _ _ e=>nomatch e) rfl
 rw[hu] at h
 have at_:∀{r:AV×aa},DM P i l m args S r.1 r.2→some r=some (v,S')→DM P i l m args S v S':=fun {r} k e=>by cases Option.some.inj e;exact k
 refine aE e (fun q1 e=>?_) fun _ e=>aC e nN fun q1 e=>c9 e (fun u q2 e=>at_ (r:=(u,S)) (.setdefault (Nat.eq_of_beq_eq_true q1) h q2) e) fun q2 e=>aC e nN fun q3 e=>?_
 ·have g:=DM.get (P:=P) (i:=i) (l:=l) (S:=S) (Nat.eq_of_beq_eq_true q1) h
  refine c9 e (fun u q2 e=>?_) fun q2 e=>?_<;>rw[q2] at g
  ·exact at_ (r:=(u,S)) g e
  ·exact at_ (r:=(d,S)) g e
 ·rw[aB,bU] at e
  exact at_ (r:=(d,setAt S i (.dict (dI k d l)))) (.setnew (Nat.eq_of_beq_eq_true q1) h q2 (Nat.le_of_ble_eq_true q3)) e
end Mine
end
section
open PySem PySem.W PySem.Calls PyProof.Rows
namespace Mine
variable {X:Cx} {P:Pg} {at_:List Nat} {A:Around} {n wf:Nat} {cf:CF} {ex ex':Addr→Prop} {ad ad' ad1:List au} {h h' h1:Heap} {S S' S1:aa} {s:Shared} {v a b:AV} {x y b':Value} {loc:Loc} {env:Env} {Q:Value→Shared→Prop}
structure Scp(env:Env)(ex:Addr→Prop)(nk:Nat→Option NameKind):Prop where
 kinds:∀c,c < nS→∀k,nk c=some k→∃k',env.kindOf (sT c)=some k'∧(k'=k∨(k=.free∧k'=.cell))
 st:∀c,c < nS→(nk c=some .local∨nk c=some .cell)→oV env ex (sT c)
 clo:∀n,(env.kindOf n=some .cell∨env.kindOf n=some .free)→∃c,env.cells.lookup n=some c
noncomputable abbrev NK:=Nat→Option NameKind
noncomputable def aG(X:Cx)(P:Pg)(cf:CF)(wf n:Nat)(ie:IE)(e:Expr)(nk:NK):Prop:=
 ∀(A:Around) (ad:List au) (s:Shared) (S:aa) (loc:Loc) (env:Env) (ex:Addr→Prop) (v:AV) (S':aa) (Q:Value→Shared→Prop),aQ A (n + 1)→Rep X ad s.heap S→Frm X ad s.heap env ex loc→Scp env ex nk→
  evE P cf wf ie loc S=some (v,S')→Ret X ad s v S' Q→wpAny (MX X) A (eval e env) Q NoE s
noncomputable def GA(X:Cx)(ad:List au)(s:Shared)(vs:List AV)(S':aa)(Q:List Value→Shared→Prop):Prop:=
 ∀ad' h' tk xs,ai X noX ad s.heap ad' S' h'→VRs X ad' h' vs xs→Q xs {s with heap:=h',toks:=tk}
noncomputable def qi(X:Cx)(ad:List au)(s:Shared)(b:Bool)(S':aa)(Q:Bool→Shared→Prop):Prop:=
 ∀ad' h' tk,ai X noX ad s.heap ad' S' h'→Q b {s with heap:=h',toks:=tk}
noncomputable def mZ(X:Cx)(P:Pg)(cf:CF)(wf n:Nat)(l:List IE)(es:List Expr)(nk:NK):Prop:=
 ∀(A:Around) (ad:List au) (s:Shared) (S:aa) (loc:Loc) (env:Env) (ex:Addr→Prop) (vs:List AV) (S':aa) (pos:Pos) (Q:List Value→Shared→Prop),aQ A (n + 1)→Rep X ad s.heap S→Frm X ad s.heap env ex loc→Scp env ex nk→
  fK P cf wf l loc S=some (vs,S')→GA X ad s vs S' Q→wpAny (MX X) A (spliced (backTo pos (starEach es env))) Q NoE s
noncomputable def b8(X:Cx)(P:Pg)(cf:CF)(wf n:Nat)(ie:IE)(e:Expr)(nk:NK):Prop:=
 ∀(A:Around) (ad:List au) (s:Shared) (S:aa) (loc:Loc) (env:Env) (ex:Addr→Prop) (b:Bool) (S':aa) (Q:Bool→Shared→Prop),aQ A (n + 1)→Rep X ad s.heap S→Frm X ad s.heap env ex loc→Scp env ex nk→
  evT P cf wf ie loc S=some (b,S')→qi X ad s b S' Q→wpAny (MX X) A (isTrue e env (eval e env)) Q NoE s
theorem ao{α β:Type}{m:Option (α×aa)}{k:α→aa→Option (β×aa)}{r:β×aa}(e:bnd m k=some r):∃a S1,m=some (a,S1)∧k a S1=some r:=fJ e fun a S h e=>⟨a,S,h,e⟩
theorem Ret.after(K:Ret X ad s v S' Q)(T:ai X noX ad s.heap ad1 S1 h1)(tk:Nat):Ret X ad1 {s with heap:=h1,toks:=tk} v S' Q:=fun ad' h' tk' x T' r=>K ad' h' tk' x (T.trans T') r
theorem qi.after{b:Bool}{Q:Bool→Shared→Prop}(K:qi X ad s b S' Q)(T:ai X noX ad s.heap ad1 S1 h1)(tk:Nat):qi X ad1 {s with heap:=h1,toks:=tk} b S' Q:=fun ad' h' tk' T'=>K ad' h' tk' (T.trans T')
theorem aM{α:Type}{a b:α}{S S':aa}(e:some (a,S)=some (b,S')):a=b∧S=S':=dP (G:=fun b S'=>a=b∧S=S') e ⟨rfl,rfl⟩
noncomputable def DL(o:Option NameKind):Bool:=o==some .local||(o==some .cell||o==some .free)
theorem z9{o:Option NameKind}(q:DL o=true):∃k,o=some k∧kZ k:=
 (Bool.or_eq_true_iff.mp q).elim (fun q=>⟨_,eq_of_beq q,.inl rfl⟩) fun q=>(Bool.or_eq_true_iff.mp q).elim (fun q=>⟨_,eq_of_beq q,.inr (.inl rfl)⟩) fun q=>⟨_,eq_of_beq q,.inr (.inr rfl)⟩
noncomputable def CH(nk:NK)(c:Nat):Bool:=Nat.blt c nS&&(!(sT c==("__debug__":Str))&&(!(sT c==("__classdict__":Str))&&DL (nk c)))
theorem cK{a b:Nat}(e:Nat.blt a b=true):a < b:=Nat.le_of_ble_eq_true e
theorem wE{b:Bool}(e:(!b)=true):b=false:=by cases b with | true=>exact nomatch e | false=>rfl
theorem Scp.vis{nk:NK}(Z:Scp env ex nk){c:Nat}(hc:c < nS)(q:DL (nk c)=true):∃k,env.kindOf (sT c)=some k∧kZ k:=
 (z9 q).elim fun k h=>(Z.kinds c hc k h.1).elim fun k' z=>⟨k',z.1,z.2.elim (fun e=>e▸h.2) fun e=>e.2▸.inr (.inl rfl)⟩
theorem DN{nk:NK}{c:Nat}{pos:Pos}(q:CH nk c=true):aG X P cf wf n (.var c) (.Name (sT c) pos) nk:=fun A ad s S loc env ex v S' Q ho R F Z e K=>
 aT q fun q1 q=>aT q fun q2 q=>aT q fun q3 q4=>ah e nN fun u hu e=>(Z.vis (cK q1) q4).elim fun k hk=>wpAny_Name (zU F (cK q1) hu hk.1 hk.2 (wE q3) fun val r=>(K.of e).val' R r) (wE q2)
noncomputable def bJ(nk:NK)(c:Nat):Bool:=Nat.blt c nS&&(!(sT c==("__debug__":Str))&&(nk c==some .globalImplicit))
theorem kz{nk:NK}{c:Nat}(q:bJ nk c=true)(Z:Scp env ex nk):c < nS∧(sT c==("__debug__":Str))=false∧env.kindOf (sT c)=some .globalImplicit:=
 aT q fun q1 q=>aT q fun q2 q3=>⟨cK q1,wE q2,(Z.kinds c (cK q1) _ (eq_of_beq q3)).elim fun k' z=>z.2.elim (fun e=>e▸z.1) fun e=>nomatch e.1⟩
theorem dT(G:cD X P at_)(R:Rep X ad s.heap S)(F:Frm X ad s.heap env ex loc){nk:NK}{c:Nat}{pos:Pos}(q:bJ nk c=true)(Z:Scp env ex nk)(hv:X.mg (sT c)=some x)(K:Q x s):wpAny (MX X) A (eval (.Name (sT c) pos) env) Q NoE s:=by
 obtain⟨hc,hd,hk⟩:=kz q Z
 refine wpAny_Name ?_ hd
 rw[loadName_read F.kind hk]
 exact loadGlobal_global (by rw[F.glb];exact G.gns _ R.base) hv K
theorem cE(G:cD X P at_)(R:Rep X ad s.heap S)(F:Frm X ad s.heap env ex loc){nk:NK}{c:Nat}{pos:Pos}(q:bJ nk c=true)(Z:Scp env ex nk)(hm:X.mg (sT c)=none)(hv:X.mb (sT c)=some x)(K:Q x s):wpAny (MX X) A (eval (.Name (sT c) pos) env) Q NoE s:=by
 obtain⟨hc,hd,hk⟩:=kz q Z
 refine wpAny_Name ?_ hd
 rw[loadName_read F.kind hk]
 exact loadGlobal_builtin (by rw[F.glb];exact G.gns _ R.base) hm (by rw[F.bns];exact G.bns _ R.base) hv K
structure hM(X:Cx)(P:Pg)(fnm cnm:Nat→Nat)(bnm:BI→Nat)(rng zp sor:Nat):Prop where
 gl:∀c v,P.glob c=some v→∃val,X.mg (sT c)=some val∧∀ad h S,Rep X ad h S→VR X ad h v val
 cl:∀k,(P.init k).isSome=true→X.mg (sT (cnm k))=some (.ref (X.ca k))
 bi:∀b,X.mg (sT (bnm b))=none∧X.mb (sT (bnm b))=some (oP b)
 rng:X.mg (sT rng)=none∧X.mb (sT rng)=some (.type "range")
 zp:X.mg (sT zp)=none∧X.mb (sT zp)=some (.type "zip")
theorem Aa{fnm cnm bnm rng zp sor}(G:cD X P at_)(N:hM X P fnm cnm bnm rng zp sor){nk:NK}{c:Nat}{pos:Pos}(q:bJ nk c=true):aG X P cf wf n (.glob c) (.Name (sT c) pos) nk:=fun A ad s S loc env ex v S' Q ho R F Z e K=>
 ah e nN fun u hu e=>(N.gl c _ hu).elim fun val z=>dT G R F q Z z.1 ((K.of e).val' R (z.2 _ _ _ R))
theorem DP{nk:NK}{i:Int}{k:Nat}{pos:Pos}:aG X P cf wf n (.int i) (.Constant (.int i) k pos) nk:=by
 intro A ad s S loc env ex v S' Q ho R F Z e K
 obtain⟨rfl,rfl⟩:=aM e
 exact wpAny_Constant_int (K.val R (.int _ _) _)
theorem DQ{nk:NK}{c:Nat}{k:Nat}{pos:Pos}(hc:c < nS):aG X P cf wf n (.str c) (.Constant (.str (sT c)) k pos) nk:=by
 intro A ad s S loc env ex v S' Q ho R F Z e K
 obtain⟨rfl,rfl⟩:=aM e
 exact PySem.Calls.Constant_str (K.val R (.str _ _ hc) _)
theorem Ab{nk:NK}{k:Nat}{pos:Pos}:aG X P cf wf n .none (.Constant .none k pos) nk:=by
 intro A ad s S loc env ex v S' Q ho R F Z e K
 obtain⟨rfl,rfl⟩:=aM e
 exact wpAny_pure (K.val' R .none)
theorem Ac{nk:NK}{b:Bool}{k:Nat}{pos:Pos}:aG X P cf wf n (.bool b) (.Constant (.bool b) k pos) nk:=by
 intro A ad s S loc env ex v S' Q ho R F Z e K
 obtain⟨rfl,rfl⟩:=aM e
 exact wpAny_pure (K.val' R (.bool _))
theorem aY{e:Expr}(q:cH e=true)(es:List Expr)(env:Env):starEach (e::es) env=(false,eval e env)::starEach es env:=by
 cases e<;>first | rfl | exact Mine.clF q
theorem wF{nk:NK}:mZ X P cf wf n [] [] nk:=by
 intro A ad s S loc env ex vs S' pos Q ho R F Z e K
 obtain⟨rfl,rfl⟩:=aM e
 exact PySem.Calls.spliced_nil (K _ _ s.toks _ (ai.refl R) .nil)
theorem tO{nk:NK}{i:IE}{l:List IE}{e:Expr}{es:List Expr}(q:cH e=true)(H1:aG X P cf wf n i e nk)(H2:mZ X P cf wf n l es nk):mZ X P cf wf n (i::l) (e::es) nk:=by
 intro A ad s S loc env ex vs S' pos Q ho R F Z e K
 obtain⟨v,S1,e1,e⟩:=ao e
 obtain⟨ws,S2,e2,e⟩:=ao e
 obtain⟨rfl,rfl⟩:=aM e
 rw[aY q]
 refine PySem.Calls.spliced_cons (H1 A ad s S loc env ex v S1 _ ho R F Z e1 fun ad1 h1 tk1 x1 T1 r1=>?_)
 refine H2 A ad1 _ S1 loc env ex ws S2 pos _ ho T1.rep (F.step0 R T1) Z e2 fun ad2 h2 tk2 xs T2 rs=>?_
 exact K ad2 h2 tk2 _ (T1.trans T2) (.cons (r1.step T1.rep T2) rs)
theorem lM:∀{l:List IE} {vs:List AV} {loc:Loc} {S S1:aa},fK P cf wf l loc S=some (vs,S1)→vs.length=l.length
 | [],_,_,_,_,e=>dP (G:=fun vs _=>vs.length=0) e rfl
 | i::l,_,_,_,_,e=>fJ e fun v S2 _ e=>fJ e fun ws S3 e2 e=>dP (G:=fun vs _=>vs.length=l.length + 1) e (congrArg Nat.succ (lM e2))
theorem tP{a b:Nat}(e:a=b)(h:b≤100):a≤lim:=e▸Nat.le_trans h (by decide)
theorem DR{nk:NK}{l:List IE}{es:List Expr}{k:Nat}{pos:Pos}(hl:l.length≤100)(H:mZ X P cf wf n l es nk):aG X P cf wf n (.tup l) (.Tuple es k pos) nk:=by
 intro A ad s S loc env ex v S' Q ho R F Z e K
 obtain⟨vs,S1,e1,e⟩:=ao e
 obtain⟨rfl,rfl⟩:=aM e
 have hv:=lM e1
 refine wpAny_Tuple (H A ad s S loc env ex vs S1 pos _ ho R F Z e1 fun ad1 h1 tk1 xs T1 rs=>?_)
 exact⟨lE rs.length (tP hv hl),K _ _ tk1 _ (T1.trans (ai.same T1.rep (ax _))) (.tup (Heap.get?_push_size _ rfl) (tP hv hl) (rs.keep (ax _)))⟩
theorem DS{nk:NK}{l:List IE}{es:List Expr}{pos:Pos}(hl:l.length≤100)(H:mZ X P cf wf n l es nk):aG X P cf wf n (.list l) (.List es pos) nk:=by
 intro A ad s S loc env ex v S' Q ho R F Z e K
 obtain⟨vs,S1,e1,e⟩:=ao e
 have hv:=lM e1
 refine wpAny_List (H A ad s S loc env ex vs S1 pos _ ho R F Z e1 fun ad1 h1 tk1 xs T1 rs=>?_)
 exact⟨lE rs.length (tP hv hl),lD (s:={s with heap:=h1,toks:=tk1}) T1.rep (tP hv hl) rs e (K.after T1 tk1) tk1⟩
theorem wG{nk:NK}{pos:Pos}(sm:∀h,X.On h→sysModules < h.objs.size):aG X P cf wf n .dict0 (.Dict [] [] pos) nk:=by
 intro A ad s S loc env ex v S' Q ho R F Z e K
 obtain⟨rfl,rfl⟩:=aM (cX.symm.trans e)
 exact wpAny_Dict_empty (K _ _ s.toks _ (ai.newDict R .nil (Nat.zero_le _) (Heap.DictOf.new _) (Nat.ne_of_gt (sm _ R.base))) (dg R))
theorem DU{nk:NK}{op:BOp}{l r:IE}{e1 e2:Expr}{pos:Pos}(G:cD X P at_)(H1:aG X P cf wf n l e1 nk)(H2:aG X P cf wf n r e2 nk):aG X P cf wf n (.bin op l r) (.BinOp e1 (nw op) e2 pos) nk:=by
 intro A ad s S loc env ex v S' Q ho R F Z e K
 obtain⟨a,S1,ea,e⟩:=ao e
 obtain⟨b,S2,eb,e⟩:=ao e
 refine wpAny_BinOp (H1 A ad s S loc env ex a S1 _ ho R F Z ea fun ad1 h1 tk1 x1 T1 r1=>?_)
 refine H2 A ad1 _ S1 loc env ex b S2 _ ho T1.rep (F.step0 R T1) Z eb fun ad2 h2 tk2 x2 T2 r2=>?_
 exact zP T2.rep op (r1.step T1.rep T2) r2 G.emp.1 G.emp.2 e (K.after (T1.trans T2) tk2)
theorem nG{op:CmpOp}{e:Expr}(q:g8 e=true):behindInMarks op e=false:=by cases e<;>first | rfl | exact Mine.clF q
theorem DV(G:cD X P at_){nk:NK}{op:COp}{l r:IE}{e1 e2:Expr}{pos:Pos}(ns:g8 e2=true)(H1:aG X P cf wf n l e1 nk)(H2:aG X P cf wf n r e2 nk):aG X P cf wf n (.cmp op l r) (.Compare e1 [tL op] [e2] pos) nk:=by
 intro A ad s S loc env ex v S' Q ho R F Z e K
 obtain⟨a,S1,ea,e⟩:=ao e
 obtain⟨b,S2,eb,e⟩:=ao e
 refine wpAny_Compare1 (H1 A ad s S loc env ex a S1 _ ho R F Z ea fun ad1 h1 tk1 x1 T1 r1=>?_) (nG ns)
 refine H2 A ad1 _ S1 loc env ex b S2 _ ho T1.rep (F.step0 R T1) Z eb fun ad2 h2 tk2 x2 T2 r2=>?_
 exact tM G.eqt T2.rep ho op (r1.step T1.rep T2) r2 e (K.after (T1.trans T2) tk2)
theorem DW{nk:NK}{t b o:IE}{e1 e2 e3:Expr}{pos:Pos}(H1:b8 X P cf wf n t e1 nk)(H2:aG X P cf wf n b e2 nk)(H3:aG X P cf wf n o e3 nk):aG X P cf wf n (.ite t b o) (.IfExp e1 e2 e3 pos) nk:=by
 intro A ad s S loc env ex v S' Q ho R F Z e K
 obtain⟨c,S1,ea,e⟩:=ao e
 refine wpAny_IfExp (H1 A ad s S loc env ex c S1 _ ho R F Z ea fun ad1 h1 tk1 T1=>?_)
 cases c
 ·exact H3 A ad1 _ S1 loc env ex v S' _ ho T1.rep (F.step0 R T1) Z e (K.after T1 tk1)
 ·exact H2 A ad1 _ S1 loc env ex v S' _ ho T1.rep (F.step0 R T1) Z e (K.after T1 tk1)
theorem uL{id at':Str}{args:List Expr}{kws:List Keyword}{pos p:Pos}{env:Env}{whole:Sem Value}(q:(id==("super":Str))=false):attributeBase (.Call (.Name id p) args kws pos) at' env whole=whole:=by
 cases args with
 | cons=>rfl
 | nil=>cases kws with
  | cons=>rfl
  | nil=>exact lw (fun x=>x=whole) (fun _=>rfl) fun h=>absurd (by rw[show(id !=("super":Str))=true from congrArg (!·) q];rfl) h
noncomputable def lN(e:Expr):Bool:=!Nat.beq (tag e) 16||jJ e fun f _ _ _=>(fA f fun id=>!(id==("super":Str)))||Nat.beq (tag f) 20
theorem jO{o:Expr}{at':Str}{env:Env}{whole:Sem Value}(q:lN o=true):attributeBase o at' env whole=whole:=by
 cases o with
 | Call func args kws pos=>
  cases func with
  | Name id p=>exact uL (wE ((Bool.or_false _).symm.trans q))
  | Attribute=>rfl
  | _=>exact Mine.clF q
 | _=>rfl
theorem Ad{nk:NK}{o:IE}{c:Nat}{e1:Expr}{pos:Pos}(G:cD X P at_)(hc:c∈at_)(hb:lN e1=true)(H:aG X P cf wf n o e1 nk):aG X P cf wf n (.attr o c) (.Attribute e1 (sT c) pos) nk:=by
 intro A ad s S loc env ex v S' Q ho R F Z e K
 obtain⟨a,S1,ea,e⟩:=ao e
 rw[arm_eval_Attribute,jO hb]
 refine wpAny_bind (H A ad s S loc env ex a S1 _ ho R F Z ea fun ad1 h1 tk1 x1 T1 r1=>?_)
 refine wpAny_bind (wpAny_standAt (wpAny_bind (wpAny_holding (wA G T1.rep hc r1 e fun ad2 h2 tk2 x2 T2 r2=>?_))))
 exact wpAny_bind (wpAny_letTemporaryGo (wpAny_pure (K ad2 h2 tk2 x2 (T1.trans T2) r2)))
theorem DX{nk:NK}{o i:IE}{e1 e2:Expr}{pos:Pos}(ns:eI e2=true)(H1:aG X P cf wf n o e1 nk)(H2:aG X P cf wf n i e2 nk):aG X P cf wf n (.sub o i) (.Subscript e1 e2 pos) nk:=by
 intro A ad s S loc env ex v S' Q ho R F Z e K
 obtain⟨a,S1,ea,e⟩:=ao e
 obtain⟨b,S2,eb,e⟩:=ao e
 refine Subscript_ (H1 A ad s S loc env ex a S1 _ ho R F Z ea fun ad1 h1 tk1 x1 T1 r1=>?_)
 refine H2 A ad1 _ S1 loc env ex b S2 _ ho T1.rep (F.step0 R T1) Z eb fun ad2 h2 tk2 x2 T2 r2=>?_
 exact zK T2.rep ns (r1.step T1.rep T2) r2 e (K.after (T1.trans T2) tk2)
end Mine
end
section
open PySem PySem.W PySem.Calls PyProof.Rows
namespace Mine
variable {X:Cx} {P:Pg} {at_:List Nat} {A:Around} {n wf:Nat} {cf:CF} {ex ex':Addr→Prop} {ad ad' ad1:List au} {h h' h1:Heap} {S S' S1:aa} {s:Shared} {v a b:AV} {x y b':Value} {loc:Loc} {env:Env} {Q:Value→Shared→Prop} {nk:NK}
noncomputable def bv(es:List Expr):Bool:=es.all cH
theorem jQ{a b:Bool}(h:a=true)(k:b=true):(a&&b)=true:=by rw[h,k];rfl
theorem eM{pos:Pos}:∀{es:List Expr} {env:Env},bv es=true→(backTo pos (starEach es env)).any (·.1)=false
 | [],_,_=>rfl
 | e::es,env,q=>aT q fun q1 q2=>by
  rw[aY q1]
  exact eM (es:=es) q2
theorem ez{f:Value}{pos:Pos}{es:List Expr}{env:Env}{Q:Args→Shared→Prop}(q:bv es=true)(K:wpAny (MX X) A (spliced (backTo pos (starEach es env))) (fun xs s₁=>Q ⟨xs,[]⟩ s₁) NoE s):
  wpAny (MX X) A (evalArgs f true (backTo pos (starEach es env)) []) Q NoE s:=by
 cases es with
 | nil=>
  unfold evalArgs
  show wpAny (MX X) A (spliced [] >>= _) Q NoE s
  refine wpAny_bind (wpAny_mono K (fun vs s' h'=>?_) fun _ _ x=>x)
  refine wpAny_bind (wpAny_pure (wpAny_holding ?_))
  exact wpAny_bind (wpAny_pure (wpAny_bind (wpAny_pure (wpAny_pure h'))))
 | cons e es=>
  refine aT q fun q1 _=>?_
  rw[aY q1] at K ⊢
  exact PySem.Calls.evalArgs_plain K
theorem bZ{id:String}{pos:Pos}{first:List Value}{es:List Expr}{env:Env}(q:bv es=true)(K:wpAny (MX X) A (spliced (backTo pos (starEach es env))) (fun xs s₁=>wpAny (MX X) A (call (.builtin id) (first++xs)) Q NoE s₁) NoE s):
  wpAny (MX X) A (callWith pos (.builtin id) first (backTo pos (starEach es env)) []) Q NoE s:=
 PySem.Calls.callWith_builtin (eM q) (ez q K)
theorem hP{f:Addr}{pos:Pos}{first:List Value}{es:List Expr}{env:Env}{o:Obj}{fd:FuncData}(q:bv es=true)
  (K:wpAny (MX X) A (spliced (backTo pos (starEach es env))) (fun xs s₁=>(s₁.heap.get? f=some o∧o.data=.func fd)∧wpAny (MX X) A (call (.ref f) (first++xs)) Q NoE s₁) NoE s):
  wpAny (MX X) A (callWith pos (.ref f) first (backTo pos (starEach es env)) []) Q NoE s:=
 PySem.Calls.callWith_function (o:=o) (fd:=fd) (ez q K)
theorem dU{T:String}{pos:Pos}{es:List Expr}{env:Env}(q:bv es=true)(K:wpAny (MX X) A (spliced (backTo pos (starEach es env))) (fun xs s₁=>wpAny (MX X) A (call (.type T) xs) Q NoE s₁) NoE s):
  wpAny (MX X) A (callWith pos (.type T) [] (backTo pos (starEach es env)) []) Q NoE s:=
 PyProof.Rows.callWith_type (eM q) (ez q K)
theorem lO(G:cD X P at_){k:Nat}(hk:(P.init k).isSome=true){pos:Pos}{es:List Expr}{env:Env}(q:bv es=true)
  (K:wpAny (MX X) A (spliced (backTo pos (starEach es env))) (fun xs s₁=>X.On s₁.heap∧wpAny (MX X) A (call (.ref (X.ca k)) xs) Q NoE s₁) NoE s):
  wpAny (MX X) A (callWith pos (.ref (X.ca k)) [] (backTo pos (starEach es env)) []) Q NoE s:=by
 unfold callWith
 refine wpAny_bind (wpAny_holding (ez q (wpAny_mono K (fun xs s₁ h₁=>wpAny_bind (wpAny_standAt ?_)) fun _ _ x=>x)))
 obtain⟨nm,qn,N,bs,sn,sub,col,dd,k0,k1,k2,k3,k5,mN,C⟩:=G.cls k hk
 obtain⟨hh,g,d,t,os⟩:=s₁
 have hC:=h₁.1 _ _ C.obj
 have f1:=tc_lookup
 have hT:(⟨hh,g,d,t,os⟩:Shared).TypeIs (.ref (X.ca k)) "type":=⟨_,hC,rfl⟩
 have hst:((backTo pos (starEach es env)).any (fun x=>x.fst)||([]:List (Option Str×Sem Value)).any fun x=>x.fst.isNone)=false:=by rw[eM q];rfl
 show wpAny _ _ (keeperOf (.ref (X.ca k))>>= _) _ _ _
 unfold keeperOf specialOf
 repeat (any_goals (first | assumption | with_reducible refine wpAny_loadPart_at hC ?_ | with_reducible refine wpAny_load' hC ?_ | wp_step))
 rw[if_pos (by rfl),hst]
 show wpAny _ _ (call (.ref (X.ca k)) xs [] >>= fun r=>do holding [r] point;pure r) _ _ _
 exact wpAny_bind (wpAny_mono h₁.2 (fun r s' hr=>wpAny_bind (wpAny_holding (wpAny_point (wpAny_pure hr)))) fun _ _ x=>x)
theorem aQ.less(ho:aQ A (n + 1)):aQ A n:=⟨by have:=ho.depth;omega,by have:=ho.units;omega,ho.handled⟩
theorem Ae{fnm cnm bnm rng zp sor}(G:cD X P at_)(N:hM X P fnm cnm bnm rng zp sor)(C:Snd X n cf){f:Nat}(hmg:X.mg (sT (fnm f))=some (.ref (X.fa f)))(hfo:∃o fd,X.B (X.fa f)=some o∧o.data=.func fd){l:List IE}{es:List Expr}{np pos:Pos}(q:bv es=true)
  (qn:bJ nk (fnm f)=true)(H:mZ X P cf wf n l es nk):aG X P cf wf n (.call f l) (.Call (.Name (sT (fnm f)) np) es [] pos) nk:=by
 intro A ad s S loc env ex v S' Q ho R F Z e K
 obtain⟨vs,S1,ea,e⟩:=ao e
 obtain⟨o,fd,hB,hd⟩:=hfo
 refine wpAny_Call_NameR (dT G R F qn Z hmg ?_)
 refine hP (o:=o) (fd:=fd) q (H A ad s S loc env ex vs S1 pos _ ho R F Z ea fun ad1 h1 tk1 xs T1 rs=>⟨⟨T1.rep.base _ _ hB,hd⟩,?_⟩)
 exact C f vs S1 v S' e A ad1 _ xs _ ho.less T1.rep rs (K.after T1 tk1)
theorem DY{fnm cnm bnm rng zp sor}(G:cD X P at_)(N:hM X P fnm cnm bnm rng zp sor)(C:Snd X n cf){k:Nat}(hk:(P.init k).isSome=true){l:List IE}{es:List Expr}{np pos:Pos}(q:bv es=true)
  (qn:bJ nk (cnm k)=true)(H:mZ X P cf wf n l es nk):aG X P cf wf n (.new k l) (.Call (.Name (sT (cnm k)) np) es [] pos) nk:=by
 intro A ad s S loc env ex v S' Q ho R F Z e K
 obtain⟨vs,S1,ea,e⟩:=ao e
 refine wpAny_Call_NameR (dT G R F qn Z (N.cl k hk) ?_)
 refine lO G hk q ?_
 refine H A ad s S loc env ex vs S1 pos _ ho R F Z ea ?_
 intro ad1 h1 tk1 xs T1 rs
 refine⟨T1.rep.base,?_⟩
 exact DK (s:={s with heap:=h1,toks:=tk1}) G C ho T1.rep rs e (K.after T1 tk1)
theorem GB{fnm cnm bnm rng zp sor}(G:cD X P at_)(N:hM X P fnm cnm bnm rng zp sor)(HH:uI X){b:BI}(hb:b≠.isTuple){l:List IE}{es:List Expr}{np pos:Pos}(q:bv es=true)
  (qn:bJ nk (bnm b)=true)(H:mZ X P cf wf n l es nk):aG X P cf wf n (.bi b l) (.Call (.Name (sT (bnm b)) np) es [] pos) nk:=by
 intro A ad s S loc env ex v S' Q ho R F Z e K
 obtain⟨vs,S1,ea,e⟩:=ao e
 refine wpAny_Call_NameR (cE G R F qn Z (N.bi b).1 (N.bi b).2 ?_)
 have H2:=H A ad s S loc env ex vs S1 pos (fun xs s₁=>wpAny (MX X) A (call (oP b) xs) Q NoE s₁) ho R F Z ea fun ad1 h1 tk1 xs T1 rs=>by
  have:=ww (s:={s with heap:=h1,toks:=tk1}) (A:=A) HH T1.rep ho rs e (K.after T1 tk1)
  cases b<;>first | exact this | exact absurd rfl hb
 cases b with
 | list=>exact dU (T:="list") q H2
 | tuple=>exact dU (T:="tuple") q H2
 | dict=>exact dU (T:="dict") q H2
 | len=>exact bZ (id:="len") (first:=[]) q H2
 | sorted=>exact bZ (id:="sorted") (first:=[]) q H2
 | abs=>exact bZ (id:="abs") (first:=[]) q H2
 | max=>exact bZ (id:="max") (first:=[]) q H2
 | min=>exact bZ (id:="min") (first:=[]) q H2
 | isTuple=>exact absurd rfl hb
theorem DZ{fnm cnm bnm rng zp sor}(G:cD X P at_)(N:hM X P fnm cnm bnm rng zp sor)(HH:uI X){i:IE}{e1:Expr}{np np2 pos:Pos}(q:cH e1=true)
  (qn:bJ nk (bnm .isTuple)=true)(qt:bJ nk (bnm .tuple)=true)(H:aG X P cf wf n i e1 nk):
  aG X P cf wf n (.bi .isTuple [i]) (.Call (.Name (sT (bnm .isTuple)) np) [e1,.Name (sT (bnm .tuple)) np2] [] pos) nk:=by
 intro A ad s S loc env ex v S' Q ho R F Z e K
 obtain⟨vs,S1,ea,e⟩:=ao e
 obtain⟨u,S2,e1,ea⟩:=ao ea
 have ea:=aM (show some ([u],S2)=some (vs,S1) from ea)
 rw[←ea.1,←ea.2] at e
 refine wpAny_Call_NameR (cE G R F qn Z (N.bi .isTuple).1 (N.bi .isTuple).2 ?_)
 refine bZ (first:=[]) (jQ q rfl) ?_
 rw[aY q]
 refine PySem.Calls.spliced_cons (H A ad s S loc env ex u S2 _ ho R F Z e1 fun ad1 h1 tk1 x1 T1 r1=>?_)
 show wpAny (MX X) A (spliced (backTo pos [(false,eval (.Name (sT (bnm .tuple)) np2) env)])) _ _ _
 refine PySem.Calls.spliced_cons (cE G T1.rep (F.step0 R T1) qt Z (N.bi .tuple).1 (N.bi .tuple).2 (PySem.Calls.spliced_nil ?_))
 exact ww (s:={s with heap:=h1,toks:=tk1}) (A:=A) (bi:=.isTuple) HH T1.rep ho (.cons r1 .nil) e (K.after T1 tk1)
theorem nH{es:List Expr}{pos:Pos}{env:Env}(q:bv es=true)(hl:es.length < 20):methodCallForm (es.length +([]:List Keyword).length) (backTo pos (starEach es env)) (backToKw pos (keywordEach [] env))=true:=by
 unfold methodCallForm
 have:(backTo pos (starEach es env)).all (fun x=>!x.1)=true:=by
  have:=eM (pos:=pos) (env:=env) q
  rw[List.any_eq_false] at this
  rw[List.all_eq_true]
  intro x hx
  have:=this x hx
  simpa using this
 rw[this]
 exact decide_eq_true (Nat.lt_trans hl (by decide))
noncomputable def qj(e1:Expr)(env:Env)(x:Value)(m:Str)(apos pos:Pos)(es:List Expr):Sem Value:=do
 let(f,first) ←holding [x] (calleeOf true e1 env x m);let callPos ←methodCallPos true e1 env apos pos;callWith callPos f first (backTo pos (starEach es env)) (backToKw pos (keywordEach [] env))
theorem D5{e1:Expr}{apos pos:Pos}(hp:(apos.endLine==pos.line)=true):methodCallPos true e1 env apos pos=pure pos:=by unfold methodCallPos;simp[hp]
noncomputable def wH(X:Cx)(A:Around)(ad:List au)(s:Shared)(vs:List AV)(S':aa)(es:List Expr)(pos:Pos)(env:Env):Prop:=∀Q,GA X ad s vs S' Q→wpAny (MX X) A (spliced (backTo pos (starEach es env))) Q NoE s
section
variable {e1:Expr} {es:List Expr} {apos pos:Pos} {S2:aa} {u:AV} {vs:List AV} {m:Nat} (hp:(apos.endLine==pos.line)=true) (q:bv es=true) (ho:aQ A (n + 1)) (R:Rep X ad s.heap S1) (r:VR X ad s.heap u x) (H:wH X A ad s vs S2 es pos env) (K:Ret X ad s v S' Q)
include hp q ho R r H K
theorem ql(G:cD X P at_)(C:Snd X n cf){k:Nat}{fl:List (Nat×AV)}(hu:u=.ins k fl∨∃i,u=.ref i∧S1[i]?=some (.inst k fl))(e:Dm P k fl m=some cal)(e2:d8 P cf cal u m vs S2=some (v,S')):wpAny (MX X) A (qj e1 env x (sT m) apos pos es) Q NoE s:=
 ah e nN fun _ hk e=>c9 e (fun _ _ e=>nomatch e) fun hd e=>ah e nN fun f hm e=>by
  rw[←Option.some.inj e] at e2
  obtain⟨of,hof,_,fd,hfd⟩:=G.fnc k f (.inr ⟨m,hm⟩)
  refine wpAny_bind (wpAny_holding (zX G R r hu (by rw[hk];rfl) hm hd ?_))
  refine wpAny_bind (wpAny_of_eq (D5 hp) ?_)
  refine hP (o:=of) (fd:=fd) q (H _ fun ad2 h2 tk2 xs T2 rs=>⟨⟨T2.rep.base _ _ hof,hfd⟩,?_⟩)
  exact C f (u::vs) S2 v S' e2 A ad2 _ _ _ ho.less T2.rep (.cons (r.step R T2) rs) (K.after T2 tk2)
theorem fQ{T id:String}(hT:s.TypeIs x T)(pa:PlainAttrs T)(slot:Slot T (sT m) id)(hty:typeOf (.builtin id)=pure (.type "method_descriptor"))(hd:∀a,x=.ref a→∃o,s.heap.get? a=some o∧o.dict=none)
  (K2:∀ad2 h2 tk2 xs,Rep X ad2 h2 S2→VRs X ad2 h2 vs xs→VR X ad2 h2 u x→Ret X ad2 {s with heap:=h2,toks:=tk2} v S' Q→wpAny (MX X) A (call (.builtin id) (x::xs)) Q NoE {s with heap:=h2,toks:=tk2}):wpAny (MX X) A (qj e1 env x (sT m) apos pos es) Q NoE s:=by
 refine wpAny_bind (wpAny_holding (getMethod_builtin hT pa slot hty hd ?_))
 refine wpAny_bind (wpAny_of_eq (D5 hp) ?_)
 exact bZ q (H _ fun ad2 h2 tk2 xs T2 rs=>K2 ad2 h2 tk2 xs T2.rep rs (r.step R T2) (K.after T2 tk2))
theorem uM(G:cD X P at_){i:Nat}{l l0:List AV}(hu:u=.ref i)(hS:S1[i]?=some (.list l0))(hS2:S2[i]?=some (.list l))(e:ly P i l m vs S2=some (v,S')):wpAny (MX X) A (qj e1 env x (sT m) apos pos es) Q NoE s:=by
 have r0:=r
 rw[hu] at r0
 obtain⟨c,ws,k,_,hx,_,g,_,_⟩:=fO R r0 hS
 have hT:s.TypeIs x "list":=by rw[hx];exact⟨_,g,rfl⟩
 have hd:∀a,x=.ref a→∃o,s.heap.get? a=some o∧o.dict=none:=fun a z=>by rw[←Value.ref.inj (hx.symm.trans z)];exact⟨_,g,rfl⟩
 cases zY e with
 | pop q1 q2 q3=>
  refine fQ hp q ho R r H K hT PySem.F.plainAttrs_list (id:="list.pop") (by rw[q1,G.nmPop];exact PySem.F.slot_list_pop) PySem.F.type_list_pop hd fun ad2 h2 tk2 xs R2 rs r2 K2=>?_
  rw[q2] at rs;rw[hu] at r2
  exact VRs.onNil (G:=fun xs=>wpAny (MX X) A (call (.builtin "list.pop") (x::xs)) Q NoE {s with heap:=h2,toks:=tk2}) rs (DB (s:={s with heap:=h2,toks:=tk2}) R2 r2 hS2 q3 K2)
 | append q1 q2 q3=>
  refine fQ hp q ho R r H K hT PySem.F.plainAttrs_list (id:="list.append") (by rw[q1,G.nmAppend];exact PySem.F.slot_list_append) PySem.F.type_list_append hd fun ad2 h2 tk2 xs R2 rs r2 K2=>?_
  rw[q2] at rs;rw[hu] at r2
  exact VRs.on1 (G:=fun xs=>wpAny (MX X) A (call (.builtin "list.append") (x::xs)) Q NoE {s with heap:=h2,toks:=tk2}) rs fun y ra=>nA (s:={s with heap:=h2,toks:=tk2}) R2 r2 hS2 ra q3 K2
 | extend q1 q2 q3 q4=>
  refine fQ hp q ho R r H K hT PySem.F.plainAttrs_list (id:="list.extend") (by rw[q1,G.nmExtend];exact PySem.F.slot_list_extend) PySem.F.type_list_extend hd fun ad2 h2 tk2 xs R2 rs r2 K2=>?_
  rw[q2] at rs;rw[hu] at r2
  exact VRs.on1 (G:=fun xs=>wpAny (MX X) A (call (.builtin "list.extend") (x::xs)) Q NoE {s with heap:=h2,toks:=tk2}) rs fun y ra=>uH (s:={s with heap:=h2,toks:=tk2}) R2 r2 hS2 ra q3 q4 K2
 | index q1 q2 q3 q4=>
  refine fQ hp q ho R r H K hT PySem.F.plainAttrs_list (id:="list.index") (by rw[q1,G.nmIndex];exact PySem.F.slot_list_index) PySem.F.type_list_index hd fun ad2 h2 tk2 xs R2 rs r2 K2=>?_
  rw[q2] at rs;rw[hu] at r2
  exact VRs.on1 (G:=fun xs=>wpAny (MX X) A (call (.builtin "list.index") (x::xs)) Q NoE {s with heap:=h2,toks:=tk2}) rs fun y ra=>wD (s:={s with heap:=h2,toks:=tk2}) G R2 ho r2 hS2 ra q3 q4 K2
theorem uN(G:cD X P at_){i:Nat}{l l0:List (Nat×AV)}(hu:u=.ref i)(hS:S1[i]?=some (.dict l0))(hS2:S2[i]?=some (.dict l))(e:oH P i l m vs S2=some (v,S')):wpAny (MX X) A (qj e1 env x (sT m) apos pos es) Q NoE s:=by
 have r0:=r
 rw[hu] at r0
 obtain⟨c,kvs,_,hx,_,d,sm,_,_⟩:=dR R r0 hS
 have hT:s.TypeIs x "dict":=by rw[hx];exact d.typeIs
 have hd:∀a,x=.ref a→∃o,s.heap.get? a=some o∧o.dict=none:=fun a z=>d.mapOf.noDict a (hx.symm.trans z)
 have sd:∀{k:Nat} {d':AV},m=P.mn.setdefault→vs=[.str k,d']→(∀u,cx k l=some u→v=u∧S'=S2)→(cx k l=none→l.length < lim∧v=d'∧S'=setAt S2 i (.dict (dI k d' l)))→wpAny (MX X) A (qj e1 env x (sT m) apos pos es) Q NoE s:=fun {k d'} q1 q2 ka kb=>by
  refine fQ hp q ho R r H K hT PySem.F.plainAttrs_dict (id:="dict.setdefault") (by rw[q1,G.nmSetdefault];exact PySem.F.slot_dict_setdefault) PySem.F.type_dict_setdefault hd fun ad2 h2 tk2 xs R2 rs r2 K2=>?_
  rw[q2] at rs;rw[hu] at r2
  exact VRs.on2 (G:=fun xs=>wpAny (MX X) A (call (.builtin "dict.setdefault") (x::xs)) Q NoE {s with heap:=h2,toks:=tk2}) rs fun y z ra rb=>mY (s:={s with heap:=h2,toks:=tk2}) R2 r2 hS2 ra rb (fun u hu=>by rw[←(ka u hu).1,←(ka u hu).2];exact K2) fun hn=>⟨(kb hn).1,by rw[(kb hn).2.1,(kb hn).2.2] at K2;exact K2⟩
 cases zZ e with
 | get q1 q2=>
  refine fQ hp q ho R r H K hT PySem.F.plainAttrs_dict (id:="dict.get") (by rw[q1,G.nmGet];exact PySem.F.slot_dict_get) PySem.F.type_dict_get hd fun ad2 h2 tk2 xs R2 rs r2 K2=>?_
  rw[q2] at rs;rw[hu] at r2
  exact VRs.on2 (G:=fun xs=>wpAny (MX X) A (call (.builtin "dict.get") (x::xs)) Q NoE {s with heap:=h2,toks:=tk2}) rs fun y z ra rb=>DC (s:={s with heap:=h2,toks:=tk2}) R2 r2 hS2 ra rb K2
 | setdefault q1 q2 q3=>exact sd q1 q2 (fun u hu=>⟨Option.some.inj (q3.symm.trans hu),rfl⟩) fun hn=>nomatch q3.symm.trans hn
 | setnew q1 q2 q3 q4=>exact sd q1 q2 (fun u hu=>nomatch q3.symm.trans hu) fun hn=>⟨q4,rfl,rfl⟩
end
theorem Af(G:cD X P at_)(C:Snd X n cf){o:IE}{m:Nat}{l:List IE}{e1:Expr}{es:List Expr}{apos pos:Pos}(hb:lN e1=true)(hp:(apos.endLine==pos.line)=true)(q:bv es=true)(hl:es.length < 20)
  (H1:aG X P cf wf n o e1 nk)(H:mZ X P cf wf n l es nk):aG X P cf wf n (.meth o m l) (.Call (.Attribute e1 (sT m) apos) es [] pos) nk:=by
 intro A ad s S loc env ex v S' Q ho R F Z e K
 refine fJ e fun u S1 e1' e=>ah e nN fun cal hc e=>fJ e fun vs S2 e2 e=>?_
 rw[arm_eval_Call,jO hb]
 refine wpAny_bind (H1 A ad s S loc env ex u S1 _ ho R F Z e1' fun ad1 h1 tk1 x1 T1 r1=>?_)
 refine wpAny_bind (wpAny_standAt ?_)
 unfold methodCall
 rw[nH q hl]
 have Ha:wH X A ad1 {s with heap:=h1,toks:=tk1} vs S2 es pos env:=fun Q' k=>H A ad1 _ S1 loc env ex vs S2 pos Q' ho T1.rep (F.step0 R T1) Z e2 k
 have K1:=K.after T1 tk1
 refine v7 hc (fun k fl hu hc=>ql (s:={s with heap:=h1,toks:=tk1}) hp q ho T1.rep r1 Ha K1 G C (.inl hu) hc e) fun hc=>cS hc nN fun i hu hc=>zx hc (fun k fl hS hc=>ql (s:={s with heap:=h1,toks:=tk1}) hp q ho T1.rep r1 Ha K1 G C (.inr ⟨i,hu,hS⟩) hc e)
  fun hc=>oB hc (fun l0 hS hc=>?_) fun hc=>f9 hc nN fun l0 hS hc=>?_<;>rw[←Option.some.inj hc,hu] at e
 ·exact c8 e nN fun l hS2 e=>uM (s:={s with heap:=h1,toks:=tk1}) hp q ho T1.rep r1 Ha K1 G hu hS hS2 e
 ·exact f9 e nN fun l hS2 e=>uN (s:={s with heap:=h1,toks:=tk1}) hp q ho T1.rep r1 Ha K1 G hu hS hS2 e
end Mine
end
section
open PySem PySem.W PySem.Calls PyProof.Rows
namespace Mine
variable {X:Cx} {P:Pg} {at_:List Nat} {A:Around} {n wf:Nat} {cf:CF} {ex ex':Addr→Prop} {ad ad' ad1:List au} {h h' h1:Heap} {S S' S1:aa} {s:Shared} {v a b:AV} {x y b':Value} {loc:Loc} {env:Env} {Q:Value→Shared→Prop} {nk:NK}
theorem lP{i:Int}{k:Nat}{p:Pos}(K:∀t tk,Q (.int i t) {s with toks:=tk}):wpAny (MX X) A (evalPart (some (.Constant (.int i) k p)) env) Q NoE s:=by
 rw[evalPart_some];exact wpAny_Constant_int (K _ _)
theorem CI{k:Nat}{p p2:Pos}(K:∀t tk,Q (.int (-1) t) {s with toks:=tk}):wpAny (MX X) A (eval (.UnaryOp .USub (.Constant (.int 1) k p) p2) env) Q NoE s:=
 UnaryOp_ (wpAny_Constant_int (PySem.P.neg_int (K _ _)))
theorem tQ{k:Nat}{p p2:Pos}(K:∀t tk,Q (.int (-1) t) {s with toks:=tk}):wpAny (MX X) A (evalPart (some (.UnaryOp .USub (.Constant (.int 1) k p) p2)) env) Q NoE s:=by
 rw[evalPart_some];exact CI K
theorem oW(R:Rep X ad s.heap S)(r:VR X ad s.heap a x){l:List AV}(e:bj a S=some l){vl vu vs:Value}{lo hi st:Option Int}{value:Expr}{sl:Expr}(pl:IsPart vl lo)(pu:IsPart vu hi)(ps:IsPart vs st)(h0:st≠some 0)
  (ns:∀o i,∃vs,subscripted sl false o i=operate vs (getItem o i)){g:List Value→List Value}{g':List AV→List AV}(pX:∀ws:List Value,slicePick ws.toArray lo hi st=(g ws).toArray)(rg:∀{h l ws},VRs X ad h l ws→VRs X ad h (g' l) (g ws))(hg:(g' l).length≤l.length)
  (K:Ret X ad s (.ref S.length) (S++[.list (g' l)]) Q):
  wpAny (MX X) A (subscriptTail value sl x (.ref s.heap.objs.size)) Q NoE {s with heap:=s.heap.push {cls:=.type "slice",data:=.fields #[vl,vu,vs]}}:=by
 obtain⟨p,ws,m,rfl,gp,hl,q⟩:=bg R r e
 have T:=ai.push (ex:=noX) R {cls:=.type "slice",data:=.fields #[vl,vu,vs]}
 have gp':=ax {cls:=.type "slice",data:=.fields #[vl,vu,vs]} _ _ gp
 refine hJ (T:="list") ns (bS gp').typeIs list_getitem_lookup (wpAny_getItem_list_slice (bS gp') (Heap.IsSliceOf.new ..) pl pu ps h0 ?_ (by rw[List.size_toArray];exact lE q.length hl))
 rw[pX]
 have q':=q.step R T
 exact K _ _ s.toks _ (T.trans (ai.newList T.rep (rg q') (Nat.le_trans hg hl))) (dg T.rep)
theorem oX(ws:List Value):slicePick ws.toArray none (some 0) (some (-1))=((ws.drop 1).reverse).toArray:=by
 have hb:sliceBounds none (some 0) (some (-1)) ws.toArray.size=((ws.length:Int)- 1,(if ws.length=0 then -1 else 0),-1):=by
  simp only[sliceBounds,List.size_toArray]
  have e1:¬((-1:Int)> 0):=by decide
  have e2:¬((0:Int) < 0):=by decide
  simp only[Option.getD_some,e1,e2,if_false]
  split<;>rename_i z
  ·rw[z];rfl
  ·have:min (0:Int) ((ws.length:Int)- 1)=0:=by omega
   rw[this];rfl
 unfold slicePick
 rw[hb]
 have hr:sliceRange ((ws.length:Int)- 1) (if ws.length=0 then -1 else 0) (-1)=(List.range (ws.length - 1)).map fun k=>ws.length - 1 - k:=by
  unfold sliceRange
  have e1:¬((-1:Int)> 0):=by decide
  by_cases z:ws.length=0
  ·rw[z];simp
  ·simp only[e1,if_false,z]
   by_cases w:(ws.length:Int)- 1 > 0
   ·have e:((ws.length:Int)- 1 - 0 - -1 - 1)/(- -1)=((ws.length - 1:Nat):Int):=by
     rw[show(- -1:Int)=1 by decide,Int.ediv_one];omega
    simp only[w,if_true,e,Int.toNat_natCast]
    apply List.map_congr_left
    intro k hk
    have:=List.mem_range.mp hk
    omega
   ·have:ws.length - 1=0:=by omega
    have w':¬(1:Int) < (ws.length:Int):=by omega
    simp[this,w']
 rw[hr]
 congr 1
 have e3:(List.range (ws.length - 1)).map (fun k=>ws.length - 1 - k)=((List.range (ws.length - 1)).map fun k=>k + 1).reverse:=by
  apply List.ext_getElem
  ·simp
  ·intro i h1 h2
   simp at h1
   simp only[List.getElem_map,List.getElem_range,List.getElem_reverse,List.length_map,List.length_range]
   omega
 rw[e3,List.filterMap_reverse]
 congr 1
 apply List.ext_getElem?
 intro i
 rw[List.getElem?_drop]
 have:List.filterMap (fun x=>ws.toArray[x]?) ((List.range (ws.length - 1)).map fun k=>k + 1)=(List.range (ws.length - 1)).filterMap fun k=>ws[k + 1]?:=by
  rw[List.filterMap_map];congr 1;funext k;simp
 rw[this]
 have key:(List.range (ws.length - 1)).filterMap (fun k=>ws[k + 1]?)=ws.drop 1:=by
  cases ws with
  | nil=>rfl
  | cons a r=>
   simp only[List.length_cons,Nat.add_sub_cancel,List.getElem?_cons_succ,List.drop_succ_cons,List.drop_zero]
   have h:=krv_all r.toArray
   simpa using h
 rw[key,List.getElem?_drop]
theorem D6{o:IE}{e1:Expr}{p p2 p3 pos:Pos}{k:Nat}(H:aG X P cf wf n o e1 nk):
  aG X P cf wf n (.rev o) (.Subscript e1 (.Slice none none (some (.UnaryOp .USub (.Constant (.int 1) k p) p2)) p3) pos) nk:=by
 intro A ad s S loc env ex v S' Q ho R F Z e K
 obtain⟨a,S1,ea,e⟩:=ao e
 refine ah e nN fun l hl e=>?_
 have K:=K.of (aR.symm.trans e)
 refine Subscript_ (H A ad s S loc env ex a S1 _ ho R F Z ea fun ad1 h1 tk1 x1 T1 r1=>?_)
 refine wpAny_Slice (wpAny_pure (wpAny_pure (tQ fun t tk=>?_)))
 exact oW (s:={s with heap:=h1,toks:=tk}) T1.rep r1 hl .none .none (.int _ _) (by simp) (fun o i=>⟨_,rfl⟩) (g:=List.reverse) (g':=List.reverse) (fun ws=>krv_pick _) (fun q=>q.reverse) (by simp) (K.after T1 tk)
theorem se{o:IE}{e1:Expr}{p p2 p3 p4 pos:Pos}{k k2:Nat}(H:aG X P cf wf n o e1 nk):
  aG X P cf wf n (.revTail o) (.Subscript e1 (.Slice none (some (.Constant (.int 0) k2 p4)) (some (.UnaryOp .USub (.Constant (.int 1) k p) p2)) p3) pos) nk:=by
 intro A ad s S loc env ex v S' Q ho R F Z e K
 obtain⟨a,S1,ea,e⟩:=ao e
 refine ah e nN fun l hl e=>?_
 have K:=K.of (aR.symm.trans e)
 refine Subscript_ (H A ad s S loc env ex a S1 _ ho R F Z ea fun ad1 h1 tk1 x1 T1 r1=>?_)
 refine wpAny_Slice (wpAny_pure (lP fun t tk=>tQ fun t' tk'=>?_))
 exact oW (s:={s with heap:=h1,toks:=tk'}) T1.rep r1 hl .none (.int _ _) (.int _ _) (by simp) (fun o i=>⟨_,rfl⟩) (g:=fun l=>(l.drop 1).reverse) (g':=fun l=>(l.drop 1).reverse) oX (fun q=>(q.drop 1).reverse) (by simp) (K.after T1 tk')
theorem Ag{o:IE}{e1:Expr}{p3 p4 pos:Pos}{k2 m:Nat}(H:aG X P cf wf n o e1 nk):
  aG X P cf wf n (.take o m) (.Subscript e1 (.Slice none (some (.Constant (.int (m:Int)) k2 p4)) none p3) pos) nk:=by
 intro A ad s S loc env ex v S' Q ho R F Z e K
 obtain⟨a,S1,ea,e⟩:=ao e
 refine ah e nN fun l hl e=>?_
 have K:=K.of (aR.symm.trans e)
 refine Subscript_ (H A ad s S loc env ex a S1 _ ho R F Z ea fun ad1 h1 tk1 x1 T1 r1=>?_)
 refine wpAny_Slice (wpAny_pure (lP fun t tk=>wpAny_pure ?_))
 exact oW (s:={s with heap:=h1,toks:=tk}) T1.rep r1 hl .none (.int _ _) .none (by simp) (fun o i=>⟨_,rfl⟩) (g:=List.take m) (g':=List.take m) (fun ws=>by rw[slicePick_upto']) (fun q=>q.take m) (by simp;omega) (K.after T1 tk)
theorem Ah{o:IE}{e1:Expr}{p3 p4 pos:Pos}{k2 m:Nat}(H:aG X P cf wf n o e1 nk):
  aG X P cf wf n (.drop o m) (.Subscript e1 (.Slice (some (.Constant (.int (m:Int)) k2 p4)) none none p3) pos) nk:=by
 intro A ad s S loc env ex v S' Q ho R F Z e K
 obtain⟨a,S1,ea,e⟩:=ao e
 refine ah e nN fun l hl e=>?_
 have K:=K.of (aR.symm.trans e)
 refine Subscript_ (H A ad s S loc env ex a S1 _ ho R F Z ea fun ad1 h1 tk1 x1 T1 r1=>?_)
 refine wpAny_Slice (lP fun t tk=>wpAny_pure (wpAny_pure ?_))
 exact oW (s:={s with heap:=h1,toks:=tk}) T1.rep r1 hl (.int _ _) .none .none (by simp) (fun o i=>⟨_,rfl⟩) (g:=List.drop m) (g':=List.drop m) (fun ws=>by rw[slicePick_from']) (fun q=>q.drop m) (by simp) (K.after T1 tk)
theorem wI{ws:List Value}{y:Value}(hy:ws.getLast?=some y):-(ws.toArray.size:Int)≤-1:=by
 cases ws with
 | nil=>exact nomatch hy
 | cons _ r=>show -((r.length + 1:Nat):Int)≤-1;omega
theorem Ai{ws:List Value}{y:Value}(hy:ws.getLast?=some y):ws.toArray[((-1:Int)+(ws.toArray.size:Int)).toNat]?=some y:=by
 have e9:((-1:Int)+(ws.toArray.size:Int)).toNat=ws.length - 1:=by rw[List.size_toArray];omega
 rw[e9,List.getElem?_toArray,←List.getLast?_eq_getElem?];exact hy
theorem Aj{o:IE}{e1:Expr}{p p2 pos:Pos}{k:Nat}(H:aG X P cf wf n o e1 nk):
  aG X P cf wf n (.last o) (.Subscript e1 (.UnaryOp .USub (.Constant (.int 1) k p) p2) pos) nk:=by
 intro A ad s S loc env ex v S' Q ho R F Z e K
 obtain⟨a,S1,ea,e⟩:=ao e
 refine ah e nN fun l hl e=>ah e nN fun u hu e=>?_
 have K:=K.of e
 refine Subscript_ (H A ad s S loc env ex a S1 _ ho R F Z ea fun ad1 h1 tk1 x1 T1 r1=>?_)
 refine CI fun t tk=>?_
 obtain⟨q,ws,m,rfl,g,hle,rs⟩:=bg T1.rep r1 hl
 obtain⟨y,hy,ry⟩:=rs.last hu
 refine hJ (s:={s with heap:=h1,toks:=tk}) (T:="list") (fun o i=>⟨_,dh rfl o i⟩) (bS g).typeIs list_getitem_lookup (wpAny_getItem_list_neg (x:=y) (bS g) (by decide) (wI hy) (by decide) (Ai hy) (K _ _ tk _ T1 ry))
end Mine
end
section
open PySem PySem.W PySem.Calls PyProof.Rows
namespace Mine
variable {X:Cx} {P:Pg} {at_:List Nat} {A:Around} {n wf:Nat} {cf:CF} {ex ex':Addr→Prop} {ad ad' ad1:List au} {h h' h1:Heap} {S S' S1:aa} {s:Shared} {v a b:AV} {x y b':Value} {loc:Loc} {env:Env} {Q:Value→Shared→Prop} {nk:NK}
inductive cL{α β:Type}(R:α→β→Prop):List α→List β→Prop
 | nil:cL R [] []
 | cons {a b l k}:R a b→cL R l k→cL R (a::l) (b::k)
theorem kA(pos:Pos)(op:BoolOp)(x y:Sem Value)(r:List (Sem Value)):boolOp pos op (x::y::r)=(do
  let v ←x
  standAt pos
  let t ←holding [v] (truthy v)
  match op,t with
  | .And,false | .Or,true=>pure v
  | _,_=>boolOp pos op (y::r)):=by cases op<;>rfl
theorem qi.of{b c:Bool}{T:aa}{Q:Bool→Shared→Prop}(K:qi X ad s b S' Q)(e:some (c,T)=some (b,S')):qi X ad s c T Q:=by cases e;exact K
noncomputable def GC(X:Cx)(n:Nat)(nk:NK){β:Type}(f:β→Loc→aa→Option (AV×aa)){γ:Type}(c:γ→Env→Sem Value)(l:β)(es:γ):Prop:=
 ∀(A:Around) (ad:List au) (s:Shared) (S:aa) (loc:Loc) (env:Env) (ex:Addr→Prop) (v:AV) (S':aa) (Q:Value→Shared→Prop),aQ A (n + 1)→Rep X ad s.heap S→Frm X ad s.heap env ex loc→Scp env ex nk→f l loc S=some (v,S')→Ret X ad s v S' Q→wpAny (MX X) A (c es env) Q NoE s
theorem wJ{pos:Pos}{l:List IE}{es:List Expr}(HH:cL (fun i e=>aG X P cf wf n i e nk) l es):GC X n nk (tD P cf wf) (fun es env=>boolOp pos .And (evalEach es env)) l es:=by
 induction HH with
 | nil=>exact fun A ad s S loc env ex v S' Q ho R F Z e K=>nomatch e
 | @cons i e1 l es H Hs ih=>
  intro A ad s S loc env ex v S' Q ho R F Z e K
  cases Hs with
  | nil=>exact H A ad s S loc env ex v S' Q ho R F Z e K
  | @cons j e2 l es H2 Hs2=>
   have e:bnd (evE P cf wf i loc S) (fun v S=>gN v (fun b=>am b (tD P cf wf (j::l) loc S) (some (.bool false,S))) none)=some (v,S'):=e
   refine fJ e fun u S1 eu e=>jl e nN fun b hu e=>?_
   show wpAny (MX X) A (boolOp pos .And (eval e1 env::eval e2 env::evalEach es env)) Q NoE s
   rw[kA]
   refine wpAny_bind (H A ad s S loc env ex u S1 _ ho R F Z eu fun ad1 h1 tk1 x1 T1 r1=>wpAny_bind (wpAny_standAt (wpAny_bind (wpAny_holding ?_))))
   rw[hu] at r1
   refine VR.onBool (G:=fun x=>wpAny (MX X) A (truthy x) _ NoE {s with heap:=h1,toks:=tk1}) r1 (aE e (fun hb e=>?_) fun hb e=>?_)<;>rw[hb]
   ·exact wpAny_truthy_bool (ih A ad1 {s with heap:=h1,toks:=tk1} S1 loc env ex v S' Q ho T1.rep (F.step0 R T1) Z e (K.after T1 tk1))
   ·exact wpAny_truthy_bool (wpAny_pure (K.of e _ _ tk1 _ T1 (hb▸r1)))
theorem Ak{pos:Pos}{l:List IE}{es:List Expr}(HH:cL (fun i e=>aG X P cf wf n i e nk) l es):GC X n nk (zC P cf wf) (fun es env=>boolOp pos .Or (evalEach es env)) l es:=by
 induction HH with
 | nil=>exact fun A ad s S loc env ex v S' Q ho R F Z e K=>nomatch e
 | @cons i e1 l es H Hs ih=>
  intro A ad s S loc env ex v S' Q ho R F Z e K
  cases Hs with
  | nil=>exact H A ad s S loc env ex v S' Q ho R F Z e K
  | @cons j e2 l es H2 Hs2=>
   have e:bnd (evE P cf wf i loc S) (fun v S=>gN v (fun b=>am b (some (.bool true,S)) (zC P cf wf (j::l) loc S)) none)=some (v,S'):=e
   refine fJ e fun u S1 eu e=>jl e nN fun b hu e=>?_
   show wpAny (MX X) A (boolOp pos .Or (eval e1 env::eval e2 env::evalEach es env)) Q NoE s
   rw[kA]
   refine wpAny_bind (H A ad s S loc env ex u S1 _ ho R F Z eu fun ad1 h1 tk1 x1 T1 r1=>wpAny_bind (wpAny_standAt (wpAny_bind (wpAny_holding ?_))))
   rw[hu] at r1
   refine VR.onBool (G:=fun x=>wpAny (MX X) A (truthy x) _ NoE {s with heap:=h1,toks:=tk1}) r1 (aE e (fun hb e=>?_) fun hb e=>?_)<;>rw[hb]
   ·exact wpAny_truthy_bool (wpAny_pure (K.of e _ _ tk1 _ T1 (hb▸r1)))
   ·exact wpAny_truthy_bool (ih A ad1 {s with heap:=h1,toks:=tk1} S1 loc env ex v S' Q ho T1.rep (F.step0 R T1) Z e (K.after T1 tk1))
theorem D7{l:List IE}{es:List Expr}{pos:Pos}(H:cL (fun i e=>aG X P cf wf n i e nk) l es):aG X P cf wf n (.and l) (.BoolOp .And es pos) nk:=by
 intro A ad s S loc env ex v S' Q ho R F Z e K
 rw[arm_eval_BoolOp]
 exact wJ H A ad s S loc env ex v S' Q ho R F Z e K
theorem GD{l:List IE}{es:List Expr}{pos:Pos}(H:cL (fun i e=>aG X P cf wf n i e nk) l es):aG X P cf wf n (.or l) (.BoolOp .Or es pos) nk:=by
 intro A ad s S loc env ex v S' Q ho R F Z e K
 rw[arm_eval_BoolOp]
 exact Ak H A ad s S loc env ex v S' Q ho R F Z e K
theorem IV{i:IE}{e1:Expr}{pos:Pos}(H:b8 X P cf wf n i e1 nk):b8 X P cf wf n (.not i) (.UnaryOp .Not e1 pos) nk:=by
 intro A ad s S loc env ex b S' Q ho R F Z e K
 obtain⟨c,S1,ec,e⟩:=ao e
 rw[be] at e
 obtain⟨rfl,rfl⟩:=aM e
 exact wpAny_isTrue_Not (H A ad s S loc env ex c S1 _ ho R F Z ec fun ad1 h1 tk1 T1=>K ad1 h1 tk1 T1)
noncomputable def D8(X:Cx)(n:Nat)(nk:NK){β:Type}(f:β→Loc→aa→Option (Bool×aa)){γ:Type}(c:γ→Env→Sem Bool)(l:β)(es:γ):Prop:=
 ∀(A:Around) (ad:List au) (s:Shared) (S:aa) (loc:Loc) (env:Env) (ex:Addr→Prop) (b:Bool) (S':aa) (Q:Bool→Shared→Prop),aQ A (n + 1)→Rep X ad s.heap S→Frm X ad s.heap env ex loc→Scp env ex nk→f l loc S=some (b,S')→qi X ad s b S' Q→wpAny (MX X) A (c es env) Q NoE s
theorem uO{l:List IE}{es:List Expr}(HH:cL (fun i e=>b8 X P cf wf n i e nk) l es):D8 X n nk (gQ P cf wf) (fun es env=>allTrue .And es env) l es:=by
 induction HH with
 | nil=>exact fun A ad s S loc env ex b S' Q ho R F Z e K=>wpAny_allTrue_And_nil (K.of e _ _ s.toks (ai.refl R))
 | cons H Hs ih=>
  intro A ad s S loc env ex b S' Q ho R F Z e K
  refine fJ e fun c S1 ec e=>wpAny_allTrue_And_cons (H A ad s S loc env ex c S1 _ ho R F Z ec fun ad1 h1 tk1 T1=>aE e (fun hc e=>?_) fun hc e=>?_)<;>rw[hc]
  ·exact ih A ad1 {s with heap:=h1,toks:=tk1} S1 loc env ex b S' Q ho T1.rep (F.step0 R T1) Z e (K.after T1 tk1)
  ·exact K.of e _ _ tk1 T1
theorem wK{l:List IE}{es:List Expr}(HH:cL (fun i e=>b8 X P cf wf n i e nk) l es):D8 X n nk (Do P cf wf) (fun es env=>allTrue .Or es env) l es:=by
 induction HH with
 | nil=>exact fun A ad s S loc env ex b S' Q ho R F Z e K=>wpAny_allTrue_Or_nil (K.of e _ _ s.toks (ai.refl R))
 | cons H Hs ih=>
  intro A ad s S loc env ex b S' Q ho R F Z e K
  refine fJ e fun c S1 ec e=>wpAny_allTrue_Or_cons (H A ad s S loc env ex c S1 _ ho R F Z ec fun ad1 h1 tk1 T1=>aE e (fun hc e=>?_) fun hc e=>?_)<;>rw[hc]
  ·exact K.of e _ _ tk1 T1
  ·exact ih A ad1 {s with heap:=h1,toks:=tk1} S1 loc env ex b S' Q ho T1.rep (F.step0 R T1) Z e (K.after T1 tk1)
theorem IW{l:List IE}{es:List Expr}{pos:Pos}(H:cL (fun i e=>b8 X P cf wf n i e nk) l es):b8 X P cf wf n (.and l) (.BoolOp .And es pos) nk:=by
 intro A ad s S loc env ex b S' Q ho R F Z e K
 exact wpAny_isTrue_BoolOp (uO H A ad s S loc env ex b S' Q ho R F Z e K)
theorem tor{l:List IE}{es:List Expr}{pos:Pos}(H:cL (fun i e=>b8 X P cf wf n i e nk) l es):b8 X P cf wf n (.or l) (.BoolOp .Or es pos) nk:=by
 intro A ad s S loc env ex b S' Q ho R F Z e K
 exact wpAny_isTrue_BoolOp (wK H A ad s S loc env ex b S' Q ho R F Z e K)
theorem IX{t b o:IE}{e1 e2 e3:Expr}{pos:Pos}(H1:b8 X P cf wf n t e1 nk)(H2:b8 X P cf wf n b e2 nk)(H3:b8 X P cf wf n o e3 nk):b8 X P cf wf n (.ite t b o) (.IfExp e1 e2 e3 pos) nk:=by
 intro A ad s S loc env ex r S' Q ho R F Z e K
 obtain⟨c,S1,ea,e⟩:=ao e
 rw[arm_isTrue_IfExp]
 refine wpAny_bind (H1 A ad s S loc env ex c S1 _ ho R F Z ea fun ad1 h1 tk1 T1=>aE e (fun hc e=>?_) fun hc e=>?_)<;>rw[hc]
 ·exact H2 A ad1 _ S1 loc env ex r S' _ ho T1.rep (F.step0 R T1) Z e (K.after T1 tk1)
 ·exact H3 A ad1 _ S1 loc env ex r S' _ ho T1.rep (F.step0 R T1) Z e (K.after T1 tk1)
noncomputable def jR(e:Expr):Bool:=(zE e fun op _=>!(decide (op=.Not)))||!(Nat.beq (tag e) 3||(Nat.beq (tag e) 0||(Nat.beq (tag e) 5||Nat.beq (tag e) 15)))
theorem oY{e:Expr}(q:jR e=true)(env:Env)(whole:Sem Value):isTrue e env whole=(do let v ←whole;standAt e.pos;holding [v] (truthy v)):=by
 cases e with
 | UnaryOp op x p=>cases op<;>first | rfl | exact Mine.clF q
 | _=>first | rfl | exact Mine.clF q
theorem IY{i:IE}{e1:Expr}(q:jR e1=true)(H:aG X P cf wf n i e1 nk):b8 X P cf wf n (.val i) e1 nk:=by
 intro A ad s S loc env ex b S' Q ho R F Z e K
 obtain⟨u,S1,eu,e⟩:=ao e
 refine wpAny_isTrue_value (H A ad s S loc env ex u S1 _ ho R F Z eu fun ad1 h1 tk1 x1 T1 r1=>jl e nN fun c hu e=>?_) (oY q _ _)
 rw[hu] at r1
 exact VR.onBool (G:=fun x=>wpAny (MX X) A (truthy x) Q NoE {s with heap:=h1,toks:=tk1}) r1 (wpAny_truthy_bool (K.of e _ _ tk1 T1))
theorem IZ(G:cD X P at_){op:COp}{l r:IE}{e1 e2:Expr}{pos:Pos}(ns:g8 e2=true)(H1:aG X P cf wf n l e1 nk)(H2:aG X P cf wf n r e2 nk):b8 X P cf wf n (.val (.cmp op l r)) (.Compare e1 [tL op] [e2] pos) nk:=by
 intro A ad s S loc env ex c S' Q ho R F Z e K
 obtain⟨u,S3,e,e3⟩:=ao e
 obtain⟨a,S1,ea,e⟩:=ao e
 obtain⟨b,S2,eb,e⟩:=ao e
 refine wpAny_isTrue_Compare1 (H1 A ad s S loc env ex a S1 _ ho R F Z ea fun ad1 h1 tk1 x1 T1 r1=>?_) (nG ns)
 refine H2 A ad1 _ S1 loc env ex b S2 _ ho T1.rep (F.step0 R T1) Z eb fun ad2 h2 tk2 x2 T2 r2=>?_
 refine tM G.eqt (s:={s with heap:=h2,toks:=tk2}) T2.rep ho op (r1.step T1.rep T2) r2 e fun ad3 h3 tk3 x3 T3 r3=>?_
 refine jl e3 nN fun c hu e3=>?_
 rw[hu] at r3
 exact VR.onBool (G:=fun x=>wpAny (MX X) A (truthy x) Q NoE {s with heap:=h3,toks:=tk3}) r3 (wpAny_truthy_bool (K.of e3 _ _ tk3 ((T1.trans T2).trans T3)))
end Mine
end
section
open PySem PySem.W PySem.Calls PyProof.Rows
namespace Mine
variable {X:Cx} {P:Pg} {at_:List Nat} {A:Around} {n wf:Nat} {cf:CF} {ex ex':Addr→Prop} {ad ad' ad1:List au} {h h' h1:Heap} {S S' S1:aa} {s:Shared} {v a b:AV} {x y b':Value} {loc:Loc} {env:Env} {Q:Value→Shared→Prop} {nk:NK}
theorem aN:∀(names:List (Str×NameKind)) (m:Nat) (acc:List (Str×Addr)),cellsFrom m names acc=cellsFrom m names []++acc
 | [],_,_=>rfl
 | (nm,k)::r,m,acc=>by
  unfold cellsFrom
  split
  ·rw[aN r _ ((nm,m)::acc),aN r _ [(nm,m)]];simp
  ·exact aN r m acc
theorem bB{α:Type}(n:Str)(b:List (Str×α)):∀a:List (Str×α),(a++b).lookup n=(a.lookup n).or (b.lookup n)
 | []=>by simp
 | (k,v)::r=>by
  simp only[List.cons_append,List.lookup_cons]
  split
  ·rfl
  ·exact bB n b r
theorem bx:∀(names:List (Str×NameKind)) (m:Nat) (n:Str),(n,NameKind.cell)∈names→∃c,(cellsFrom m names []).lookup n=some c
 | (nm,k)::r,m,n,hm=>by
  unfold cellsFrom
  rcases List.mem_cons.mp hm with e | hm
  ·obtain⟨rfl,rfl⟩:=Prod.mk.inj e
   simp only[beq_self_eq_true,if_true]
   rw[aN,bB]
   cases q:(cellsFrom (m + 1) r []).lookup n with
   | some c=>exact⟨c,by simp⟩
   | none=>exact⟨m,by simp⟩
  ·split
   ·rw[aN,bB]
    obtain⟨c,hc⟩:=bx r (m + 1) n hm
    exact⟨c,by rw[hc];rfl⟩
   ·exact bx r m n hm
theorem eN:∀(names:List (Str×NameKind)) (m:Nat) (n:Str) (c:Addr),(n,c)∈cellsFrom m names []→(n,NameKind.cell)∈names
 | [],_,_,_,hm=>nomatch hm
 | (nm,k)::r,m,n,c,hm=>by
  unfold cellsFrom at hm
  split at hm
  ·rename_i q
   rw[aN] at hm
   rcases List.mem_append.mp hm with z | z
   ·exact .tail _ (eN r _ n c z)
   ·simp only[List.mem_singleton,Prod.mk.injEq] at z
    rw[z.1,beq_iff_eq.mp q];exact .head _
  ·exact .tail _ (eN r _ n c hm)
noncomputable def cY(env:Env):List (Str×NameKind)→List (Str×Addr)→List (Str×Addr)
 | [],acc=>acc
 | (n,k)::r,acc=>if k==.free then cY env r ((n,(env.cells.lookup n).getD 0)::acc) else cY env r acc
theorem lQ(env:Env):∀(names:List (Str×NameKind)) (acc:List (Str×Addr)),(∀n,(n,NameKind.free)∈names→∃c,env.cells.lookup n=some c)→
  (forIn names acc fun(x:Str×NameKind) r=>match x with
   | (name,kind)=>do
    let cs:=r
    if kind==.free then do
     let c ←cellOf env name
     let cs:=(name,c)::cs
     pure (ForInStep.yield cs)
    else pure (ForInStep.yield cs):Sem (List (Str×Addr)))=pure (cY env names acc)
 | [],acc,_=>rfl
 | (n,k)::r,acc,hc=>by
  rw[List.forIn_cons]
  unfold cY
  by_cases q:k==NameKind.free
  ·have qk:=beq_iff_eq.mp q
   subst qk
   obtain⟨c,e⟩:=hc n (.head _)
   have e2:cellOf env n=pure c:=by unfold cellOf;rw[e]
   simp only[beq_self_eq_true,if_true,e2,e,Option.getD_some,pure_bind]
   exact lQ env r _ fun m hm=>hc m (.tail _ hm)
  ·simp only[q,if_false,pure_bind,Bool.false_eq_true]
   exact lQ env r _ fun m hm=>hc m (.tail _ hm)
theorem m0{scope:Scope}{env:Env}(hc:∀n,(n,NameKind.free)∈scope.names→∃c,env.cells.lookup n=some c):closureFor scope env=pure (cY env scope.names []):=by
 unfold closureFor
 have:=lQ env scope.names [] hc
 simp only[bind_pure]
 exact this
theorem eA(env:Env):∀(names:List (Str×NameKind)) (acc:List (Str×Addr)) (n:Str) (c:Addr),(∀n,(n,NameKind.free)∈names→∃c,env.cells.lookup n=some c)→
  (∀n c,acc.lookup n=some c→env.cells.lookup n=some c)→(cY env names acc).lookup n=some c→env.cells.lookup n=some c
 | [],acc,n,c,_,ha,e=>ha n c e
 | (nm,k)::r,acc,n,c,hc,ha,e=>by
  unfold cY at e
  split at e
  ·rename_i q
   have qk:=beq_iff_eq.mp q
   subst qk
   obtain⟨c',e'⟩:=hc nm (.head _)
   rw[e'] at e
   refine eA env r _ n c (fun m hm=>hc m (.tail _ hm)) (fun m d z=>?_) e
   simp only[Option.getD_some,List.lookup_cons] at z
   split at z
   ·rename_i w;cases z;rw[beq_iff_eq.mp w];exact e'
   ·exact ha m d z
  ·exact eA env r acc n c (fun m hm=>hc m (.tail _ hm)) ha e
theorem ir(env:Env):∀(names:List (Str×NameKind)) (acc:List (Str×Addr)) (n:Str),((n,NameKind.free)∈names∨∃c,acc.lookup n=some c)→∃c,(cY env names acc).lookup n=some c
 | [],acc,n,hm=>by
  rcases hm with hm | hm
  ·exact nomatch hm
  ·exact hm
 | (nm,k)::r,acc,n,hm=>by
  unfold cY
  have acc':∀{y:Addr},(∃c,acc.lookup n=some c)→∃c,List.lookup n ((nm,y)::acc)=some c:=by
   rintro y ⟨c,e⟩
   rw[List.lookup_cons]
   split
   ·exact⟨_,rfl⟩
   ·exact⟨c,e⟩
  split
  ·rename_i q
   refine ir env r _ n ?_
   rcases hm with hm | hm
   ·rcases List.mem_cons.mp hm with e | hm
    ·cases e;right;exact⟨(env.cells.lookup nm).getD 0,by simp⟩
    ·exact .inl hm
   ·exact .inr (acc' hm)
  ·rename_i q
   refine ir env r _ n ?_
   rcases hm with hm | hm
   ·rcases List.mem_cons.mp hm with e | hm
    ·cases e;exact absurd rfl q
    ·exact .inl hm
   ·exact .inr hm
theorem dk{env:Env}:∀{names:List (Str×NameKind)} {n:Str} {k:NameKind},names.lookup n=some k→
  ∃k',(names.map fun(n,k)=>if(k==NameKind.free&&env.scope.kind==.function&&env.kindOf n==some .cell) then(n,NameKind.cell) else(n,k)).lookup n=some k'∧(k'=k∨(k=.free∧k'=.cell))
 | [],_,_,e=>by simp at e
 | (m,l)::r,n,k,e=>by
  rw[List.lookup_cons] at e
  show ∃k',List.lookup n ((if(l==NameKind.free&&env.scope.kind==.function&&env.kindOf m==some .cell)=true then(m,NameKind.cell) else(m,l))::_)=some k'∧_
  cases q:n==m with
  | true=>
   rw[q] at e;cases e
   split
   ·rename_i z
    simp only[Bool.and_eq_true,beq_iff_eq] at z
    exact⟨.cell,by simp[List.lookup_cons,q],.inr ⟨z.1.1,rfl⟩⟩
   ·exact⟨l,by simp[List.lookup_cons,q],.inl rfl⟩
  | false=>
   rw[q] at e
   obtain⟨k',h1,h2⟩:=dk (env:=env) e
   refine⟨k',?_,h2⟩
   split<;>simp only[List.lookup_cons,q]<;>exact h1
theorem cP{env:Env}:∀{names:List (Str×NameKind)} {n:Str} {k':NameKind},(names.map fun(n,k)=>if(k==NameKind.free&&env.scope.kind==.function&&env.kindOf n==some .cell) then(n,NameKind.cell) else(n,k)).lookup n=some k'→
  ∃k,names.lookup n=some k∧(k'=k∨(k=.free∧k'=.cell∧env.kindOf n=some .cell))
 | [],_,_,e=>by simp at e
 | (m,l)::r,n,k,e=>by
  rw[List.lookup_cons]
  change List.lookup n ((if(l==NameKind.free&&env.scope.kind==.function&&env.kindOf m==some .cell)=true then(m,NameKind.cell) else(m,l))::_)=some k at e
  cases q:n==m with
  | true=>
   split at e
   ·rename_i z
    simp only[Bool.and_eq_true,beq_iff_eq] at z
    rw[List.lookup_cons,q] at e;cases e
    refine⟨l,rfl,.inr ⟨z.1.1,rfl,?_⟩⟩
    rw[beq_iff_eq.mp q];exact z.2
   ·rw[List.lookup_cons,q] at e;cases e
    exact⟨_,rfl,.inl rfl⟩
  | false=>
   have e':(r.map fun(n,k)=>if(k==NameKind.free&&env.scope.kind==.function&&env.kindOf n==some .cell) then(n,NameKind.cell) else(n,k)).lookup n=some k:=by
    split at e<;>rw[List.lookup_cons,q] at e<;>exact e
   exact cP e'
noncomputable def eX(scope:Scope)(C:Addr)(env:Env):Env:=
 {scope:=relabel scope env,locals:=C,globals:=env.globals,cells:=cellsFrom (C + 1) scope.names (cY env scope.names []),qual:=env.qual,func:=none,code:=env.code,frame:=env.frame,builtins:=env.builtins}
theorem sf{scope:Scope}{env:Env}{Q:Env→Shared→Prop}
  (K:∀cenv:Env,{cenv with scope:=relabel scope env}=eX scope s.heap.objs.size env→cenv.locals=s.heap.objs.size→Q cenv {s with heap:=pushCells (s.heap.push {cls:=.type "dict",data:=.dict #[]}) scope.names}):
  wpAny (MX X) A (newFunctionEnv scope env.globals (cY env scope.names []) [] env.qual none .none (some env)) Q NoE s:=by
 simp only[newFunctionEnv,Option.isSome_some,if_true]
 refine wpAny_bind (wpAny_alloc ?_)
 refine wpAny_bind (wpAny_layCells _ (fun name kind cells=>by cases hkc:kind==NameKind.cell<;>simp[hkc]) _ _ _ _ ?_)
 rw[show({s with heap:=s.heap.push {cls:=.type "dict",data:=.dict #[]}}:Shared).heap.objs.size=s.heap.objs.size + 1 from Heap.size_push ..]
 rw[List.forIn_nil]
 exact wpAny_bind (wpAny_pure (wpAny_pure (K _ rfl rfl)))
noncomputable def tR(scope:Scope)(C:Addr):Addr→Prop:=fun b=>b=C∨∃n,(cellsFrom (C + 1) scope.names []).lookup n=some b
theorem Al(xs:List Nat)(y:Nat):(xs.any fun x=>Nat.beq x y)=decide (y∈xs):=by
 rw[Bool.eq_iff_iff,List.any_eq_true,decide_eq_true_eq]
 exact⟨fun⟨x,hx,e⟩=>Nat.eq_of_beq_eq_true e▸hx,fun h=>⟨y,h,Nat.beq_refl y⟩⟩
theorem jw(xs:List Nat)(c:Nat):∀loc:Loc,get? c (aU xs loc)=if c∈xs then none else get? c loc
 | []=>by show none=if c∈xs then none else none;split<;>rfl
 | p::r=>by
  have ih:=jw xs c r
  unfold aU at ih ⊢
  rw[List.filter_cons,Al]
  by_cases hy:p.1∈xs
  ·rw[if_neg (by rw[decide_eq_true hy];exact Bool.false_ne_true),ih]
   by_cases hc:c∈xs
   ·rw[if_pos hc,if_pos hc]
   ·rw[if_neg hc,if_neg hc]
    show _=am (Nat.beq c p.1) (some p.2) (get? c r)
    rw[qe,if_neg fun z=>hc (by rw[z];exact hy)]
  ·rw[if_pos (by rw[decide_eq_false hy];rfl)]
   show am (Nat.beq c p.1) (some p.2) (get? c (r.filter fun p=>!(xs.any fun x=>Nat.beq x p.1)))=if c∈xs then none else am (Nat.beq c p.1) (some p.2) (get? c r)
   rw[qe,qe]
   by_cases hc:c=p.1
   ·rw[if_pos hc,if_pos hc,if_neg (hc▸hy)]
   ·rw[if_neg hc,if_neg hc];exact ih
theorem wL(R:Rep X ad h S)(F:Frm X ad h env ex loc){scope:Scope}(hk:scope.kind=.function){xs:List Nat}
  (hfree:∀n,(n,NameKind.free)∈scope.names→(∃c,env.cells.lookup n=some c)∧∃k,env.kindOf n=some k∧(k=.cell∨k=.free))
  (huniq:∀n k,(n,k)∈scope.names→scope.names.lookup n=some k)
  (hown:∀c,c < nS→(scope.names.lookup (sT c)=some .local∨scope.names.lookup (sT c)=some .cell)→c∈xs):
  Frm X ad (pushCells (h.push {cls:=.type "dict",data:=.dict #[]}) scope.names) (eX scope h.objs.size env) (tR scope h.objs.size) (aU xs loc)∧
  Scp (eX scope h.objs.size env) (tR scope h.objs.size) (fun c=>scope.names.lookup (sT c)):=by
 have keep:∀b o,h.get? b=some o→(pushCells (h.push {cls:=.type "dict",data:=.dict #[]}) scope.names).get? b=some o:=fun b o e=>pushCells_keeps _ _ b o (ax _ _ _ e)
 have ok:=cellsFrom_ok scope.names (h.push {cls:=.type "dict",data:=.dict #[]}) (h.objs.size + 1) [] ⟨fun _ _ hm=>(nomatch hm),List.Pairwise.nil⟩ (by rw[Heap.size_push];exact Nat.le_refl _)
 rw[Heap.size_push] at ok
 have fresh:∀b,h.objs.size≤b→Off ad b∧X.B b=none:=by
  intro b hb
  have hn:h.get? b=none:=by
   cases e:h.get? b with
   | none=>rfl
   | some o=>exact absurd (Heap.lt_size e) (Nat.not_lt.mpr hb)
  refine⟨fun c hc=>?_,?_⟩
  ·obtain⟨i,hi,rfl⟩:=List.getElem_of_mem hc
   obtain⟨⟨o1,e1⟩,o2,e2⟩:=R.cell_there (List.getElem?_eq_getElem hi)
   exact⟨fun q=>(by rw[←q,hn] at e1;cases e1),fun q=>(by rw[←q,hn] at e2;cases e2)⟩
  ·cases e:X.B b with
   | none=>rfl
   | some o=>have:=R.base _ _ e;rw[hn] at this;cases this
 have hcl:∀n c,(cY env scope.names []).lookup n=some c→env.cells.lookup n=some c:=fun n c e=>
  eA env scope.names [] n c (fun m hm=>(hfree m hm).1) (fun m d z=>by simp at z) e
 have look:∀n c,(eX scope h.objs.size env).cells.lookup n=some c→((n,c)∈cellsFrom (h.objs.size + 1) scope.names [])∨((cellsFrom (h.objs.size + 1) scope.names []).lookup n=none∧env.cells.lookup n=some c):=by
  intro n c e
  change(cellsFrom (h.objs.size + 1) scope.names (cY env scope.names [])).lookup n=some c at e
  rw[aN,bB] at e
  cases q:(cellsFrom (h.objs.size + 1) scope.names []).lookup n with
  | some d=>rw[q] at e;cases e;exact .inl (mem_of_lookup q)
  | none=>rw[q] at e;exact .inr ⟨rfl,hcl n c e⟩
 have hC:(pushCells (h.push {cls:=.type "dict",data:=.dict #[]}) scope.names).Ns h.objs.size (fun _=>none):=(Heap.Ns.new h (.type "dict")).keeps (pushCells_keeps _ _)
 have T:ai X noX ad h ad S (pushCells (h.push {cls:=.type "dict",data:=.dict #[]}) scope.names):=ai.same R keep
 refine⟨⟨hk,F.glb,F.bns,⟨(fresh _ (Nat.le_refl _)).1,(fresh _ (Nat.le_refl _)).2,.inl rfl,_,hC⟩,fun n c e=>?_,fun n n' c e e'=>?_,fun b hb=>?_,fun c v e hc k hk' vk=>?_⟩,⟨fun c hc k e=>?_,fun c hc hl=>?_,fun n hn=>?_⟩⟩
 ·rcases look n c e with q | ⟨_,q⟩
  ·obtain⟨w,hlo⟩:=ok.empty n c q
   exact⟨(fresh c (Nat.le_of_succ_le hlo)).1,(fresh c (Nat.le_of_succ_le hlo)).2,(Nat.ne_of_gt hlo),_,w⟩
  ·obtain⟨f,nb,_,v,C⟩:=F.cells n c q
   obtain⟨o,e',_⟩:=id C
   exact⟨f,nb,Nat.ne_of_lt (Heap.lt_size e'),v,et C (keep _)⟩
 ·rcases look n c e with q | ⟨_,q⟩<;>rcases look n' c e' with q' | ⟨_,q'⟩
  ·exact name_of_addr ok.apart q q'
  ·have:=(ok.empty n c q).2
   obtain⟨_,_,_,v,C⟩:=F.cells n' c q'
   obtain⟨o,e',_⟩:=C
   exact absurd (Heap.lt_size e') (Nat.not_lt.mpr (Nat.le_of_succ_le this))
  ·have:=(ok.empty n' c q').2
   obtain⟨_,_,_,v,C⟩:=F.cells n c q
   obtain⟨o,e',_⟩:=C
   exact absurd (Heap.lt_size e') (Nat.not_lt.mpr (Nat.le_of_succ_le this))
  ·exact F.inj n n' c q q'
 ·rcases hb with rfl | ⟨n,hm⟩
  ·exact .inl rfl
  ·right
   refine⟨n,?_⟩
   show(cellsFrom (h.objs.size + 1) scope.names (cY env scope.names [])).lookup n=some b
   rw[aN,bB]
   rw[hm];rfl
 ·rw[jw] at e
  split at e
  ·cases e
  ·rename_i hx
   obtain⟨k0,hk0,hkk⟩:=cP hk'
   have isFree:k0=.free:=by
    rcases hkk with rfl | ⟨rfl,_⟩
    ·rcases vk with rfl | rfl | rfl
     ·exact absurd (hown c hc (.inl hk0)) hx
     ·exact absurd (hown c hc (.inr hk0)) hx
     ·rfl
    ·rfl
   subst isFree
   obtain⟨⟨p,hp⟩,k1,hk1,hk1'⟩:=hfree (sT c) (mem_of_lookup hk0)
   obtain⟨val,r,z⟩:=F.vars c v e hc k1 hk1 (hk1'.elim (fun z=>.inr (.inl z)) fun z=>.inr (.inr z))
   refine⟨val,r.step R T,?_⟩
   have hz:∃d,env.cells.lookup (sT c)=some d∧h.IsCell d (some val):=by
    rcases hk1' with rfl | rfl<;>exact z
   obtain⟨d,hd,C⟩:=hz
   have hl:(eX scope h.objs.size env).cells.lookup (sT c)=some d:=by
    show(cellsFrom (h.objs.size + 1) scope.names (cY env scope.names [])).lookup (sT c)=some d
    rw[aN,bB]
    have hno:(cellsFrom (h.objs.size + 1) scope.names []).lookup (sT c)=none:=by
     cases q:(cellsFrom (h.objs.size + 1) scope.names []).lookup (sT c) with
     | none=>rfl
     | some d'=>
      have:=huniq _ _ (eN _ _ _ _ (mem_of_lookup q))
      rw[hk0] at this;cases this
    rw[hno]
    obtain⟨d',hd'⟩:=ir env scope.names [] (sT c) (.inl (mem_of_lookup hk0))
    have:=hcl _ _ hd'
    rw[hd] at this;cases this
    exact hd'
   have hk2:k=.free∨k=.cell:=by rcases hkk with rfl | ⟨_,rfl,_⟩;exact .inl rfl;exact .inr rfl
   rcases hk2 with rfl | rfl<;>exact⟨d,hl,et C (keep _)⟩
 ·obtain⟨k',h1,h2⟩:=dk (env:=env) e
  exact⟨k',h1,h2⟩
 ·rcases hl with hl | hl
  ·left
   obtain⟨k',h1,h2⟩:=dk (env:=env) hl
   rcases h2 with rfl | ⟨h2,_⟩
   ·exact h1
   ·cases h2
  ·right
   obtain⟨k',h1,h2⟩:=dk (env:=env) hl
   rcases h2 with rfl | ⟨h2,_⟩
   ·refine⟨h1,?_⟩
    obtain⟨d,hd⟩:=bx scope.names (h.objs.size + 1) (sT c) (mem_of_lookup hl)
    refine⟨d,?_,.inr ⟨sT c,hd⟩⟩
    show(cellsFrom (h.objs.size + 1) scope.names (cY env scope.names [])).lookup (sT c)=some d
    rw[aN,bB,hd];rfl
   ·cases h2
 ·have cellC:(n,NameKind.cell)∈scope.names→∃c,(eX scope h.objs.size env).cells.lookup n=some c:=fun hm=>by
   obtain⟨d,hd⟩:=bx scope.names (h.objs.size + 1) n hm
   refine⟨d,?_⟩
   show(cellsFrom (h.objs.size + 1) scope.names (cY env scope.names [])).lookup n=some d
   rw[aN,bB,hd];rfl
  have freeC:(n,NameKind.free)∈scope.names→∃c,(eX scope h.objs.size env).cells.lookup n=some c:=fun hm=>by
   obtain⟨d,hd⟩:=ir env scope.names [] n (.inl hm)
   show ∃c,(cellsFrom (h.objs.size + 1) scope.names (cY env scope.names [])).lookup n=some c
   rw[aN,bB]
   cases q:(cellsFrom (h.objs.size + 1) scope.names []).lookup n with
   | some c=>exact⟨c,rfl⟩
   | none=>exact⟨d,hd⟩
  rcases hn with hn | hn
  ·obtain⟨k0,hk0,z⟩:=cP hn
   rcases z with rfl | ⟨rfl,_,_⟩
   ·exact cellC (mem_of_lookup hk0)
   ·exact freeC (mem_of_lookup hk0)
  ·obtain⟨k0,hk0,z⟩:=cP hn
   rcases z with rfl | ⟨_,z,_⟩
   ·exact freeC (mem_of_lookup hk0)
   ·cases z
end Mine
end
section
open PySem PySem.W PySem.Calls PyProof.Rows
namespace Mine
variable {X:Cx} {P:Pg} {at_:List Nat} {A:Around} {n wf:Nat} {cf:CF} {ex ex':Addr→Prop} {ad ad' ad1:List au} {h h' h1:Heap} {S S' S1:aa} {s:Shared} {v a b:AV} {x y b':Value} {loc loc':Loc} {env:Env} {nk:NK} {R':Result→Shared→Prop}
noncomputable def I6(o:Option NameKind):Bool:=o==some .local||o==some .cell
noncomputable def eY(nk:NK)(c:Nat):Bool:=Nat.blt c nS&&I6 (nk c)
theorem cF{c:Nat}(q:eY nk c=true)(Z:Scp env ex nk):c < nS∧oV env ex (sT c):=
 aT q fun q1 q2=>⟨cK q1,Z.st c (cK q1) ((Bool.or_eq_true_iff.mp q2).imp eq_of_beq eq_of_beq)⟩
noncomputable def D9(nk:NK)(c:Nat)(e:Expr):Bool:=fA e fun id=>id==sT c&&eY nk c
noncomputable def jx(nk:NK):List Nat→List Expr→Bool
 | [],es=>es.isEmpty
 | c::cs,es=>c6 es false fun e es=>D9 nk c e&&jx nk cs es
noncomputable def hU(nk:NK)(tg:List Nat)(e:Expr):Bool:=c6 tg false fun c r=>c6 r (D9 nk c e) fun d r=>onTup e fun es=>jx nk (c::d::r) es
theorem sg{nk:NK}{c:Nat}{e:Expr}{G:Expr→Prop}(q:D9 nk c e=true)(K:∀p,eY nk c=true→G (.Name (sT c) p)):G e:=cI e q fun id p q=>aT q fun q1 q2=>eq_of_beq q1▸K p q2
theorem gn:∀(l:List (Nat×AV)) (loc:Loc),l.foldl (fun m p=>upd p.1 p.2 m) loc=fB l loc
 | [],_=>rfl
 | p::r,loc=>gn r _
noncomputable def wM(X:Cx)(A:Around)(nk:NK)(env:Env)(cs:List Nat)(es:List Expr):Prop:=(assignEach es env).length=cs.length∧(assignEach es env).findIdx? (·.1)=none∧
  (∀(i:Nat) (t:Value→Sem Unit) (c:Nat),((assignEach es env).map (·.2))[i]?=some t→cs[i]?=some c→∀(s:Shared) (x:Value) (Q:Unit→Shared→Prop),wpAny (MX X) A (storeName env (sT c) x) Q NoE s→wpAny (MX X) A (t x) Q NoE s)∧∀c∈cs,eY nk c=true
theorem jT:∀{cs:List Nat} {es:List Expr} {env:Env},jx nk cs es=true→wM X A nk env cs es
 | [],es,env,q=>by
  cases es with
  | nil=>exact⟨rfl,rfl,fun i t c e=>(nomatch e),fun _ h=>nomatch h⟩
  | cons _ _=>exact nomatch q
 | c::cs,es,env,q=>bu (G:=wM X A nk env (c::cs)) q (fun q=>nomatch q) fun e es q=>aT q fun q1 q2=>sg (G:=fun e=>wM X A nk env (c::cs) (e::es)) q1 fun p q1=>by
  obtain⟨h1,h2,h3,h4⟩:=jT (env:=env) q2
  refine⟨congrArg Nat.succ h1,?_,fun i t c' e1 e2=>?_,List.forall_mem_cons.mpr ⟨q1,h4⟩⟩
  ·show List.findIdx? (·.1) ((false,assign (.Name (sT c) p) env)::assignEach es env)=none
   rw[List.findIdx?_cons];simp only[Bool.false_eq_true,if_false];rw[h2];rfl
  ·cases i with
   | zero=>
    intro s x Q K
    rw[←(Option.some.inj e1:assign (.Name (sT c) p) env=t),arm_assign_Name]
    rw[←(Option.some.inj e2:c=c')] at K
    exact wpAny_bind (wpAny_standAt (wpAny_bindName K))
   | succ i=>exact h3 i t c' e1 e2
theorem wN{Q:Unit→Shared→Prop}{tg:List Nat}{e:Expr}(q:hU nk tg e=true)(ho:aQ A n)(R:Rep X ad s.heap S)(F:Frm X ad s.heap env ex loc)(Z:Scp env ex nk)(r:VR X ad s.heap v x)(hb:cy tg v loc=some loc')
  (K:∀h' tk,ai X ex ad s.heap ad S h'→Frm X ad h' env ex loc'→Q () {s with heap:=h',toks:=tk}):wpAny (MX X) A (assign e env x) Q NoE s:=by
 refine bu (G:=fun tg=>cy tg v loc=some loc'→wpAny (MX X) A (assign e env x) Q NoE s) q (fun q=>nomatch q) (fun c t q=>bu (G:=fun t=>cy (c::t) v loc=some loc'→wpAny (MX X) A (assign e env x) Q NoE s) q (fun q hb=>?_) fun d t q hb=>?_) hb
 ·refine sg (G:=fun e=>wpAny (MX X) A (assign e env x) Q NoE s) q fun p q=>?_
  have o:=cF q Z
  rw[arm_assign_Name]
  refine wpAny_bind (wpAny_standAt (wpAny_bindName (fP R F o.1 o.2 r ?_)))
  rw[(Option.some.inj ((aB _ _).symm.trans hb):upd c v loc=loc')];exact K
 ·have hb:fy v (fun l=>am (Nat.beq l.length (t.length + 2)) (br (((c::d::t).zip l).foldl (fun m p=>upd p.1 p.2 m) loc) some) none) none=some loc':=hb
  refine lu hb nN fun l hv hb=>aC hb nN fun hl hb=>?_
  rw[hv] at r
  have hl':l.length=t.length + 2:=Nat.eq_of_beq_eq_true hl
  refine kX (G:=fun e=>wpAny (MX X) A (assign e env x) Q NoE s) e q fun es k p q=>VR.onTup (G:=fun x=>wpAny (MX X) A (assign (.Tuple es k p) env x) Q NoE s) r fun a vs m g hle rs=>?_
  obtain⟨f1,f2,f3,f4⟩:=jT (X:=X) (A:=A) (env:=env) q
  refine wpAny_assign_Tuple ho.handled (hH g) (by rw[f1,List.size_toArray,←rs.length,hl'];rfl) f2 fun h' eb=>?_
  have keep:∀b o,s.heap.get? b=some o→h'.get? b=some o:=fun b o e=>eb b o (fun z=>by rw[z,aJ] at e;cases e) e
  have T:ai X noX ad s.heap ad S h':=ai.same R keep
  refine nE (s:={s with heap:=h'}) (cs:=c::d::t) (vs:=l) T.rep (F.step0 R T) (fun c hc=>cF (f4 c hc) Z) hl'.symm (by rw[List.length_map,f1]) f3 (rs.step R T) fun h'' tk T' F'=>?_
  exact K h'' tk ((T.of0 F.there).trans T') (by rw[←(Option.some.inj ((aB _ _).symm.trans hb)),gn];exact F')
theorem qm{Q:Unit→Shared→Prop}{it:Addr}{pv:Addr→Prop}{src:Src}{k:Nat}{e:Expr}(I:ItS X ad s.heap it pv src k)(nz:∀o,src≠.zip o)(K:Q () s):wpAny (MX X) A (letOwnedTupleGo e (.ref it) x) Q NoE s:=by
 have cls:∃o T,s.heap.get? it=some o∧o.cls=.type T∧(["enumerate","zip","dict_itemiterator","dict_reverseitemiterator","odict_iterator","itertools.zip_longest","itertools.pairwise"].contains T)=false:=by
  cases I.shape with
  | tup _ _ g=>obtain⟨o,e,c,_⟩:=g;exact⟨o,_,e,c,by decide⟩
  | lst _ _ g=>obtain⟨o,e,c,_⟩:=g;exact⟨o,_,e,c,by decide⟩
  | rng _ _ g=>exact⟨_,_,g,rfl,by decide⟩
  | live _ _ g=>obtain⟨o,e,c,_⟩:=g;exact⟨o,_,e,c,by decide⟩
  | zip z=>exact absurd rfl (nz _)
 obtain⟨o,T,ho,hc,hT⟩:=cls
 have key:∀a:Addr,wpAny (MX X) A (do
   let o ←load it
   match o.cls,o.data with
   | .type n,.fields vs=>
    if ["enumerate","zip","dict_itemiterator","dict_reverseitemiterator","odict_iterator","itertools.zip_longest","itertools.pairwise"].contains n&&vs[0]?==some (rawInt a) then do
     rule "for.unpacks-the-owned-tuple"
     updateField it 0 .none
    else pure ()
   | _,_=>pure ():Sem Unit) Q NoE s:=fun a=>by
  refine wpAny_bind (wpAny_load ho ?_)
  rw[hc]
  cases o.data with
  | fields vs=>
   show wpAny (MX X) A (if(_&&_)=true then _ else _) Q NoE s
   rw[hT]
   exact wpAny_pure K
  | _=>exact wpAny_pure K
 cases e<;>first | exact wpAny_pure K | (cases x<;>first | exact key _ | exact wpAny_pure K)
inductive Run(f:AV→aa→Option (Unit×aa))(src:Src):Nat→aa→aa→Prop
 | done {k:Nat} {S:aa}:qc S src k→Run f src k S S
 | step {k:Nat} {S S1 S2:aa} {v:AV}:iZ S src k=some v→f v S=some ((),S1)→Run f src (k + 1) S1 S2→Run f src k S S2
theorem nJ{f:AV→Unit→aa→Option (Unit×aa)}{l:List AV}:∀{r:List AV} {k:Nat} {S S':aa},l.drop k=r→ng f r () S=some ((),S')→Run (fun v S=>f v () S) (.items l) k S S'
 | [],k,S,S',hd,e=>(aM e).2▸.done (List.getElem?_eq_none_iff.mpr (List.drop_eq_nil_iff.mp hd))
 | v::r,k,S,S',hd,e=>fJ e fun _ S1 e1 e=>.step (show l[k]?=some v by have:=congrArg (·[0]?) hd;simpa using this) e1 (nJ (r:=r) (by rw[←List.tail_drop,hd];rfl) e)
theorem qo{f:AV→Unit→aa→Option (Unit×aa)}{i:Nat}:∀{m k:Nat} {S S':aa},jn f i m k () S=some ((),S')→Run (fun v S=>f v () S) (.live i) k S S'
 | 0,_,_,_,e=>(nomatch e)
 | m + 1,k,S,S',e=>c8 e nN fun l hl e=>c9 e (fun v hv e=>fJ e fun _ S1 e1 e=>.step (show bQ S[i]? (fun l=>l[k]?) none=some v by rw[hl];exact hv) e1 (qo e)) fun hv e=>(aM e).2▸.done ⟨l,hl,hv⟩
theorem wO{f:AV→Unit→aa→Option (Unit×aa)}{src:Src}(e:loop f wf src () S=some ((),S')):Run (fun v S=>f v () S) src 0 S S':=by
 cases src with
 | items l=>exact nJ (r:=l) rfl e
 | live i=>exact qo e
 | zip o=>exact aC e nN fun q e=>(aM e).2▸.done q
theorem nK{src:Src}{k:Nat}(e:iZ S src k=some v):∀o,src≠.zip o:=fun o h=>by rw[h] at e;exact nomatch e
noncomputable def si(env:Env)(es:List Expr)(b:Bool):Sem Bool:=forIn es b fun c r=>if r=true then do let ok ←isTrue c env (eval c env);pure (ForInStep.yield ok) else pure (ForInStep.yield r)
theorem qp{Q:Bool→Shared→Prop}(es:List Expr):∀s:Shared,Q false s→wpAny (MX X) A (si env es false) Q NoE s:=by
 unfold si
 induction es with
 | nil=>exact fun s q=>wpAny_pure q
 | cons e es ih=>
  intro s q
  rw[List.forIn_cons,if_neg Bool.false_ne_true]
  exact wpAny_bind (wpAny_pure (ih s q))
theorem wP{l:List IE}{es:List Expr}(HH:cL (fun i e=>b8 X P cf wf n i e nk) l es):D8 X n nk (gQ P cf wf) (fun es env=>si env es true) l es:=by
 induction HH with
 | nil=>exact fun A ad s S loc env ex b S' Q ho R F Z e K=>wpAny_pure (K.of e _ _ s.toks (ai.refl R))
 | @cons i e1 l es H Hs ih=>
  intro A ad s S loc env ex b S' Q ho R F Z e K
  refine fJ e fun c S1 ec e=>?_
  show wpAny (MX X) A (forIn (e1::es) true _) Q NoE s
  rw[List.forIn_cons,if_pos rfl]
  refine wpAny_bind (wpAny_bind (H A ad s S loc env ex c S1 _ ho R F Z ec fun ad1 h1 tk1 T1=>wpAny_pure (aE e (fun hc e=>?_) fun hc e=>?_)))<;>rw[hc]
  ·exact ih A ad1 {s with heap:=h1,toks:=tk1} S1 loc env ex b S' Q ho T1.rep (F.step0 R T1) Z e (K.after T1 tk1)
  ·exact qp es _ (K.of e _ _ tk1 T1)
end Mine
end
section
open PySem PySem.W PySem.Calls PyProof.Rows
namespace Mine
variable {X:Cx} {P:Pg} {at_:List Nat} {A:Around} {n wf:Nat} {cf:CF} {ex ex':Addr→Prop} {ad ad' ad1:List au} {h h' h1:Heap} {S S' S1:aa} {s:Shared} {v a b:AV} {x y b':Value} {loc loc':Loc} {env:Env} {nk:NK}
noncomputable def jy(ifs:List Expr)(env:Env):Sem Bool:=forIn ifs true fun c r=>if r=true then do let ok ←isTrue c env (eval c env);pure (ForInStep.yield ok) else pure (ForInStep.yield r)
noncomputable def hV(p:Pos)(it:Value)(target:Expr)(ifs:List Expr)(inner:Sem Unit)(c:Code)(env:Env):Sem Fin:=
 standAt p >>= fun _=>pyNext it >>= fun r=>match r with
  | none=>pure (.done .next)
  | some v=>letOwnedTupleGo target it v >>= fun _=>assign target env v >>= fun _=>jy ifs env >>= fun ok=>if ok then inner >>= fun _=>again c else again c
noncomputable def lS(elt:Expr)(acc:Value)(env:Env):Sem Unit:=eval elt env >>= fun x=>call (.builtin "list.append") [acc,x] >>= fun _=>pure ()
noncomputable def iw(e:Expr)(d:Nat)(it2:Expr)(acc:Value)(env:Env):Sem Unit:=eval it2 env >>= fun x=>standAt it2.pos >>= fun _=>foldedSetIterable it2 env x >>= fun x=>holding [x] (pyIter x)>>= fun it=>runOwn (.compStart e d it acc env) env >>= fun _=>pure ()
theorem CJ(elt target iter:Expr)(ifs:List Expr)(scope:Scope)(pos:Pos)(it acc:Value)(env:Env):
  compTurn (.ListComp elt [⟨target,iter,ifs,0⟩] scope pos) 0 it acc env=hV iter.pos it target ifs (lS elt acc env) (.compLoop (.ListComp elt [⟨target,iter,ifs,0⟩] scope pos) 0 it acc env) env:=by rfl
theorem wQ(elt target iter target2 iter2:Expr)(ifs ifs2:List Expr)(scope:Scope)(pos:Pos)(it acc:Value)(env:Env):
  compTurn (.ListComp elt [⟨target,iter,ifs,0⟩,⟨target2,iter2,ifs2,0⟩] scope pos) 0 it acc env=
   hV iter.pos it target ifs (iw (.ListComp elt [⟨target,iter,ifs,0⟩,⟨target2,iter2,ifs2,0⟩] scope pos) 1 iter2 acc env) (.compLoop (.ListComp elt [⟨target,iter,ifs,0⟩,⟨target2,iter2,ifs2,0⟩] scope pos) 0 it acc env) env:=by
 unfold compTurn
 dsimp only[List.getElem?_cons_zero,List.getElem?_cons_succ]
 simp only[hV,iw,jy,bind_assoc,pure_bind,show((0:Nat) != 0)=false from rfl,Bool.false_eq_true,if_false,Nat.zero_add]
 rfl
theorem wR(elt target iter target2 iter2:Expr)(ifs ifs2:List Expr)(scope:Scope)(pos:Pos)(it acc:Value)(env:Env):
  compTurn (.ListComp elt [⟨target,iter,ifs,0⟩,⟨target2,iter2,ifs2,0⟩] scope pos) 1 it acc env=
   hV iter2.pos it target2 ifs2 (lS elt acc env) (.compLoop (.ListComp elt [⟨target,iter,ifs,0⟩,⟨target2,iter2,ifs2,0⟩] scope pos) 1 it acc env) env:=by rfl
noncomputable def wS(X:Cx)(A:Around)(env:Env)(ex:Addr→Prop)(i:Nat)(acc:Value)(loc:Loc)(target:Expr)(ifs:List Expr)(inner:Sem Unit)(f:AV→aa→Option (Unit×aa)):Prop:=
 ∀(ad:List au) (s:Shared) (S:aa) (v:AV) (x:Value) (S1:aa) (Q:Unit→Shared→Prop),Rep X ad s.heap S→Frm X ad s.heap env ex loc→VR X ad s.heap (.ref i) acc→VR X ad s.heap v x→f v S=some ((),S1)→
  (∀ad' h' tk,ai X ex ad s.heap ad' S1 h'→Frm X ad' h' env ex loc→Q () {s with heap:=h',toks:=tk})→
  wpAny (MX X) A (assign target env x >>= fun _=>jy ifs env >>= fun ok=>if ok then inner else pure ()) Q NoE s
theorem noE{α:Type}{m:Sem α}{Q:α→Shared→Prop}{E:Value→Shared→Prop}(w:wpAny (MX X) A m Q NoE s):wpAny (MX X) A m Q E s:=wpAny_mono w (fun _ _ q=>q) fun _ _ q=>q.elim
noncomputable def fD(X:Cx):Prop:=∀{A:Around} {n:Nat} {ad:List au} {S:aa} {s:Shared} {it:Addr} {pv:Addr→Prop} {o:Option Nat} {Q:Option Value→Shared→Prop},aQ A n→Rep X ad s.heap S→wy X ad s.heap it pv o→gZ o S=true→
 (∀h',(∀b o,s.heap.get? b=some o→¬pv b→h'.get? b=some o)→Q none {s with heap:=h'})→wpAny (MX X) A (pyNext (.ref it)) Q NoE s
noncomputable def orX(p q:Addr→Prop):Addr→Prop:=fun b=>p b∨q b
theorem nL{elt:Expr}{gens:List Comprehension}{scope:Scope}{cp:Pos}{d:Nat}{target:Expr}{ifs:List Expr}{inner:Sem Unit}{i:Nat}{acc:Value}{it:Addr}{pv:Addr→Prop}{src:Src}{f:AV→aa→Option (Unit×aa)}{p:Pos}{R':Result→Shared→Prop}
  (HZ:fD X)(heq:compTurn (.ListComp elt gens scope cp) d (.ref it) acc env=hV p (.ref it) target ifs inner (.compLoop (.ListComp elt gens scope cp) d (.ref it) acc env) env)(ho:aQ A n)(body:wS X A env ex i acc loc target ifs inner f)(dis:∀b,pv b→¬Env.has env b)
  {k:Nat}{S S':aa}(r:Run f src k S S'):∀{ad:List au} {s:Shared},Rep X ad s.heap S→Frm X ad s.heap env ex loc→VR X ad s.heap (.ref i) acc→ItS X ad s.heap it pv src k→
   (∀ad' h' tk,ai X (orX ex pv) ad s.heap ad' S' h'→Frm X ad' h' env ex loc→R' (.ok .next) {s with heap:=h',toks:=tk})→codeAny (MX X) A (.compLoop (.ListComp elt gens scope cp) d (.ref it) acc env) R' s:=by
 induction r with
 | done hend=>
  intro ad s R F ra I K
  refine codeAny_of_tree ?_
  show wpAny _ A ((compTurn (.ListComp elt gens scope cp) d (.ref it) acc env).onRaise (fun x=>do noteFrame x env;theTreesLotGoes x)) _ _ s
  refine wpAny_noted ?_
  rw[heq]
  refine wpAny_bind (wpAny_standAt (wpAny_bind (wpAny_mono (qd (Q:=fun r s'=>r=none∧R' (.ok .next) s') (fun o ho' z st K=>by subst ho';exact HZ ho R z st K) R ho I hend fun h' tk T=>⟨rfl,?_⟩) (fun r s' q=>by obtain⟨rfl,q⟩:=q;exact wpAny_pure q) fun _ _ q=>q.elim)))
  exact(K _ h' tk (T.wk (fun b q=>.inr q) fun b q=>q.elim (F.there b) (I.there b)) (F.step R T fun b q w=>dis b w q))
 | step hitem hf hr ih=>
  intro ad s R F ra I K
  refine codeAny_of_tree ?_
  show wpAny _ A ((compTurn (.ListComp elt gens scope cp) d (.ref it) acc env).onRaise (fun x=>do noteFrame x env;theTreesLotGoes x)) _ _ s
  refine wpAny_noted ?_
  rw[heq]
  refine wpAny_bind (wpAny_standAt (wpAny_bind (wpAny_mono (nD (Q:=fun r s'=>∃h1 x tk1,r=some x∧s'={s with heap:=h1,toks:=tk1}∧ai X pv ad s.heap ad _ h1∧ItS X ad h1 it pv src (_ + 1)∧VR X ad h1 _ x) R I hitem fun h1 x tk1 T1 I1 rx=>⟨h1,x,tk1,rfl,rfl,T1,I1,rx⟩) (fun r s' q=>?_) fun _ _ q=>q.elim)))
  obtain⟨h1,x,tk1,rfl,rfl,T1,I1,rx⟩:=q
  refine wpAny_bind (noE (qm (s:={s with heap:=h1,toks:=tk1}) I1 (nK hitem) ?_))
  have F1:=F.step R T1 fun b q w=>dis b w q
  have T1':ai X (orX ex pv) _ s.heap _ _ h1:=T1.wk (fun b q=>.inr q) fun b q=>q.elim (F.there b) (I.there b)
  have:=body _ {s with heap:=h1,toks:=tk1} _ _ _ _ (fun _ s'=>codeAny (MX X) A (.compLoop (.ListComp elt gens scope cp) d (.ref it) acc env) R' s')
   T1.rep F1 (ra.step R T1) rx hf fun ad2 h2 tk2 T2 F2=>?_
  ·have eq:(assign target env x >>= fun _=>jy ifs env >>= fun ok=>if ok=true then inner >>= fun _=>again (.compLoop (.ListComp elt gens scope cp) d (.ref it) acc env) else again (.compLoop (.ListComp elt gens scope cp) d (.ref it) acc env))=
     ((assign target env x >>= fun _=>jy ifs env >>= fun ok=>if ok=true then inner else pure ())>>= fun _=>again (.compLoop (.ListComp elt gens scope cp) d (.ref it) acc env)):=by
    simp only[bind_assoc]
    congr 1;funext _;congr 1;funext ok
    cases ok<;>simp
   rw[eq]
   exact wpAny_bind (noE (wpAny_mono this (fun _ _ q=>wpAny_pure ⟨rfl,q⟩) fun _ _ q=>q.elim))
  ·have T2':ai X (orX ex pv) _ h1 ad2 _ h2:=T2.wk (fun b q=>.inl q) fun b q=>q.elim (F1.there b) (I1.there b)
   exact ih (s:={s with heap:=h2,toks:=tk2}) T2.rep F2 ((ra.step R T1).step T1.rep T2) (I1.step T1.rep T2 fun b q w=>dis b q (F1.exL b w)) fun ad3 h3 tk3 T3 F3=>K ad3 h3 tk3 ((T1'.trans T2').trans T3) F3
end Mine
end
section
open PySem PySem.W PySem.Calls PyProof.Rows
namespace Mine
variable {X:Cx} {P:Pg} {at_:List Nat} {A:Around} {n wf:Nat} {cf:CF} {ex ex':Addr→Prop} {ad ad' ad1:List au} {h h' h1:Heap} {S S' S1:aa} {s:Shared} {v a b:AV} {x y b':Value} {loc loc':Loc} {env:Env} {nk:NK}
theorem ai.wkO(T:ai X ex ad h ad' S' h')(q:∀b,ex b→ex' b)(off:∀b,ex' b→Off ad' b):ai X ex' ad h ad' S' h':=
 ⟨T.rep,T.pre,T.le,fun b o e f x=>T.ext b o e f fun y=>x (q b y),T.seq,fun b o e x=>T.there b o e fun y=>x (q b y),fun i c p e=>by
  refine⟨(T.fresh i c p e).1,fun y=>?_,fun y=>?_⟩
  ·exact(off _ y c (List.mem_of_getElem? e)).1 rfl
  ·exact(off _ y c (List.mem_of_getElem? e)).2 rfl⟩
noncomputable def wT(xs:List Nat)(loc:Loc):Prop:=∀c∈xs,get? c loc=none
theorem nM:∀(l:List (Nat×AV)) (loc:Loc) (c:Nat),(∀p∈l,p.1≠c)→get? c (l.foldl (fun m p=>upd p.1 p.2 m) loc)=get? c loc
 | [],_,_,_=>rfl
 | p::r,loc,c,q=>by
  show get? c (r.foldl _ (upd p.1 p.2 loc))=_
  rw[nM r _ c fun p' hp=>q p' (.tail _ hp),eW,if_neg fun z=>q p (.head _) z.symm]
theorem qq{tg:List Nat}(e:cy tg v loc=some loc'):∀c,c∉tg→get? c loc'=get? c loc:=fun c=>
 bu (G:=fun tg=>c∉tg→get? c loc'=get? c loc) e (fun e=>nomatch e) fun x t e=>bu (G:=fun t=>c∉x::t→get? c loc'=get? c loc) e
  (fun e hc=>by rw[←Option.some.inj ((aB _ _).symm.trans e),eW,if_neg fun z=>hc (List.mem_singleton.mpr z)])
  fun y t e hc=>lu e nN fun l _ e=>aC e nN fun _ e=>by
   rw[←Option.some.inj ((aB _ _).symm.trans e)]
   exact nM _ _ _ fun p hp z=>hc (z▸(List.of_mem_zip hp).1)
noncomputable def iy(X:Cx)(A:Around)(env:Env)(ex:Addr→Prop)(xs:List Nat)(i:Nat)(acc:Value)(inner:Sem Unit)(g:Loc→aa→Option (Unit×aa)):Prop:=
 ∀(ad:List au) (s:Shared) (S:aa) (loc:Loc) (S1:aa) (Q:Unit→Shared→Prop),Rep X ad s.heap S→Frm X ad s.heap env ex loc→wT xs loc→VR X ad s.heap (.ref i) acc→g loc S=some ((),S1)→
  (∀ad' h' tk,ai X ex ad s.heap ad' S1 h'→Frm X ad' h' env ex loc→Q () {s with heap:=h',toks:=tk})→wpAny (MX X) A inner Q NoE s
theorem tS{tg xs:List Nat}{target:Expr}{ifs:List IE}{es:List Expr}{inner:Sem Unit}{i:Nat}{acc:Value}{g:Loc→aa→Option (Unit×aa)}(ho:aQ A (n + 1))(Z:Scp env ex nk)(q:hU nk tg target=true)
  (H:cL (fun i e=>b8 X P cf wf n i e nk) ifs es)(I:iy X A env ex xs i acc inner g)(dis:∀c∈xs,c∉tg)(hl:wT (tg++xs) loc):
  wS X A env ex i acc loc target es inner (fun v S=>ay (cy tg v loc) (fun loc'=>bnd (gQ P cf wf ifs loc' S) fun b S=>am b (g loc' S) (some ((),S))) none):=by
 intro ad s S v x S1 Q R F ra rx e K
 refine ah e nN fun loc' hb e=>fJ e fun b S2 e1 e=>?_
 have back:∀{ad:List au} {h:Heap},Frm X ad h env ex loc'→Frm X ad h env ex loc:=fun F=>F.reloc fun y v z=>by
  by_cases hy:y∈tg
  ·exact nomatch (hl y (List.mem_append.mpr (.inl hy))).symm.trans z
  ·rw[qq hb y hy];exact z
 refine wpAny_bind (wN q ho R F Z rx hb fun h1 tk1 T1 F1=>?_)
 refine wpAny_bind (wP H A ad {s with heap:=h1,toks:=tk1} S loc' env ex b S2 _ ho T1.rep F1 Z e1 fun ad2 h2 tk2 T2=>?_)
 have T2':=T1.trans (T2.of0 F1.there)
 have F2:=F1.step0 T1.rep T2
 refine aE e (fun hb2 e=>?_) fun hb2 e=>?_<;>rw[hb2]
 ·rw[if_pos rfl]
  exact I ad2 {s with heap:=h2,toks:=tk2} S2 loc' S1 Q T2.rep F2 (fun c hc=>by rw[qq hb c (dis c hc)];exact hl c (List.mem_append.mpr (.inr hc))) (ra.step R T2') e fun ad3 h3 tk3 T3 F3=>K ad3 h3 tk3 (T2'.trans T3) (back F3)
 ·rw[if_neg Bool.false_ne_true]
  exact wpAny_pure (K _ h2 tk2 ((aM e).2▸T2') (back F2))
theorem lb{i:Nat}{acc:Value}{elt:IE}{e1:Expr}{xs:List Nat}(ho:aQ A (n + 1))(Z:Scp env ex nk)(H:aG X P cf wf n elt e1 nk):
  iy X A env ex xs i acc (lS e1 acc env) (fun loc S=>bnd (evE P cf wf elt loc S) fun v S=>g5 i v S):=by
 intro ad s S loc S1 Q R F _ ra e K
 obtain⟨v,S2,e1,e⟩:=ao e
 refine wpAny_bind (H A ad s S loc env ex v S2 _ ho R F Z e1 fun ad1 h1 tk1 x1 T1 r1=>?_)
 refine c8 e nN fun l hl e=>aC e nN fun hb e=>?_
 rw[aB,bU] at e
 refine wpAny_bind (nA (s:={s with heap:=h1,toks:=tk1}) T1.rep (ra.step R T1) hl r1 (cK hb) fun ad2 h2 tk2 x2 T2 r2=>wpAny_pure ?_)
 have T:=T1.trans T2
 rw[(aM e).2] at T
 exact K ad2 h2 tk2 (T.of0 F.there) (F.step0 R T)
noncomputable def fR(X:Cx)(P:Pg)(cf:CF)(wf n:Nat)(it:It)(e:Expr)(nk:NK):Prop:=
 ∀(A:Around) (ad:List au) (s:Shared) (S:aa) (loc:Loc) (env:Env) (ex:Addr→Prop) (src:Src) (S':aa) (Q:Value→Shared→Prop),aQ A (n + 1)→Rep X ad s.heap S→Frm X ad s.heap env ex loc→Scp env ex nk→
  evI P cf wf it loc S=some (src,S')→(∀ad' h' tk p pv,ai X noX ad s.heap ad' S' h'→(∀b,pv b→s.heap.get? b=none)→ItS X ad' h' p pv src 0→Q (.ref p) {s with heap:=h',toks:=tk})→
  wpAny (MX X) A (eval e env) (fun x s1=>wpAny (MX X) A (pyIter x) Q NoE s1) NoE s
theorem ai.new_none(T:ai X noX ad h ad' S' h'){b p:Addr}(hb:b=p)(fr:h'.get? p=none):h.get? b=none:=by
 cases z:h.get? b with
 | none=>rfl
 | some o=>
  obtain⟨o',z'⟩:=T.there b o z (fun f=>f)
  rw[hb] at z';exact nomatch fr.symm.trans z'
theorem GE{ie:IE}{e:Expr}(H:aG X P cf wf n ie e nk):fR X P cf wf n (.of ie) e nk:=by
 intro A ad s S loc env ex src S' Q ho R F Z e K
 obtain⟨v,S1,e1,e⟩:=ao e
 refine ah e nN fun sr hs e=>?_
 have es:=aM e
 rw[es.1] at hs
 refine H A ad s S loc env ex v S1 _ ho R F Z e1 fun ad1 h1 tk1 x1 T1 r1=>?_
 refine zT (s:={s with heap:=h1,toks:=tk1}) T1.rep r1 hs fun it h2 keep fr I=>?_
 exact K ad1 h2 tk1 it _ (es.2▸T1.trans (ai.same T1.rep keep)) (fun b hb=>T1.new_none hb fr) I
theorem Ea{fnm cnm bnm rng zp sor}(G:cD X P at_)(N:hM X P fnm cnm bnm rng zp sor){ie:IE}{e1:Expr}{np pos:Pos}(q:cH e1=true)(qn:bJ nk rng=true)(H:aG X P cf wf n ie e1 nk):
  fR X P cf wf n (.rng ie) (.Call (.Name (sT rng) np) [e1] [] pos) nk:=by
 intro A ad s S loc env ex src S' Q ho R F Z e K
 obtain⟨v,S1,e1',e⟩:=ao e
 refine ft e nN fun k hv e=>aC e nN fun hk e=>aT hk fun h0 h1=>?_
 rw[aB] at e
 have es:=aM e
 refine wpAny_Call_NameR (cE G R F qn Z N.rng.1 N.rng.2 ?_)
 refine dU (T:="range") (jQ q rfl) ?_
 rw[aY q]
 refine PySem.Calls.spliced_cons (H A ad s S loc env ex _ S1 _ ho R F Z e1' fun ad1 h1' tk1 x1 T1 r1=>?_)
 rw[hv] at r1
 refine VR.onInt (G:=fun x1=>wpAny (MX X) A (spliced (backTo pos (starEach [] env))) (fun xs s₁=>wpAny (MX X) A (call (.type "range") (x1::xs)) _ NoE s₁) NoE {s with heap:=h1',toks:=tk1}) r1 fun t=>?_
 refine PySem.Calls.spliced_nil ?_
 refine wz (s:={s with heap:=h1',toks:=tk1}) T1.rep (of_decide_eq_true h0) (of_decide_eq_true h1) fun r h2 tk2 keep W=>?_
 refine W {s with heap:=h2,toks:=tk2} A Q rfl fun it h3 keep2 fr I=>?_
 have T2:=T1.trans (ai.same (ex:=noX) T1.rep keep)
 exact K ad1 h3 tk2 it _ (es.2▸T2.trans (ai.same T2.rep keep2)) (fun b hb=>T2.new_none hb fr) (es.1▸I)
theorem lU{elt:Expr}{gens:List Comprehension}{scope:Scope}{cp:Pos}{d:Nat}{g:Comprehension}{acc:Value}{it:Addr}{pv:Addr→Prop}{src:Src}{R':Result→Shared→Prop}
  (hg:gens[d]?=some g)(ha:g.is_async=0)(I:ItS X ad s.heap it pv src 0)(K:codeAny (MX X) A (.compLoop (.ListComp elt gens scope cp) d (.ref it) acc env) R' s):
  codeAny (MX X) A (.compStart (.ListComp elt gens scope cp) d (.ref it) acc env) R' s:=by
 refine codeAny_of_tree ?_
 show wpAny _ A ((compStart (.ListComp elt gens scope cp) d (.ref it) acc env).onRaise (fun x=>do noteFrame x env;standAt theWindowsPlace)) _ _ s
 refine wpAny_notedAt ?_
 unfold compStart
 have e1:(clausesOf (.ListComp elt gens scope cp))[d]?=some g:=hg
 rw[e1]
 simp only[Option.elim_some,ha,bne_self_eq_false,Bool.false_eq_true,if_false]
 refine wpAny_bind (wpAny_askSetting (wpAny_ite ?_))
 split
 ·exact wpAny_bind (wpAny_pure (wpAny_pure ⟨rfl,K⟩))
 ·exact wpAny_bind (wpAny_rule (wpAny_bind (wpAny_standAt (wpAny_bind (noE (I.self (wpAny_pure ⟨rfl,K⟩)))))))
theorem nO{elt:Expr}{gens:List Comprehension}{scope:Scope}{cp:Pos}{d:Nat}{g:Comprehension}{i:Nat}{acc:Value}{tg xs:List Nat}{it:It}{iter:Expr}{ifs:List IE}{es:List Expr}{inner:Sem Unit}{gl:Loc→aa→Option (Unit×aa)}{p:Pos}
  (HZ:fD X)(ho:aQ A (n + 1))(Z:Scp env ex nk)(hg:gens[d]?=some g)(ha:g.is_async=0)(hs:∀x,foldedSetIterable iter env x=pure x)
  (heq:∀it,compTurn (.ListComp elt gens scope cp) d it acc env=hV p it g.target es inner (.compLoop (.ListComp elt gens scope cp) d it acc env) env)
  (HI:fR X P cf wf n it iter nk)(q:hU nk tg g.target=true)(H:cL (fun i e=>b8 X P cf wf n i e nk) ifs es)(I:iy X A env ex xs i acc inner gl)(dis:∀c∈xs,c∉tg):
  iy X A env ex (tg++xs) i acc (iw (.ListComp elt gens scope cp) d iter acc env) (fun loc S=>bnd (evI P cf wf it loc S) fun src S=>
   loop (fun v (_:Unit) S=>ay (cy tg v loc) (fun loc'=>bnd (gQ P cf wf ifs loc' S) fun b S=>am b (gl loc' S) (some ((),S))) none) wf src () S):=by
 intro ad s S loc S1 Q R F hl ra e K
 obtain⟨src,S2,e1,e⟩:=ao e
 unfold iw
 refine wpAny_bind (wpAny_mono (HI A ad s S loc env ex src S2 (fun it s'=>∃ad' h' tk p pv,it=.ref p∧s'={s with heap:=h',toks:=tk}∧ai X noX ad s.heap ad' S2 h'∧(∀b,pv b→s.heap.get? b=none)∧ItS X ad' h' p pv src 0) ho R F Z e1
  fun ad' h' tk p pv T fr I=>⟨ad',h',tk,p,pv,rfl,rfl,T,fr,I⟩) (fun x s1 w=>?_) fun _ _ q=>q.elim)
 refine wpAny_bind (wpAny_standAt (wpAny_bind (wpAny_of_eq (hs x) (wpAny_bind (wpAny_holding (wpAny_mono w (fun it s2 w2=>?_) fun _ _ q=>q.elim))))))
 obtain⟨ad2,h2,tk2,it,pv,rfl,rfl,T2,fr,IT⟩:=w2
 have F2:=F.step0 R T2
 have away:∀b,pv b→¬Env.has env b:=fun b hb hh=>by
  obtain⟨o,z⟩:=(F.off hh).2
  rw[fr b hb] at z;cases z
 refine wpAny_bind (wpAny_runOwn ?_)
 refine lU (s:={s with heap:=h2,toks:=tk2}) hg ha IT ?_
 refine nL (s:={s with heap:=h2,toks:=tk2}) HZ (heq _) ho (tS ho Z q H I dis hl) away (wO e) T2.rep F2 (ra.step R T2) IT fun ad3 h3 tk3 T3 F3=>?_
 refine wpAny_pure (K ad3 h3 tk3 ?_ F3)
 have T:=(T2.wkO (ex':=orX ex pv) (fun _ q=>q.elim) fun b hb=>hb.elim (fun z=>(F2.off (F2.exL b z)).1) (IT.off b)).trans T3
 exact T.hide (fun b hb=>hb.elim .inl fun z=>.inr (fr b z)) fun b z=>.inl z
end Mine
end
section
open PySem PySem.W PySem.Calls PyProof.Rows
namespace Mine
variable {X:Cx} {P:Pg} {at_:List Nat} {A:Around} {n wf:Nat} {cf:CF} {ex ex':Addr→Prop} {ad ad' ad1:List au} {h h' h1:Heap} {S S' S1:aa} {s:Shared} {v a b:AV} {x y b':Value} {loc loc':Loc} {env:Env} {nk:NK}
structure fE(scope:Scope)(nk:NK)(xs:List Nat):Prop where
 kind:scope.kind=.function
 free:∀n,(n,NameKind.free)∈scope.names→∃c,c < nS∧n=sT c∧(nk c=some .cell∨nk c=some .free)
 uniq:∀n k,(n,k)∈scope.names→scope.names.lookup n=some k
 own:∀c,c < nS→(scope.names.lookup (sT c)=some .local∨scope.names.lookup (sT c)=some .cell)→c∈xs
theorem fE.frees{scope:Scope}{xs:List Nat}(C:fE scope nk xs)(Z:Scp env ex nk):∀n,(n,NameKind.free)∈scope.names→(∃c,env.cells.lookup n=some c)∧∃k,env.kindOf n=some k∧(k=.cell∨k=.free):=by
 intro n hn
 obtain⟨c,hc,rfl,hk⟩:=C.free n hn
 have:∃k,env.kindOf (sT c)=some k∧(k=.cell∨k=.free):=by
  rcases hk with hk | hk
  ·obtain⟨k',e,rfl | ⟨z,_⟩⟩:=Z.kinds c hc _ hk
   ·exact⟨_,e,.inl rfl⟩
   ·cases z
  ·obtain⟨k',e,rfl | ⟨_,rfl⟩⟩:=Z.kinds c hc _ hk
   ·exact⟨_,e,.inr rfl⟩
   ·exact⟨_,e,.inl rfl⟩
 refine⟨?_,this⟩
 obtain⟨k,e,z⟩:=this
 exact Z.clo _ (z.elim (fun z=>.inl (z▸e)) fun z=>.inr (z▸e))
theorem jU{elt:IE}{e1:Expr}{target iter:Expr}{es:List Expr}{rest:List Comprehension}{scope:Scope}{pos:Pos}{tg xs ys:List Nat}{it:It}{ifs:List IE}{r:List IC}{use:Option (Value→Sem Unit)}{p:Pos}
  {inner:Value→Env→Sem Unit}{Q:Value→Shared→Prop}
  (HZ:fD X)(C:fE scope nk xs)(hs:∀env x,foldedSetIterable iter env x=pure x)
  (heq:∀it acc env,compTurn (.ListComp e1 (⟨target,iter,es,0⟩::rest) scope pos) 0 it acc env=hV p it target es (inner acc env) (.compLoop (.ListComp e1 (⟨target,iter,es,0⟩::rest) scope pos) 0 it acc env) env)
  (HI:fR X P cf wf n it iter nk)(q:hU (fun c=>scope.names.lookup (sT c)) tg target=true)(H:cL (fun i e=>b8 X P cf wf n i e (fun c=>scope.names.lookup (sT c))) ifs es)
  (I:∀(A:Around) cenv exC i acc,aQ A (n + 1)→Scp cenv exC (fun c=>scope.names.lookup (sT c))→iy X A cenv exC ys i acc (inner acc cenv) (evC P cf wf (fun loc S=>bnd (evE P cf wf elt loc S) fun v S=>g5 i v S) r))
  (dis:∀c∈ys,c∉tg)(hx:xs=d9 tg r)(hsub:∀c∈tg++ys,c∈xs){ad:List au}{s:Shared}{S S':aa}{loc:Loc}{env:Env}{ex:Addr→Prop}{v:AV}
  (ho:aQ A (n + 1))(R:Rep X ad s.heap S)(F:Frm X ad s.heap env ex loc)(Z:Scp env ex nk)
  (e:evE P cf wf (.comp elt (.mk tg it ifs::r)) loc S=some (v,S'))
  (K:∀ad' h' tk C acc m,ai X noX ad s.heap ad' S' h'→VR X ad' h' v acc→Off ad' C→X.B C=none→h'.Ns C m→s.heap.get? C=none→compPost (MX X) A NoE use Q acc C (.ok .next) {s with heap:=h',toks:=tk}):
  wpAny (MX X) A (comprehension (.ListComp e1 (⟨target,iter,es,0⟩::rest) scope pos) scope env (firstIterPos (⟨target,iter,es,0⟩::rest) pos) (PySem.newList []) false (eval iter env) use) Q NoE s:=by
 obtain⟨src,S2,e2,e⟩:=ao e
 obtain⟨u,S3,e3,e⟩:=ao e
 have e3:=aM (aR.symm.trans e3)
 rw[←e3.1,←e3.2] at e
 clear e3
 change br _ _=_ at e
 rw[aB] at e
 obtain⟨un,S4,e4,e⟩:=ao e
 obtain⟨rfl,rfl⟩:=aM e
 have hfr:=C.frees Z
 refine wpAny_comprehension_free (cl:=cY env scope.names []) (g:=⟨target,iter,es,0⟩) (gs:=rest) rfl (hs env) (m0 fun n hn=>(hfr n hn).1) C.kind (fun x hx hl=>C.uniq x.1 .local (by rw[←hl];exact hx)) ?_
 refine wpAny_mono (HI A ad s S loc env ex src S2 (fun it s'=>∃ad' h' tk p pv,it=.ref p∧s'={s with heap:=h',toks:=tk}∧ai X noX ad s.heap ad' S2 h'∧(∀b,pv b→s.heap.get? b=none)∧ItS X ad' h' p pv src 0) ho R F Z e2
  fun ad' h' tk p pv T fr I=>⟨ad',h',tk,p,pv,rfl,rfl,T,fr,I⟩) (fun x s1 w=>wpAny_mono w (fun it s2 w2=>?_) fun _ _ q=>q) fun _ _ q=>q.elim
 obtain⟨ad2,h2,tk2,it,pv,rfl,rfl,T2,fr,IT⟩:=w2
 refine wpAny_newObj_type (T:="list") (data:=.seq #[]) (dict:=none) ?_
 have T3:ai X noX ad2 h2 _ _ (h2.push (aA #[] 0)):=ai.newList (l:=[]) (vs:=[]) T2.rep .nil (Nat.zero_le _)
 have ra:VR X (ad2++[⟨h2.objs.size,h2.objs.size⟩]) (h2.push (aA #[] 0)) (.ref S2.length) (.ref h2.objs.size):=dg T2.rep (c:=⟨h2.objs.size,h2.objs.size⟩)
 change wpAny (MX X) A _ _ NoE {s with heap:=h2.push (aA #[] 0),toks:=tk2}
 have T23:=T2.trans T3
 have F3:=F.step0 R T23
 have IT3:ItS X _ (h2.push (aA #[] 0)) it pv src 0:=IT.step T2.rep T3 fun _ _ f=>f
 generalize hh3:h2.push (aA #[] 0)=h3 at *
 generalize had3:ad2++[⟨h2.objs.size,h2.objs.size⟩]=ad3 at *
 refine sf (s:={s with heap:=h3,toks:=tk2}) fun cenv hc hC=>?_
 rw[hc,hC]
 obtain⟨Fc,Zc⟩:=wL (X:=X) T3.rep F3 C.kind (xs:=xs) hfr C.uniq C.own
 have keep:∀b o,h3.get? b=some o→(pushCells (h3.push {cls:=.type "dict",data:=.dict #[]}) scope.names).get? b=some o:=fun b o e=>pushCells_keeps _ _ b o (ax _ _ _ e)
 have T4:ai X noX ad3 h3 ad3 _ (pushCells (h3.push {cls:=.type "dict",data:=.dict #[]}) scope.names):=ai.same T3.rep keep
 generalize hh4:pushCells (h3.push {cls:=.type "dict",data:=.dict #[]}) scope.names=h4 at *
 have IT4:=IT3.step T3.rep T4 fun _ _ f=>f
 have ra4:=ra.step T3.rep T4
 have T04:=T23.trans T4
 have hfC:h3.get? h3.objs.size=none:=aJ
 have ce:=(cellsFrom_ok scope.names (h3.push {cls:=.type "dict",data:=.dict #[]}) (h3.objs.size + 1) [] ⟨fun _ _ hm=>(nomatch hm),List.Pairwise.nil⟩ (by rw[Heap.size_push];exact Nat.le_refl _)).empty
 rw[Heap.size_push] at ce
 have fC:∀b,tR scope h3.objs.size b→s.heap.get? b=none:=by
  intro b hb
  cases z:s.heap.get? b with
  | none=>rfl
  | some o=>
   obtain⟨o',z'⟩:=T23.there b o z (fun f=>f)
   have lt:=Heap.lt_size z'
   rcases hb with rfl | ⟨n,hn⟩
   ·exact absurd lt (Nat.lt_irrefl _)
   ·have:=ce n b (mem_of_lookup hn)
    exact absurd lt (Nat.not_lt.mpr (Nat.le_of_succ_le this.2))
 have away:∀b,pv b→¬Env.has (eX scope h3.objs.size env) b:=fun b hb hh=>by
  obtain⟨o,z⟩:=IT3.there b hb
  rcases hh with rfl | ⟨n,hn⟩
  ·change h3.get? h3.objs.size=some o at z
   rw[aJ] at z;cases z
  ·change(cellsFrom (h3.objs.size + 1) scope.names (cY env scope.names [])).lookup n=some b at hn
   rw[aN,bB] at hn
   cases w:(cellsFrom (h3.objs.size + 1) scope.names []).lookup n with
   | some d=>
    rw[w] at hn;cases hn
    have:=(ce n b (mem_of_lookup w)).2
    exact absurd (Heap.lt_size z) (Nat.not_lt.mpr (Nat.le_of_succ_le this))
   | none=>
    rw[w] at hn
    have hn':env.cells.lookup n=some b:=eA env scope.names [] n b (fun m hm=>(hfr m hm).1) (fun m d z=>by simp at z) hn
    obtain⟨o',z'⟩:=(F.off (.inr ⟨n,hn'⟩)).2
    rw[fr b hb] at z';cases z'
 refine lU (s:={s with heap:=h4,toks:=tk2}) (g:=⟨target,iter,es,0⟩) rfl rfl IT4 ?_
 have hl:wT (tg++ys) (aU xs loc):=fun c hc=>by rw[jw,if_pos (hsub c hc)]
 subst hx
 refine nL (s:={s with heap:=h4,toks:=tk2}) HZ (heq _ _ _) ho (tS ho Zc q H (I A _ _ S2.length (.ref h2.objs.size) ho Zc) dis hl) away (wO e4) T4.rep Fc ra4 IT4 fun ad5 h5 tk5 T5 F5=>?_
 obtain⟨o5,nb5,_,m,N5⟩:=F5.L
 have T:=(T04.wkO (ex':=orX (tR scope h3.objs.size) pv) (fun _ q=>q.elim) fun b hb=>hb.elim (fun z=>(Fc.off (Fc.exL b z)).1) (IT4.off b)).trans T5
 exact K ad5 h5 tk5 _ _ m (T.hide (fun b hb=>hb.elim (fun z=>.inr (fC b z)) fun z=>.inr (fr b z)) fun b z=>z.elim) (ra4.step T4.rep T5) o5 nb5 N5 (fC _ (.inl rfl))
theorem sj(R:Rep X ad h S){C:Addr}{m:Str→Option Value}(T:ai X noX ad h ad' S' h1)(o:Off ad' C)(nb:X.B C=none)(N:h1.Ns C m)(fr:h.get? C=none)(sb:Heap.SameBut C h1 h'):ai X noX ad h ad' S' h'∧ai X (·=C) ad' h1 ad' S' h':=by
 have T1:ai X (·=C) ad' h1 ad' S' h':=ai.write T.rep o nb (oU N) (fun b o e q=>(sb.2 b q).trans e) rfl
 refine⟨?_,T1⟩
 exact((T.wkO (ex':=(·=C)) (fun _ q=>q.elim) fun b hb=>hb▸o).trans T1).hide (fun b hb=>.inr (hb▸fr)) fun _ z=>z.elim
theorem tT{elt:IE}{e1:Expr}{target iter:Expr}{es:List Expr}{rest:List Comprehension}{scope:Scope}{pos:Pos}{tg xs ys:List Nat}{it:It}{ifs:List IE}{r:List IC}{p:Pos}
  {inner:Value→Env→Sem Unit}
  (HZ:fD X)(C:fE scope nk xs)(hs:∀env x,foldedSetIterable iter env x=pure x)
  (heq:∀it acc env,compTurn (.ListComp e1 (⟨target,iter,es,0⟩::rest) scope pos) 0 it acc env=hV p it target es (inner acc env) (.compLoop (.ListComp e1 (⟨target,iter,es,0⟩::rest) scope pos) 0 it acc env) env)
  (HI:fR X P cf wf n it iter nk)(q:hU (fun c=>scope.names.lookup (sT c)) tg target=true)(H:cL (fun i e=>b8 X P cf wf n i e (fun c=>scope.names.lookup (sT c))) ifs es)
  (I:∀(A:Around) cenv exC i acc,aQ A (n + 1)→Scp cenv exC (fun c=>scope.names.lookup (sT c))→iy X A cenv exC ys i acc (inner acc cenv) (evC P cf wf (fun loc S=>bnd (evE P cf wf elt loc S) fun v S=>g5 i v S) r))
  (dis:∀c∈ys,c∉tg)(hx:xs=d9 tg r)(hsub:∀c∈tg++ys,c∈xs):aG X P cf wf n (.comp elt (.mk tg it ifs::r)) (.ListComp e1 (⟨target,iter,es,0⟩::rest) scope pos) nk:=by
 intro A ad s S loc env ex v S' Q ho R F Z e K
 rw[eval_ListComp]
 refine jU (use:=none) HZ C hs heq HI q H I dis hx hsub ho R F Z e ?_
 intro ad' h' tk C' acc m T r o nb N fr
 refine⟨m,N,fun h'' sb=>?_⟩
 obtain⟨T1,T2⟩:=sj R T o nb N fr sb
 exact K ad' h'' tk acc T1 (r.step T.rep T2)
theorem wU{elt:IE}{e1:Expr}{target iter:Expr}{es:List Expr}{scope:Scope}{pos:Pos}{tg:List Nat}{it:It}{ifs:List IE}
  (HZ:fD X)(C:fE scope nk tg)(hs:∀env x,foldedSetIterable iter env x=pure x)
  (HI:fR X P cf wf n it iter nk)(q:hU (fun c=>scope.names.lookup (sT c)) tg target=true)(H:cL (fun i e=>b8 X P cf wf n i e (fun c=>scope.names.lookup (sT c))) ifs es)
  (HE:aG X P cf wf n elt e1 (fun c=>scope.names.lookup (sT c))):aG X P cf wf n (.comp elt [.mk tg it ifs]) (.ListComp e1 [⟨target,iter,es,0⟩] scope pos) nk:=
 tT (ys:=[]) (inner:=lS e1) HZ C hs (fun it acc env=>CJ e1 target iter es scope pos it acc env) HI q H (fun A cenv exC i acc ho Z=>by
  exact lb ho Z HE) (fun _ h=>nomatch h) rfl (fun c h=>by simpa using h)
theorem wV{elt:IE}{e1:Expr}{target iter target2 iter2:Expr}{es es2:List Expr}{scope:Scope}{pos:Pos}{tg tg2:List Nat}{it it2:It}{ifs ifs2:List IE}
  (HZ:fD X)(C:fE scope nk (tg++tg2))(hs:∀env x,foldedSetIterable iter env x=pure x)(hs2:∀env x,foldedSetIterable iter2 env x=pure x)
  (HI:fR X P cf wf n it iter nk)(q:hU (fun c=>scope.names.lookup (sT c)) tg target=true)(H:cL (fun i e=>b8 X P cf wf n i e (fun c=>scope.names.lookup (sT c))) ifs es)
  (HI2:fR X P cf wf n it2 iter2 (fun c=>scope.names.lookup (sT c)))(q2:hU (fun c=>scope.names.lookup (sT c)) tg2 target2=true)(H2:cL (fun i e=>b8 X P cf wf n i e (fun c=>scope.names.lookup (sT c))) ifs2 es2)
  (dis:∀c∈tg2,c∉tg)
  (HE:aG X P cf wf n elt e1 (fun c=>scope.names.lookup (sT c))):aG X P cf wf n (.comp elt [.mk tg it ifs,.mk tg2 it2 ifs2]) (.ListComp e1 [⟨target,iter,es,0⟩,⟨target2,iter2,es2,0⟩] scope pos) nk:=
 tT (ys:=tg2) (inner:=iw (.ListComp e1 [⟨target,iter,es,0⟩,⟨target2,iter2,es2,0⟩] scope pos) 1 iter2) HZ C hs (fun it acc env=>wQ e1 target iter target2 iter2 es es2 scope pos it acc env) HI q H (fun A cenv exC i acc ho Z=>by
  have:=nO (elt:=e1) (gens:=[⟨target,iter,es,0⟩,⟨target2,iter2,es2,0⟩]) (scope:=scope) (cp:=pos) (d:=1) (g:=⟨target2,iter2,es2,0⟩) (i:=i) (acc:=acc) (xs:=[]) HZ ho Z rfl rfl (hs2 _) (fun it=>wR e1 target iter target2 iter2 es es2 scope pos it acc cenv) HI2 q2 H2 (lb (i:=i) (acc:=acc) (xs:=[]) ho Z HE) (fun _ h=>nomatch h)
  rw[List.append_nil] at this
  exact this) dis rfl (fun c h=>h)
end Mine
end
section
open PySem PySem.W PySem.Calls PyProof.Rows
namespace Mine
variable {X:Cx} {P:Pg} {at_:List Nat} {A:Around} {n wf:Nat} {cf:CF} {ex ex':Addr→Prop} {ad ad' ad1:List au} {h h' h1:Heap} {S S' S1:aa} {s:Shared} {v a b:AV} {x y b':Value} {loc loc':Loc} {env:Env} {nk:NK}
noncomputable def FlR(X:Cx)(ad:List au)(h:Heap)(env:Env)(ex:Addr→Prop):Fl→Flow→Prop
 | .next loc,fw=>fw=.next∧Frm X ad h env ex loc
 | .ret v,fw=>∃x,fw=.ret x∧VR X ad h v x
noncomputable def qr(X:Cx)(ad:List au)(s:Shared)(env:Env)(ex:Addr→Prop)(fl:Fl)(S':aa)(Q:Flow→Shared→Prop):Prop:=
 ∀ad' h' tk fw,ai X ex ad s.heap ad' S' h'→FlR X ad' h' env ex fl fw→Q fw {s with heap:=h',toks:=tk}
theorem qr.after{fl:Fl}{Q:Flow→Shared→Prop}(K:qr X ad s env ex fl S' Q)(T:ai X ex ad s.heap ad1 S1 h1)(tk:Nat):qr X ad1 {s with heap:=h1,toks:=tk} env ex fl S' Q:=fun ad' h' tk' fw T' r=>K ad' h' tk' fw (T.trans T') r
theorem qr.of{fl f0:Fl}{T:aa}{Q:Flow→Shared→Prop}(K:qr X ad s env ex fl S' Q)(e:some (f0,T)=some (fl,S')):qr X ad s env ex f0 T Q:=by cases e;exact K
noncomputable def dn(X:Cx)(P:Pg)(cf:CF)(wf n:Nat)(is:IS)(st:Stmt)(nk:NK):Prop:=
 ∀(A:Around) (ad:List au) (s:Shared) (S:aa) (loc:Loc) (env:Env) (ex:Addr→Prop) (fl:Fl) (S':aa) (Q:Flow→Shared→Prop),aQ A (n + 1)→Rep X ad s.heap S→Frm X ad s.heap env ex loc→Scp env ex nk→
  evS P cf wf is loc S=some (fl,S')→qr X ad s env ex fl S' Q→wpAny (MX X) A (exec st env) Q NoE s
noncomputable def i5(X:Cx)(P:Pg)(cf:CF)(wf n:Nat)(l:List IS)(sts:List Stmt)(nk:NK):Prop:=
 ∀(A:Around) (ad:List au) (s:Shared) (S:aa) (loc:Loc) (env:Env) (ex:Addr→Prop) (fl:Fl) (S':aa) (Q:Flow→Shared→Prop),aQ A (n + 1)→Rep X ad s.heap S→Frm X ad s.heap env ex loc→Scp env ex nk→
  cC P cf wf l loc S=some (fl,S')→qr X ad s env ex fl S' Q→wpAny (MX X) A (execs sts env) Q NoE s
theorem Eb:i5 X P cf wf n [] [] nk:=by
 intro A ad s S loc env ex fl S' Q ho R F Z e K
 obtain⟨rfl,rfl⟩:=aM e
 exact wpAny_pure (K _ _ s.toks _ (ai.refl R) ⟨rfl,F⟩)
theorem Am{i:IS}{l:List IS}{st:Stmt}{sts:List Stmt}(H:dn X P cf wf n i st nk)(Hs:i5 X P cf wf n l sts nk):i5 X P cf wf n (i::l) (st::sts) nk:=by
 intro A ad s S loc env ex fl S' Q ho R F Z e K
 obtain⟨x,S1,e1,e⟩:=ao e
 show wpAny (MX X) A (exec st env >>= fun r=>match r with
  | .next=>execs sts env
  | f=>pure f) Q NoE s
 refine wpAny_bind (H A ad s S loc env ex x S1 _ ho R F Z e1 fun ad1 h1 tk1 fw T1 r=>?_)
 cases x with
 | next loc1=>
  obtain⟨rfl,F1⟩:=r
  exact Hs A ad1 {s with heap:=h1,toks:=tk1} S1 loc1 env ex fl S' Q ho T1.rep F1 Z e (K.after T1 tk1)
 | ret v=>
  obtain⟨y,rfl,r⟩:=r
  exact wpAny_pure (K.of e ad1 h1 tk1 _ T1 ⟨y,rfl,r⟩)
noncomputable def aI(e:Expr):Bool:=!(Nat.beq (tag e) 8||(Nat.beq (tag e) 9||Nat.beq (tag e) 10))
theorem cG{e:Expr}{t:Option Expr}{k:Nat}(q:aI e=true):swapsWith e t k env=pure false:=by
 cases e<;>first | rfl | exact Mine.clF q
theorem An(F:Frm X ad h env ex loc):interactive env=false:=by
 unfold interactive;rw[F.kind];rfl
theorem Ao{i:IE}{e1:Expr}{pos:Pos}(q:aI e1=true)(H:aG X P cf wf n i e1 nk):dn X P cf wf n (.expr i) (.Expr e1 pos) nk:=by
 intro A ad s S loc env ex fl S' Q ho R F Z e K
 obtain⟨v,S1,e1,e⟩:=ao e
 exact wpAny_Expr_any (H A ad s S loc env ex v S1 _ ho R F Z e1 fun ad1 h1 tk1 x1 T1 r1=>K.of e ad1 h1 tk1 _ (T1.of0 F.there) ⟨rfl,F.step0 R T1⟩) (An F) (cG q)
theorem Ec{i:IE}{e1:Expr}{pos:Pos}(H:aG X P cf wf n i e1 nk):dn X P cf wf n (.ret i) (.Return (some e1) pos) nk:=by
 intro A ad s S loc env ex fl S' Q ho R F Z e K
 obtain⟨v,S1,e1,e⟩:=ao e
 exact wpAny_Return_some (H A ad s S loc env ex v S1 _ ho R F Z e1 fun ad1 h1 tk1 x1 T1 r1=>K.of e ad1 h1 tk1 _ (T1.of0 F.there) ⟨x1,rfl,r1⟩)
theorem GF{t:IE}{b o:List IS}{e1:Expr}{sb so:List Stmt}{pos:Pos}(H:b8 X P cf wf n t e1 nk)(Hb:i5 X P cf wf n b sb nk)(Ho:i5 X P cf wf n o so nk):dn X P cf wf n (.ite t b o) (.If e1 sb so pos) nk:=by
 intro A ad s S loc env ex fl S' Q ho R F Z e K
 obtain⟨c,S1,e1,e⟩:=ao e
 refine wpAny_If (H A ad s S loc env ex c S1 _ ho R F Z e1 fun ad1 h1 tk1 T1=>?_)
 have T1':=T1.of0 F.there
 refine aE e (fun hc e=>?_) fun hc e=>?_<;>rw[hc]
 ·rw[if_pos rfl]
  exact Hb A ad1 {s with heap:=h1,toks:=tk1} S1 loc env ex fl S' Q ho T1.rep (F.step0 R T1) Z e (K.after T1' tk1)
 ·rw[if_neg Bool.false_ne_true]
  exact Ho A ad1 {s with heap:=h1,toks:=tk1} S1 loc env ex fl S' Q ho T1.rep (F.step0 R T1) Z e (K.after T1' tk1)
theorem wW{t:IE}{b:List IS}{e1:Expr}{sb:List Stmt}{pos:Pos}(H:b8 X P cf wf n t e1 nk)(Hb:i5 X P cf wf n b sb nk):dn X P cf wf n (.while t b) (.While e1 sb [] pos) nk:=by
 intro A ad s S loc env ex fl S' Q ho R F Z e K
 refine wpAny_While ?_
 refine codeAny_whileLoop (fun m s'=>∃ad1 h1 tk1 S1 loc1,s'={s with heap:=h1,toks:=tk1}∧ai X ex ad s.heap ad1 S1 h1∧Frm X ad1 h1 env ex loc1∧rR (evT P cf wf t) (cC P cf wf b) m loc1 S1=some (fl,S')) (fun m s' I=>?_) wf ⟨ad,s.heap,s.toks,S,loc,rfl,ai.refl R,F,e⟩
 obtain⟨ad1,h1,tk1,S1,loc1,rfl,T1,F1,e⟩:=I
 cases m with
 | zero=>exact(nomatch e)
 | succ m=>
  refine fJ e fun c S2 e2 e=>noE (H A ad1 {s with heap:=h1,toks:=tk1} S1 loc1 env ex c S2 _ ho T1.rep F1 Z e2 fun ad2 h2 tk2 T2=>?_)
  have F2:=F1.step0 T1.rep T2
  have T2':=T1.trans (T2.of0 F1.there)
  refine aE e (fun hc e=>?_) fun hc e=>?_<;>rw[hc]
  ·rw[if_pos rfl]
   refine fJ e fun f S3 e3 e=>noE (Hb A ad2 {s with heap:=h2,toks:=tk2} S2 loc1 env ex f S3 _ ho T2.rep F2 Z e3 fun ad3 h3 tk3 fw T3 r=>?_)
   cases f with
   | next loc3=>
    obtain⟨rfl,F3⟩:=r
    exact⟨m,Nat.lt_succ_self m,ad3,h3,tk3,S3,loc3,rfl,T2'.trans T3,F3,e⟩
   | ret v=>
    obtain⟨y,rfl,r⟩:=r
    exact K.of e ad3 h3 tk3 _ (T2'.trans T3) ⟨y,rfl,r⟩
  ·rw[if_neg Bool.false_ne_true]
   exact wpAny_pure (K.of e ad2 h2 tk2 _ T2' ⟨rfl,F2⟩)
inductive iG(f:AV→Loc→aa→Option (Fl×aa))(src:Src):Nat→Nat→Loc→aa→Fl→aa→Prop
 | done {k:Nat} {loc:Loc} {S:aa}:qc S src k→iG f src 0 k loc S (.next loc) S
 | step {m k:Nat} {loc loc1:Loc} {S S1 S2:aa} {v:AV} {fl:Fl}:iZ S src k=some v→f v loc S=some (.next loc1,S1)→iG f src m (k + 1) loc1 S1 fl S2→iG f src (m + 1) k loc S fl S2
 | ret {k:Nat} {loc:Loc} {S S1:aa} {v u:AV}:iZ S src k=some v→f v loc S=some (.ret u,S1)→iG f src 0 k loc S (.ret u) S1
theorem iG.of{f:AV→Loc→aa→Option (Fl×aa)}{src:Src}{m k:Nat}{fl f0:Fl}{T:aa}(H:iG f src m k loc S f0 T)(e:some (f0,T)=some (fl,S')):iG f src m k loc S fl S':=by cases e;exact H
theorem jV{f:AV→Loc→aa→Option (Fl×aa)}{src:Src}{k:Nat}{fl:Fl}(q:qc S src k)(e:some (Fl.next loc,S)=some (fl,S')):∃m,iG f src m k loc S fl S':=⟨0,(iG.done q).of e⟩
theorem nP{f:AV→Loc→aa→Option (Fl×aa)}{g:Loc→aa→Option (Fl×aa)}{src:Src}{k:Nat}{fl:Fl}(hv:iZ S src k=some v)(e:bnd (f v loc S) (fun x S=>jo x (fun a=>g a S) fun u=>some (.ret u,S))=some (fl,S'))
  (ih:∀a S1,g a S1=some (fl,S')→∃m,iG f src m (k + 1) a S1 fl S'):∃m,iG f src m k loc S fl S':=
 fJ e fun x S1 e1 e=>by
  cases x with
  | next a=>exact(ih a S1 e).elim fun m H=>⟨m + 1,.step hv e1 H⟩
  | ret u=>exact⟨0,(iG.ret hv e1).of e⟩
theorem lV{f:AV→Loc→aa→Option (Fl×aa)}{l:List AV}:∀{r:List AV} {k:Nat} {loc:Loc} {S S':aa} {fl:Fl},l.drop k=r→uE f r loc S=some (fl,S')→∃m,iG f (.items l) m k loc S fl S'
 | [],k,loc,S,S',fl,hd,e=>jV (src:=.items l) (List.getElem?_eq_none_iff.mpr (List.drop_eq_nil_iff.mp hd)) e
 | v::r,k,loc,S,S',fl,hd,e=>nP (g:=uE f r) (show l[k]?=some v by have:=congrArg (·[0]?) hd;simpa using this) e fun a S1 e=>lV (by rw[←List.tail_drop,hd];rfl) e
theorem nQ{f:AV→Loc→aa→Option (Fl×aa)}{i:Nat}:∀{w k:Nat} {loc:Loc} {S S':aa} {fl:Fl},rQ f i w k loc S=some (fl,S')→∃m,iG f (.live i) m k loc S fl S'
 | 0,_,_,_,_,_,e=>(nomatch e)
 | w + 1,k,loc,S,S',fl,e=>c8 e nN fun l hl e=>c9 e (fun v hv e=>nP (g:=rQ f i w (k + 1)) (show bQ S[i]? (fun l=>l[k]?) none=some v by rw[hl];exact hv) e fun a S1 e=>nQ e) fun hv e=>jV (src:=.live i) ⟨l,hl,hv⟩ e
theorem Ap{f:AV→Loc→aa→Option (Fl×aa)}{src:Src}{fl:Fl}(e:Dl f wf src loc S=some (fl,S')):∃m,iG f src m 0 loc S fl S':=by
 cases src with
 | items l=>exact lV (r:=l) rfl e
 | live i=>exact nQ e
 | zip o=>exact aC e nN fun q e=>jV (src:=.zip o) q e
noncomputable def Aq(P:Pg)(cf:CF)(wf:Nat)(tg:List Nat)(b:List IS)(v:AV)(loc:Loc)(S:aa):Option (Fl×aa):=ay (cy tg v loc) (fun loc'=>cC P cf wf b loc' S) none
noncomputable def CK(X:Cx)(s:Shared)(ad:List au)(env:Env)(ex pv:Addr→Prop)(p:Addr)(src:Src)(f:AV→Loc→aa→Option (Fl×aa))(fl:Fl)(S':aa)(m:Nat)(s':Shared):Prop:=
 ∃k ad3 h3 tk3 S3 loc3,s'={s with heap:=h3,toks:=tk3}∧ai X (orX ex pv) ad s.heap ad3 S3 h3∧Frm X ad3 h3 env ex loc3∧ItS X ad3 h3 p pv src k∧iG f src m k loc3 S3 fl S'
noncomputable def Ar(X:Cx)(A:Around)(target:Expr)(p:Addr)(env:Env)(sb:List Stmt)(Q:Flow→Shared→Prop)(r:Option Value)(s₁:Shared):Prop:=
 ∃v,r=some v∧wpAny (MX X) A (letOwnedTupleGo target (.ref p) v) (fun _ s₁'=>wpAny (MX X) A (assign target env v) (fun _ s₂=>wpAny (MX X) A (execs sb env) Q NoE s₂) NoE s₁') NoE s₁
theorem qu{tg:List Nat}{b:List IS}{target:Expr}{sb:List Stmt}{p:Addr}{pv:Addr→Prop}{src:Src}{k:Nat}{f:Fl}(q:hU nk tg target=true)(Hb:i5 X P cf wf n b sb nk)(ho:aQ A (n + 1))(Z:Scp env ex nk)(away:∀b,pv b→¬Env.has env b)
  (R:Rep X ad s.heap S)(F:Frm X ad s.heap env ex loc)(I:ItS X ad s.heap p pv src k){Q:Flow→Shared→Prop}(hi:iZ S src k=some v)(hf:Aq P cf wf tg b v loc S=some (f,S1))
  (K:∀ad4 h4 tk4 fw,ai X (orX ex pv) ad s.heap ad4 S1 h4→ItS X ad4 h4 p pv src (k + 1)→FlR X ad4 h4 env ex f fw→Q fw {s with heap:=h4,toks:=tk4}):wpAny (MX X) A (pyNext (.ref p)) (Ar X A target p env sb Q) NoE s:=by
 refine nD R I hi fun h4 x tk4 T4 I4 rx=>⟨x,rfl,qm (s:={s with heap:=h4,toks:=tk4}) I4 (nK hi) (ah hf nN fun loc4 hb hf=>?_)⟩
 have F4:=F.step R T4 fun b q w=>away b w q
 have T4':ai X (orX ex pv) ad s.heap ad S h4:=T4.wk (fun b q=>.inr q) fun b q=>q.elim (F.there b) (I.there b)
 refine wN (s:={s with heap:=h4,toks:=tk4}) q ho T4.rep F4 Z rx hb fun h5 tk5 T5 F5=>?_
 have T5':=T4'.trans (T5.wk (fun b q=>.inl q) fun b q=>q.elim (F4.there b) (I4.there b))
 have I5:=I4.step T4.rep T5 fun b q w=>away b q (F4.exL b w)
 refine Hb A ad {s with heap:=h5,toks:=tk5} S loc4 env ex f S1 _ ho T5.rep F5 Z hf fun ad6 h6 tk6 fw T6 r6=>?_
 exact K ad6 h6 tk6 fw (T5'.trans (T6.wk (fun b q=>.inl q) fun b q=>q.elim (F5.there b) (I5.there b))) (I5.step T5.rep T6 fun b q w=>away b q (F5.exL b w)) r6
theorem Ed{tg:List Nat}{it:It}{b:List IS}{target iter:Expr}{sb:List Stmt}{pos:Pos}(HZ:fD X)(hs:∀env x,foldedSetIterable iter env x=pure x)(HI:fR X P cf wf n it iter nk)(q:hU nk tg target=true)(Hb:i5 X P cf wf n b sb nk):
  dn X P cf wf n (.for tg it b) (.For target iter sb [] pos) nk:=by
 intro A ad s S loc env ex fl S' Q ho R F Z e K
 obtain⟨src,S1,e1,e⟩:=ao e
 obtain⟨m,run⟩:=Ap (f:=Aq P cf wf tg b) e
 refine wpAny_For ?_ (hs env)
 refine wpAny_mono (HI A ad s S loc env ex src S1 (fun it s'=>∃ad' h' tk p pv,it=.ref p∧s'={s with heap:=h',toks:=tk}∧ai X noX ad s.heap ad' S1 h'∧(∀b,pv b→s.heap.get? b=none)∧ItS X ad' h' p pv src 0) ho R F Z e1
  fun ad' h' tk p pv T fr I=>⟨ad',h',tk,p,pv,rfl,rfl,T,fr,I⟩) (fun x s1 w=>wpAny_mono w (fun it s2 w2=>?_) fun _ _ q=>q) fun _ _ q=>q.elim
 obtain⟨ad2,h2,tk2,p,pv,rfl,rfl,T2,fr,IT⟩:=w2
 have F2:=F.step0 R T2
 have away:∀b,pv b→¬Env.has env b:=fun b hb hh=>(F.off hh).2.elim fun o z=>nomatch (fr b hb).symm.trans z
 have T2':ai X (orX ex pv) ad s.heap ad2 S1 h2:=T2.wkO (fun _ q=>q.elim) fun b hb=>hb.elim (fun z=>(F2.off (F2.exL b z)).1) (IT.off b)
 have fin:∀{ad3 h3 S3},ai X (orX ex pv) ad s.heap ad3 S3 h3→ai X ex ad s.heap ad3 S3 h3:=fun T=>T.hide (fun b hb=>hb.elim .inl fun z=>.inr (fr b z)) fun b z=>.inl z
 refine codeAny_forLoop_any (CK X s ad env ex pv p src (Aq P cf wf tg b) fl S') (fun m s' I=>?_) m ⟨0,ad2,h2,tk2,S1,loc,rfl,T2',F2,IT,run⟩
 obtain⟨k,ad3,h3,tk3,S3,loc3,rfl,T3,F3,I3,r3⟩:=I
 cases r3 with
 | done hend=>
  refine wpAny_mono (qd (s:={s with heap:=h3,toks:=tk3}) (Q:=fun r s'=>r=none∧Q .next s') (fun o ho' z st K=>HZ ho T3.rep z st K) T3.rep ho I3 hend fun h4 tk4 T4=>⟨rfl,?_⟩) (fun r s' z=>by rw[z.1];exact wpAny_pure z.2) fun _ _ q=>q.elim
  exact K ad3 h4 tk4 _ (fin (T3.trans (T4.wk (fun b q=>.inr q) fun b q=>q.elim (F3.there b) (I3.there b)))) ⟨rfl,F3.step T3.rep T4 fun b q w=>away b w q⟩
 | @step m _ _ loc1 _ S4 _ v _ hi hf hr=>
  refine wpAny_mono (qu (s:={s with heap:=h3,toks:=tk3}) q Hb ho Z away T3.rep F3 I3 (Q:=fun f s3=>f=.next∧CK X s ad env ex pv p src (Aq P cf wf tg b) fl S' m s3) hi hf fun ad4 h4 tk4 fw T4 I4 r4=>⟨r4.1,k + 1,ad4,h4,tk4,S4,loc1,rfl,T3.trans T4,r4.2,I4,hr⟩) (fun r s' w=>?_) fun _ _ q=>q.elim
  obtain⟨v,rfl,w⟩:=w
  exact noE (wpAny_mono w (fun _ _ w=>noE (wpAny_mono w (fun _ _ w=>noE (wpAny_mono w (fun f s3 z=>by rw[z.1];exact⟨m,Nat.lt_succ_self m,z.2⟩) fun _ _ q=>q)) fun _ _ q=>q)) fun _ _ q=>q)
 | @ret _ _ _ S4 v u hi hf=>
  refine wpAny_mono (qu (s:={s with heap:=h3,toks:=tk3}) q Hb ho Z away T3.rep F3 I3 (Q:=fun f s3=>∃y,f=.ret y∧Q (.ret y) s3) hi hf fun ad4 h4 tk4 fw T4 I4 r4=>r4.elim fun y z=>⟨y,z.1,K ad4 h4 tk4 _ (fin (T3.trans T4)) ⟨y,rfl,z.2⟩⟩) (fun r s' w=>?_) fun _ _ q=>q.elim
  obtain⟨v,rfl,w⟩:=w
  exact noE (wpAny_mono w (fun _ _ w=>noE (wpAny_mono w (fun _ _ w=>noE (wpAny_mono w (fun f s3 z=>by obtain⟨y,rfl,z⟩:=z;exact z) fun _ _ q=>q)) fun _ _ q=>q)) fun _ _ q=>q)
end Mine
end
section
open PySem PySem.W PySem.Calls PyProof.Rows
namespace Mine
variable {X:Cx} {P:Pg} {at_:List Nat} {A:Around} {n wf:Nat} {cf:CF} {ex ex':Addr→Prop} {ad ad' ad1:List au} {h h' h1:Heap} {S S' S1:aa} {s:Shared} {v a b:AV} {x y b':Value} {loc loc':Loc} {env:Env} {nk:NK}
noncomputable def tU(X:Cx)(P:Pg)(cf:CF)(wf n:Nat)(ie:IE)(e:Expr)(nk:NK):Prop:=
 ∀(A:Around) (ad:List au) (s:Shared) (S:aa) (loc:Loc) (env:Env) (ex:Addr→Prop) (v:AV) (S':aa) (u:Value→Sem Unit) (Q:Unit→Shared→Prop),aQ A (n + 1)→Rep X ad s.heap S→Frm X ad s.heap env ex loc→Scp env ex nk→
  evE P cf wf ie loc S=some (v,S')→
  (∀ad' h' tk C acc m,ai X noX ad s.heap ad' S' h'→VR X ad' h' v acc→Off ad' C→X.B C=none→h'.Ns C m→s.heap.get? C=none→
   wpAny (MX X) A (u acc) (fun _ s''=>∃m,s''.heap.Ns C m∧∀h',Heap.SameBut C s''.heap h'→Q () {s'' with heap:=h'}) NoE {s with heap:=h',toks:=tk})→wpAny (MX X) A (evalThenUse e env u) Q NoE s
theorem uP{elt:IE}{e1:Expr}{target iter:Expr}{es:List Expr}{scope:Scope}{pos:Pos}{tg:List Nat}{it:It}{ifs:List IE}
  (HZ:fD X)(C:fE scope nk tg)(hs:∀env x,foldedSetIterable iter env x=pure x)
  (HI:fR X P cf wf n it iter nk)(q:hU (fun c=>scope.names.lookup (sT c)) tg target=true)(H:cL (fun i e=>b8 X P cf wf n i e (fun c=>scope.names.lookup (sT c))) ifs es)
  (HE:aG X P cf wf n elt e1 (fun c=>scope.names.lookup (sT c))):tU X P cf wf n (.comp elt [.mk tg it ifs]) (.ListComp e1 [⟨target,iter,es,0⟩] scope pos) nk:=by
 intro A ad s S loc env ex v S' u Q ho R F Z e K
 show wpAny (MX X) A (comprehension (.ListComp e1 [⟨target,iter,es,0⟩] scope pos) scope env (firstIterPos [⟨target,iter,es,0⟩] pos) (PySem.newList []) false (eval iter env) (some u)>>= fun _=>pure ()) Q NoE s
 refine wpAny_bind (jU (Q:=fun v s=>wpAny (MX X) A (pure ()) Q NoE s) (ys:=[]) (inner:=lS e1) HZ C hs (fun it acc env=>CJ e1 target iter es scope pos it acc env) HI q H (fun A cenv exC i acc ho Z=>by
  exact lb ho Z HE) (fun _ h=>nomatch h) rfl (fun c h=>by simpa using h) ho R F Z e ?_)
 intro ad' h' tk C' acc m T r o nb N fr
 exact wpAny_mono (K ad' h' tk C' acc m T r o nb N fr) (fun _ s'' ⟨m,N,z⟩=>⟨m,N,fun h' sb=>wpAny_pure (z h' sb)⟩) fun _ _ q=>q
theorem uQ{elt:IE}{e1:Expr}{target iter target2 iter2:Expr}{es es2:List Expr}{scope:Scope}{pos:Pos}{tg tg2:List Nat}{it it2:It}{ifs ifs2:List IE}
  (HZ:fD X)(C:fE scope nk (tg++tg2))(hs:∀env x,foldedSetIterable iter env x=pure x)(hs2:∀env x,foldedSetIterable iter2 env x=pure x)
  (HI:fR X P cf wf n it iter nk)(q:hU (fun c=>scope.names.lookup (sT c)) tg target=true)(H:cL (fun i e=>b8 X P cf wf n i e (fun c=>scope.names.lookup (sT c))) ifs es)
  (HI2:fR X P cf wf n it2 iter2 (fun c=>scope.names.lookup (sT c)))(q2:hU (fun c=>scope.names.lookup (sT c)) tg2 target2=true)(H2:cL (fun i e=>b8 X P cf wf n i e (fun c=>scope.names.lookup (sT c))) ifs2 es2)
  (dis:∀c∈tg2,c∉tg)
  (HE:aG X P cf wf n elt e1 (fun c=>scope.names.lookup (sT c))):tU X P cf wf n (.comp elt [.mk tg it ifs,.mk tg2 it2 ifs2]) (.ListComp e1 [⟨target,iter,es,0⟩,⟨target2,iter2,es2,0⟩] scope pos) nk:=by
 intro A ad s S loc env ex v S' u Q ho R F Z e K
 show wpAny (MX X) A (comprehension (.ListComp e1 [⟨target,iter,es,0⟩,⟨target2,iter2,es2,0⟩] scope pos) scope env (firstIterPos [⟨target,iter,es,0⟩,⟨target2,iter2,es2,0⟩] pos) (PySem.newList []) false (eval iter env) (some u)>>= fun _=>pure ()) Q NoE s
 refine wpAny_bind (jU (Q:=fun v s=>wpAny (MX X) A (pure ()) Q NoE s) (ys:=tg2) (inner:=iw (.ListComp e1 [⟨target,iter,es,0⟩,⟨target2,iter2,es2,0⟩] scope pos) 1 iter2) HZ C hs (fun it acc env=>wQ e1 target iter target2 iter2 es es2 scope pos it acc env) HI q H (fun A cenv exC i acc ho Z=>by
  have:=nO (elt:=e1) (gens:=[⟨target,iter,es,0⟩,⟨target2,iter2,es2,0⟩]) (scope:=scope) (cp:=pos) (d:=1) (g:=⟨target2,iter2,es2,0⟩) (i:=i) (acc:=acc) (xs:=[]) HZ ho Z rfl rfl (hs2 _) (fun it=>wR e1 target iter target2 iter2 es es2 scope pos it acc cenv) HI2 q2 H2 (lb (i:=i) (acc:=acc) (xs:=[]) ho Z HE) (fun _ h=>nomatch h)
  rw[List.append_nil] at this
  exact this) dis rfl (fun c h=>h) ho R F Z e ?_)
 intro ad' h' tk C' acc m T r o nb N fr
 exact wpAny_mono (K ad' h' tk C' acc m T r o nb N fr) (fun _ s'' ⟨m,N,z⟩=>⟨m,N,fun h' sb=>wpAny_pure (z h' sb)⟩) fun _ _ q=>q
theorem As{i:IE}{e1:Expr}{c:Nat}{p1 pos:Pos}(q:aI e1=true)(qs:eY nk c=true)(H:aG X P cf wf n i e1 nk):dn X P cf wf n (.assign (.name c) i) (.Assign [.Name (sT c) p1] e1 pos) nk:=by
 intro A ad s S loc env ex fl S' Q ho R F Z e K
 obtain⟨v,S1,e1,e⟩:=ao (show bnd (evE P cf wf i loc S) (fun v S=>br (upd c v loc) fun loc=>some (.next loc,S))=some (fl,S') from e)
 have K:=K.of ((aB _ _).symm.trans e)
 obtain⟨hc,st⟩:=cF qs Z
 refine wpAny_Assign_Name (H A ad s S loc env ex v S1 _ ho R F Z e1 fun ad1 h1 tk1 x1 T1 r1=>?_) (cG q)
 refine fP (s:={s with heap:=h1,toks:=tk1}) T1.rep (F.step0 R T1) hc st r1 fun h2 tk2 T2 F2=>?_
 exact K ad1 h2 tk2 _ ((T1.of0 F.there).trans T2) ⟨rfl,F2⟩
theorem wX{i:IE}{elt:Expr}{gens:List Comprehension}{scope:Scope}{cp:Pos}{c:Nat}{p1 pos:Pos}(qs:eY nk c=true)(H:aG X P cf wf n i (.ListComp elt gens scope cp) nk)(HU:tU X P cf wf n i (.ListComp elt gens scope cp) nk):
  dn X P cf wf n (.assign (.name c) i) (.Assign [.Name (sT c) p1] (.ListComp elt gens scope cp) pos) nk:=by
 intro A ad s S loc env ex fl S' Q ho R F Z e K
 obtain⟨v,S1,e1,e⟩:=ao (show bnd (evE P cf wf i loc S) (fun v S=>br (upd c v loc) fun loc=>some (.next loc,S))=some (fl,S') from e)
 have K:=K.of ((aB _ _).symm.trans e)
 obtain⟨hc,st⟩:=cF qs Z
 rw[exec_Assign]
 refine wpAny_bind (wpAny_standAt ?_)
 obtain⟨b,hb⟩:∃b,swapsWithSole [.Name (sT c) p1] (.ListComp elt gens scope cp) pos.line env=pure b:=⟨_,rfl⟩
 rw[hb]
 refine wpAny_bind (wpAny_pure ?_)
 cases b
 ·rw[if_neg (by decide)]
  refine wpAny_bind (H A ad s S loc env ex v S1 _ ho R F Z e1 fun ad1 h1 tk1 x1 T1 r1=>?_)
  show wpAny (MX X) A (pure none >>= fun sw=>assignStores env x1 sw [assign (.Name (sT c) p1) env]) Q NoE _
  refine wpAny_bind (wpAny_pure ?_)
  show wpAny (MX X) A (assign (.Name (sT c) p1) env x1 >>= fun _=>pure .next) Q NoE _
  refine wpAny_bind (wpAny_assign_Name ?_)
  refine fP (s:={s with heap:=h1,toks:=tk1}) T1.rep (F.step0 R T1) hc st r1 fun h2 tk2 T2 F2=>wpAny_pure ?_
  exact K ad1 h2 tk2 _ ((T1.of0 F.there).trans T2) ⟨rfl,F2⟩
 ·rw[if_pos rfl]
  refine wpAny_bind (HU A ad s S loc env ex v S1 _ _ ho R F Z e1 fun ad1 h1 tk1 C acc m T1 r1 o nb N fr=>?_)
  show wpAny (MX X) A (assign (.Name (sT c) p1) env acc) _ NoE _
  refine wpAny_assign_Name ?_
  have F1:=F.step0 R T1
  refine fP (s:={s with heap:=h1,toks:=tk1}) T1.rep F1 hc st r1 fun h2 tk2 T2 F2=>?_
  have nC:¬Env.has env C:=fun z=>by
   obtain⟨o',z'⟩:=(F.off z).2
   rw[fr] at z';cases z'
  obtain⟨oC,es,ep,gC,_⟩:=id N
  have N2:h2.Ns C m:=lL N fun o' e=>T2.ext C o' e o fun z=>nC (F1.exL C z)
  have o2:=T2.off gC o
  refine⟨m,N2,fun h3 sb=>wpAny_pure ?_⟩
  have T3:ai X (·=C) ad1 h2 ad1 S1 h3:=ai.write T2.rep o2 nb (oU N2) (fun b o e q=>(sb.2 b q).trans e) rfl
  have T12:=(T1.of0 F.there).trans T2
  have F3:=F2.step T2.rep T3 fun b z w=>nC (w▸z)
  refine K ad1 h3 tk2 _ ?_ ⟨rfl,F3⟩
  have exo:∀b,ex b∨b=C→Off ad1 b:=fun b hb=>hb.elim (fun z=>(F2.off (F2.exL b z)).1) fun z=>z▸o2
  exact((T12.wkO (ex':=fun b=>ex b∨b=C) (fun _ q=>.inl q) exo).trans (T3.wk (fun b z=>.inr z) fun b hb=>hb.elim (F2.there b) fun z=>z▸⟨_,T2.ext C _ gC o fun w=>nC (F1.exL C w)⟩)).hide (fun b hb=>hb.elim .inl fun z=>.inr (z▸fr)) fun _ z=>.inl z
noncomputable def jz:List Nat→Bool
 | []=>true
 | c::r=>!r.contains c&&jz r
theorem gu(c:Nat):∀(l:List (Nat×AV)) (loc:Loc),(∀p∈l,p.1≠c)→get? c (fB l loc)=get? c loc
 | [],_,_=>rfl
 | p::r,loc,q=>by
  show get? c (fB r (upd p.1 p.2 loc))=_
  rw[gu c r _ fun p' hp=>q p' (.tail _ hp),eW,if_neg fun z=>q p (.head _) z.symm]
theorem i6:∀(l:List (Nat×AV)) (loc:Loc) (c:Nat) (v:AV),(l.map (·.1)).Nodup→(c,v)∈l→get? c (fB l loc)=some v
 | p::r,loc,c,v,nd,hm=>by
  simp only[List.map_cons,List.nodup_cons] at nd
  show get? c (fB r (upd p.1 p.2 loc))=_
  rcases List.mem_cons.mp hm with rfl | hm
  ·rw[gu c r _ fun p' hp z=>nd.1 (List.mem_map.mpr ⟨p',hp,z⟩),eW,if_pos rfl]
  ·exact i6 r _ c v nd.2 hm
theorem ss{l:List (Nat×AV)}(nd:(l.map (·.1)).Nodup)(c:Nat):get? c (fB l.reverse loc)=get? c (fB l loc):=by
 by_cases q:∃v,(c,v)∈l
 ·obtain⟨v,hv⟩:=q
  rw[i6 l loc c v nd hv,i6 l.reverse loc c v (by rw[List.map_reverse];exact List.pairwise_reverse.mpr (nd.imp fun z w=>z w.symm)) (List.mem_reverse.mpr hv)]
 ·have z:∀p∈l,p.1≠c:=fun p hp e=>q ⟨p.2,e▸hp⟩
  rw[gu c l loc z,gu c l.reverse loc fun p hp=>z p (List.mem_reverse.mp hp)]
theorem dW:∀{l:List Nat},jz l=true→l.Nodup
 | [],_=>.nil
 | c::r,q=>aT q fun q1 q2=>List.nodup_cons.mpr ⟨fun h=>by rw[List.contains_eq_mem,decide_eq_true h] at q1;exact(nomatch q1),dW q2⟩
theorem At{l:List Nat}{vs:List AV}(q:l.length=vs.length):(l.zip vs).map (·.1)=l:=List.map_fst_zip (Nat.le_of_eq q)
theorem Au{l:List Nat}{vs:List AV}(q:l.length=vs.length):l.reverse.zip vs.reverse=(l.zip vs).reverse:=by
 induction l generalizing vs with
 | nil=>cases vs with
  | nil=>rfl
  | cons _ _=>exact nomatch q
 | cons c r ih=>
  cases vs with
  | nil=>exact nomatch q
  | cons v vs=>
   have q:=Nat.succ.inj q
   rw[List.reverse_cons,List.reverse_cons,List.zip_cons_cons,List.reverse_cons,List.zip_append (by rw[List.length_reverse,List.length_reverse,q]),ih q];rfl
noncomputable def Ee(e:Expr):Bool:=!Nat.beq (tag e) 25||onTup e fun vs=>vs.all (foldedForSure 8)||!vs.all (constantsAlone 8)
theorem lW(f:Expr→Option Str)(hf:∀id pos,f (.Name id pos)=none∨f (.Name id pos)=some id):∀{cs:List Nat} {ts:List Expr},jx nk cs ts=true→(ts.filterMap f).length≤ts.length∧((ts.filterMap f).length=ts.length→ts.filterMap f=cs.map sT)
 | [],ts,q=>by
  cases ts with
  | nil=>exact⟨Nat.le_refl _,fun _=>rfl⟩
  | cons _ _=>exact nomatch q
 | c::cs,ts,q=>bu (G:=fun ts=>(ts.filterMap f).length≤ts.length∧((ts.filterMap f).length=ts.length→ts.filterMap f=(c::cs).map sT)) q (fun q=>nomatch q) fun e ts q=>aT q fun q1 q2=>
  sg (G:=fun e=>((e::ts).filterMap f).length≤(e::ts).length∧(((e::ts).filterMap f).length=(e::ts).length→(e::ts).filterMap f=(c::cs).map sT)) q1 fun p _=>by
   have h:=lW f hf q2
   rcases hf (sT c) p with z | z
   ·rw[List.filterMap_cons_none z]
    exact⟨Nat.le_succ_of_le h.1,fun w=>absurd (Nat.lt_succ_of_le h.1) (Nat.not_lt.mpr (Nat.le_of_eq w.symm))⟩
   ·rw[List.filterMap_cons_some z]
    exact⟨Nat.succ_le_succ h.1,fun w=>congrArg (sT c::·) (h.2 (Nat.succ.inj w))⟩
theorem uR{cs:List Nat}{ts vs:List Expr}{k k':Nat}{p p':Pos}(q:jx nk cs ts=true)(sw:vs.all (foldedForSure 8)=true∨vs.all (constantsAlone 8)=false)(G:Sem (Option (List Str))→Prop)(g0:G (pure none))(g1:G (pure (some (cs.map sT)))):
  G (swappedStores [.Tuple ts k p] (.Tuple vs k' p') env):=by
 refine lw G (fun _=>g0) fun _=>?_
 refine lw G (fun _=>g0) fun _=>?_
 refine lw G (fun _=>g0) fun hl=>?_
 refine lw G (fun _=>g0) fun z1=>?_
 refine lw G (fun z2=>?_) fun _=>?_
 ·exact sw.elim (fun sw=>absurd sw z1) fun sw=>nomatch sw.symm.trans z2
 ·have e:=(lW _ (fun id pos=>lw (fun x=>x=none∨x=some id) (fun _=>.inr rfl) fun _=>.inl rfl) q).2 (IU hl)
  exact e▸g1
theorem qw{cs:List Nat}{ts:List Expr}{k:Nat}{p:Pos}{e:Expr}(q:jx nk cs ts=true)(sw:Ee e=true):
  swappedStores [.Tuple ts k p] e env=pure none∨swappedStores [.Tuple ts k p] e env=pure (some (cs.map sT)):=by
 cases e with
 | Tuple vs k' p'=>
  exact uR q ((Bool.or_eq_true_iff.mp (show(vs.all (foldedForSure 8)||!vs.all (constantsAlone 8))=true from sw)).imp id wE) (fun x=>x=pure none∨x=pure (some (cs.map sT))) (.inl rfl) (.inr rfl)
 | _=>exact .inl rfl
end Mine
end
section
open PySem PySem.W PySem.Calls PyProof.Rows
namespace Mine
variable {X:Cx} {P:Pg} {at_:List Nat} {A:Around} {n wf:Nat} {cf:CF} {ex ex':Addr→Prop} {ad ad' ad1:List au} {h h' h1:Heap} {S S' S1:aa} {s:Shared} {v a b:AV} {x y b':Value} {loc loc':Loc} {env:Env} {nk:NK}
theorem tgo{cs:List Nat}{ts:List Expr}{k:Nat}{p:Pos}(h2:2≤cs.length)(qs:jx nk cs ts=true):hU nk cs (.Tuple ts k p)=true:=by
 cases cs with
 | nil=>exact nomatch h2
 | cons c cs=>cases cs with
  | nil=>exact absurd h2 (show ¬2≤1 by decide)
  | cons d cs=>exact qs
theorem uS{cs:List Nat}(h2:2≤cs.length)(hb:cy cs v loc=some loc'):∃l,v=.tup l∧l.length=cs.length∧loc'=fB (cs.zip l) loc:=by
 cases cs with
 | nil=>exact nomatch h2
 | cons c cs=>cases cs with
  | nil=>exact absurd h2 (show ¬2≤1 by decide)
  | cons d cs=>
   have hb:fy v (fun l=>am (Nat.beq l.length (cs.length + 2)) (br (((c::d::cs).zip l).foldl (fun m p=>upd p.1 p.2 m) loc) some) none) none=some loc':=hb
   exact lu hb nN fun l hv hb=>aC hb nN fun hl hb=>⟨l,hv,Nat.eq_of_beq_eq_true hl,by rw[←gn];exact(Option.some.inj ((aB _ _).symm.trans hb)).symm⟩
theorem wY{i:IE}{e1:Expr}{cs:List Nat}{ts:List Expr}{k:Nat}{p1 pos:Pos}(q:aI e1=true)(sw:Ee e1=true)(nd:jz cs=true)(h2:2≤cs.length)(qs:jx nk cs ts=true)(H:aG X P cf wf n i e1 nk):
  dn X P cf wf n (.assign (.tup cs) i) (.Assign [.Tuple ts k p1] e1 pos) nk:=by
 intro A ad s S loc env ex fl S' Q ho R F Z e K
 obtain⟨v,S1,ev1,e⟩:=ao e
 refine ah e nN fun loc' hb e=>?_
 have K:=K.of e
 refine(qw (env:=env) (k:=k) (p:=p1) qs sw).elim (fun hw=>?_) fun hw=>?_
 ·refine Assign_Tuple (H A ad s S loc env ex v S1 _ ho R F Z ev1 fun ad1 h1 tk1 x1 T1 r1=>?_) (show swapsWith e1 (some (.Tuple ts k p1)) pos.line env=pure false from cG q) hw
  refine wN (s:={s with heap:=h1,toks:=tk1}) (tgo h2 qs) ho T1.rep (F.step0 R T1) Z r1 hb fun h2 tk2 T2 F2=>?_
  exact K ad1 h2 tk2 _ ((T1.of0 F.there).trans T2) ⟨rfl,F2⟩
 ·refine Assign_Tuple_swapped (names:=cs.map sT) (H A ad s S loc env ex v S1 _ ho R F Z ev1 fun ad1 h1 tk1 x1 T1 r1=>?_) (show swapsWith e1 (some (.Tuple ts k p1)) pos.line env=pure false from cG q) hw
  obtain⟨l,hv,hl,hloc⟩:=uS h2 hb
  have fcs:∀c∈cs,eY nk c=true:=(jT (X:=X) (A:=A) (env:=env) qs).2.2.2
  rw[hv] at r1
  refine VR.onTup (G:=fun x1=>wpAny (MX X) A (unpackItems x1 _ _) _ NoE {s with heap:=h1,toks:=tk1}) r1 fun a vs m g hle rs=>?_
  rw[show(cs.map sT).length=vs.toArray.size by rw[List.length_map,List.size_toArray,←rs.length,hl]]
  refine wpAny_unpackItems_tuple (s:={s with heap:=h1,toks:=tk1}) ho.handled (hH g) fun h' eb=>?_
  have T2:ai X noX ad1 h1 ad1 S1 h':=ai.same T1.rep fun b o e=>eb b o (fun z=>by rw[z,aJ] at e;cases e) e
  have T12:=T1.trans T2
  refine nE (s:={s with heap:=h',toks:=tk1}) (cs:=cs.reverse) (vs:=l.reverse) (xs:=vs.reverse) T2.rep (F.step0 R T12) (fun c hc=>cF (fcs c (List.mem_reverse.mp hc)) Z) (by rw[List.length_reverse,List.length_reverse,hl])
   (by simp) (fun i t c e1 e2 s x Q K=>?_) (rs.step T1.rep T2).reverse fun h'' tk T3 F3=>?_
  ·rw[←List.map_reverse,List.map_map] at e1
   rw[List.getElem?_map,e2] at e1
   rw[←Option.some.inj e1]
   exact bindName_ K
  ·refine K ad1 h'' tk _ ((T12.of0 F.there).trans T3) ⟨rfl,F3.reloc fun c u hu=>?_⟩
   rw[Au hl.symm,ss (by rw[At hl.symm];exact dW nd),←hloc]
   exact hu
theorem Av{o i:IE}{eo e1:Expr}{c:Nat}{p1 pos:Pos}(G:cD X P at_)(q:aI e1=true)(hc:c∈at_)(H:aG X P cf wf n i e1 nk)(Ho:aG X P cf wf n o eo nk):
  dn X P cf wf n (.assign (.attr o c) i) (.Assign [.Attribute eo (sT c) p1] e1 pos) nk:=by
 intro A ad s S loc env ex fl S' Q ho R F Z e K
 obtain⟨v,S1,e1,e⟩:=ao e
 obtain⟨u,S2,e2,e⟩:=ao e
 refine plainObj_wpAny_Assign_Attribute (H A ad s S loc env ex v S1 _ ho R F Z e1 fun ad1 h1 tk1 x1 T1 r1=>?_) (cG q)
 have F1:=F.step0 R T1
 refine Ho A ad1 {s with heap:=h1,toks:=tk1} S1 loc env ex u S2 _ ho T1.rep F1 Z e2 fun ad2 h2 tk2 x2 T2 r2=>?_
 refine cS e nN fun j hu e=>ow e nN fun cl l hS e=>aC e nN fun hq e=>aT hq fun q1 q2=>?_
 rw[aB,bU] at e
 rw[hu] at r2
 refine r9 (s:={s with heap:=h2,toks:=tk2}) G T2.rep hc r2 hS q1 (cK q2) (r1.step T1.rep T2) fun h3 tk3 T3=>?_
 have T:=(T1.trans T2).trans T3
 exact K.of e ad2 h3 tk3 _ (T.of0 F.there) ⟨rfl,F.step0 R T⟩
theorem Ef{o k i:IE}{eo ek e1:Expr}{p1 pos:Pos}(q:aI e1=true)(H:aG X P cf wf n i e1 nk)(Ho:aG X P cf wf n o eo nk)(Hk:aG X P cf wf n k ek nk):
  dn X P cf wf n (.assign (.sub o k) i) (.Assign [.Subscript eo ek p1] e1 pos) nk:=by
 intro A ad s S loc env ex fl S' Q ho R F Z e K
 obtain⟨v,S1,e1,e⟩:=ao e
 obtain⟨u,S2,e2,e⟩:=ao e
 obtain⟨w,S3,e3,e⟩:=ao e
 refine wpAny_Assign_Subscript (H A ad s S loc env ex v S1 _ ho R F Z e1 fun ad1 h1 tk1 x1 T1 r1=>?_) (cG q)
 have F1:=F.step0 R T1
 refine Ho A ad1 {s with heap:=h1,toks:=tk1} S1 loc env ex u S2 _ ho T1.rep F1 Z e2 fun ad2 h2 tk2 x2 T2 r2=>?_
 have F2:=F1.step0 T1.rep T2
 refine Hk A ad2 {s with heap:=h2,toks:=tk2} S2 loc env ex w S3 _ ho T2.rep F2 Z e3 fun ad3 h3 tk3 x3 T3 r3=>?_
 have T123:=(T1.trans T2).trans T3
 refine cS e nN fun j hu e=>?_
 rw[hu] at r2
 refine oB e (fun l hS e=>ft e nN fun jj hw e=>aC e nN fun hq e=>?_) fun e=>f9 e nN fun l hS e=>iU e nN fun c hw e=>aC e nN fun hq e=>?_<;>rw[aB,bU] at e<;>rw[hw] at r3
 ·have hq:=of_decide_eq_true hq
  refine VR.onInt (G:=fun x3=>wpAny (MX X) A (setItem x2 x3 x1) _ NoE {s with heap:=h3,toks:=tk3}) r3 fun t=>kP (s:={s with heap:=h3,toks:=tk3}) T3.rep (r2.step T2.rep T3) hS ((r1.step T1.rep T2).step T2.rep T3) hq.1 hq.2 fun h4 T4=>?_
  have T:=T123.trans T4
  exact K.of e ad3 h4 tk3 _ (T.of0 F.there) ⟨rfl,F.step0 R T⟩
 ·refine kQ (s:={s with heap:=h3,toks:=tk3}) T3.rep (r2.step T2.rep T3) hS r3 ((r1.step T1.rep T2).step T2.rep T3) (cK hq) fun h4 tk4 T4=>?_
  have T:=T123.trans T4
  exact K.of e ad3 h4 tk4 _ (T.of0 F.there) ⟨rfl,F.step0 R T⟩
end Mine
end
section
open PySem PySem.W PySem.Calls PyProof.Rows
namespace Mine
variable {X:Cx} {P:Pg} {at_:List Nat} {A:Around} {n wf:Nat} {cf:CF} {ex ex':Addr→Prop} {ad ad' ad1:List au} {h h' h1:Heap} {S S' S1:aa} {s:Shared} {v a b:AV} {x y b':Value} {loc loc':Loc} {env:Env} {nk:NK}
theorem kB{α:Type}{n:Str}:∀{l:List (Str×α)},(∀p∈l,p.1≠n)→l.lookup n=none
 | [],_=>rfl
 | (k,v)::r,q=>by
  rw[List.lookup_cons]
  have:(n==k)=false:=by simpa using fun z:n=k=>q (k,v) (.head _) z.symm
  rw[this]
  exact kB fun p hp=>q p (.tail _ hp)
theorem eO{n:Str}:∀{ns:List Str} {vs:List Value} {i:Nat},ns.Nodup→ns[i]?=some n→(ns.zip vs).lookup n=vs[i]?
 | [],vs,i,_,e=>by simp at e
 | m::ns,[],i,_,e=>by simp
 | m::ns,v::vs,0,_,e=>by
  simp only[List.getElem?_cons_zero,Option.some.injEq] at e;subst e
  simp[List.lookup_cons]
 | m::ns,v::vs,i + 1,nd,e=>by
  obtain⟨nm,nd⟩:=List.nodup_cons.mp nd
  simp only[List.getElem?_cons_succ] at e
  rw[List.zip_cons_cons,List.lookup_cons]
  have:(n==m)=false:=by
   simpa using fun z:n=m=>nm (z▸List.mem_of_getElem? e)
  rw[this]
  simp only[List.getElem?_cons_succ]
  exact eO nd e
theorem jW(s0:List (Str×Value)):∀(l ys:List (Str×Value)),(l.map (·.1)).Nodup→(∀p∈l,∀q∈ys,q.1≠p.1)→
  (forIn l (s0++ys) fun(x:Str×Value) r=>if(List.lookup x.fst r).isNone=true then pure (ForInStep.yield (r++[(x.fst,x.snd)])) else pure (ForInStep.yield r):Sem (List (Str×Value)))=
  pure (s0++ys++l.filter fun p=>(s0.lookup p.1).isNone)
 | [],ys,_,_=>by simp
 | (k,d)::r,ys,nd,q=>by
  simp only[List.map_cons,List.nodup_cons] at nd
  rw[List.forIn_cons]
  have hl:(s0++ys).lookup k=s0.lookup k:=by
   rw[bB,kB fun p hp=>q (k,d) (.head _) p hp]
   cases s0.lookup k<;>rfl
  dsimp only
  rw[hl]
  by_cases z:(s0.lookup k).isNone=true
  ·rw[if_pos z,pure_bind]
   dsimp only
   rw[List.append_assoc]
   rw[jW s0 r (ys++[(k,d)]) nd.2 fun p hp w hw=>?_]
   ·rw[List.filter_cons,if_pos z]
    simp
   ·rcases List.mem_append.mp hw with hw | hw
    ·exact q p (.tail _ hp) w hw
    ·simp only[List.mem_singleton] at hw;subst hw
     exact fun e=>nd.1 (List.mem_map.mpr ⟨p,hp,e.symm⟩)
  ·rw[if_neg z,pure_bind]
   dsimp only
   rw[jW s0 r ys nd.2 fun p hp=>q p (.tail _ hp)]
   rw[List.filter_cons,if_neg z]
theorem uT{ns:List Str}(nd:ns.Nodup){vals ds:List Value}{m j:Nat}(hn:ns.length=m + ds.length)(hg:vals.length=m + j)(h:j≤ds.length):
  ns.zip vals++((ns.drop m).zip ds).filter (fun p=>((ns.zip vals).lookup p.1).isNone)=ns.zip (vals++ds.drop j):=by
 have hl:(ns.take (m + j)).length=m + j:=List.length_take_of_le (hn▸Nat.add_le_add_left h m)
 have hB:ns.drop m=(ns.take (m + j)).drop m++ns.drop (m + j):=by
  have:=List.drop_append_of_le_length (l₁:=ns.take (m + j)) (l₂:=ns.drop (m + j)) (i:=m) (by rw[hl];exact Nat.le_add_right _ _)
  rwa [List.take_append_drop] at this
 have hz:(ns.drop m).zip ds=((ns.take (m + j)).drop m).zip (ds.take j)++(ns.drop (m + j)).zip (ds.drop j):=by
  rw[hB,←List.zip_append (by rw[List.length_drop,hl,Nat.add_sub_cancel_left,List.length_take_of_le h]),List.take_append_drop]
 have hv:ns.zip vals=(ns.take (m + j)).zip vals:=by
  have:=List.zip_append (l₁:=ns.take (m + j)) (l₂:=vals) (r₁:=ns.drop (m + j)) (r₂:=[]) (hl.trans hg.symm)
  rwa [List.take_append_drop,List.append_nil,List.zip_nil_right,List.append_nil] at this
 have hr:ns.zip (vals++ds.drop j)=ns.zip vals++(ns.drop (m + j)).zip (ds.drop j):=by
  rw[hv,←List.zip_append (hl.trans hg.symm),List.take_append_drop]
 have f1:(((ns.take (m + j)).drop m).zip (ds.take j)).filter (fun p=>((ns.zip vals).lookup p.1).isNone)=[]:=by
  rw[List.filter_eq_nil_iff]
  rintro ⟨k,d⟩ hp
  obtain⟨i,hi,e⟩:=List.getElem_of_mem (List.mem_of_mem_drop (List.of_mem_zip hp).1)
  have e:ns[i]?=some k:=by rw[←e,List.getElem_take,List.getElem?_eq_getElem]
  rw[eO nd e,List.getElem?_eq_getElem (hg▸hl▸hi)]
  exact Bool.false_ne_true
 have f2:((ns.drop (m + j)).zip (ds.drop j)).filter (fun p=>((ns.zip vals).lookup p.1).isNone)=(ns.drop (m + j)).zip (ds.drop j):=by
  rw[List.filter_eq_self]
  rintro ⟨k,d⟩ hp
  obtain⟨i,hi,e⟩:=List.getElem_of_mem (List.of_mem_zip hp).1
  have e:ns[m + j + i]?=some k:=by rw[←List.getElem?_drop,←e,List.getElem?_eq_getElem]
  rw[eO nd e,List.getElem?_eq_none (hg▸Nat.le_add_right _ _)];rfl
 rw[hz,hr,List.filter_append,f1,f2];rfl
theorem wZ{ns:List Str}(nd:ns.Nodup){vals ds:List Value}(h1:vals.length≤ns.length)(h2:ns.length≤vals.length + ds.length)(h3:ds.length≤ns.length):
  ns.zip vals++((ns.drop (ns.length - ds.length)).zip ds).filter (fun p=>((ns.zip vals).lookup p.1).isNone)=ns.zip (vals++ds.drop (ds.length -(ns.length - vals.length))):=by
 obtain⟨m,hm⟩:=Nat.exists_eq_add_of_le' h3
 obtain⟨j,hj⟩:=Nat.exists_eq_add_of_le (show m≤vals.length from Nat.le_of_add_le_add_right (hm▸h2))
 have hjd:j≤ds.length:=Nat.le_of_add_le_add_left (by rw[←hj,←hm];exact h1)
 rw[show ns.length - ds.length=m by rw[hm,Nat.add_sub_cancel],show ds.length -(ns.length - vals.length)=j by rw[hm,hj,Nat.add_sub_add_left,Nat.sub_sub_self hjd]]
 exact uT nd hm hj hjd
theorem w8:∀{ns:List Str} {vs:List Value},ns.Nodup→ns.length=vs.length→ns.filterMap (fun n=>((ns.zip vs).lookup n).map (n,·))=ns.zip vs:=by
 intro ns vs nd hl
 have key:∀(m:List Str) (k:Nat),ns.drop k=m→m.filterMap (fun n=>((ns.zip vs).lookup n).map (n,·))=m.zip (vs.drop k):=by
  intro m
  induction m with
  | nil=>intros;rfl
  | cons n m ih=>
   intro k hk
   have hn:ns[k]?=some n:=by
    have:=congrArg (·[0]?) hk
    simpa using this
   have hlt:k < ns.length:=by
    rcases Nat.lt_or_ge k ns.length with q | q
    ·exact q
    ·rw[List.getElem?_eq_none_iff.mpr q] at hn;cases hn
   have hv:vs[k]?=some (vs[k]'(hl▸hlt)):=List.getElem?_eq_getElem _
   rw[List.filterMap_cons,eO nd hn,hv]
   simp only[Option.map_some]
   rw[List.drop_eq_getElem_cons (hl▸hlt:k < vs.length),List.zip_cons_cons]
   rw[ih (k + 1) (by rw[←List.tail_drop,hk];rfl)]
 exact key ns 0 rfl
theorem su{M:Model}{A:Around}{α:Type}{E:Value→Shared→Prop}{Q:α→Shared→Prop}{c:Prop}[Decidable c]{a b:Sem α}(h:¬c)(k:wpAny M A b Q E s):wpAny M A (if c then a else b) Q E s:=by rw[if_neg h];exact k
theorem GG{M:Model}{A:Around}{α β:Type}{E:Value→Shared→Prop}{Q:β→Shared→Prop}{m:Sem α}{x:α}{f:α→Sem β}(e:m=pure x)(k:wpAny M A (f x) Q E s):wpAny M A (m >>= f) Q E s:=by rw[e];exact wpAny_bind (wpAny_pure k)
theorem Aw{M:Model}{E:Value→Shared→Prop}{fd:FuncData}{ns:List Str}{vals ds:List Value}{Q:List (Str×Value)→Shared→Prop}(p1:fd.params.posonlyargs=[])(p2:fd.params.args.map (·.arg)=ns)(p3:fd.params.kwonlyargs=[])(p4:fd.params.vararg=none)(p5:fd.params.kwarg=none)
  (nd:ns.Nodup)(hd:(fd.defaults=.none∧ds=[])∨∃a o k,fd.defaults=.ref a∧s.heap.get? a=some o∧o.data=.seq ds.toArray k)(h1:vals.length≤ns.length)(h2:ns.length≤vals.length + ds.length)(h3:ds.length≤ns.length)
  (K:Q (ns.zip (vals++ds.drop (ds.length -(ns.length - vals.length)))) s):wpAny M A (bindArgs fd ⟨vals,[]⟩) Q E s:=by
 have hs:wpAny M A (seqItems? fd.defaults) (fun r s'=>(r.getD #[]).toList=ds∧s'=s) E s:=by
  rcases hd with⟨q,rfl⟩ | ⟨a,o,k,q,ho,hk⟩
  ·rw[q]
   exact wpAny_pure ⟨rfl,rfl⟩
  ·rw[q]
   exact wpAny_seqItems ho hk ⟨by simp,rfl⟩
 have hm:List.filter (fun n=>(List.lookup n (ns.zip vals)).isNone) (List.take (ns.length - ds.length) ns)=[]:=by
  rw[List.filter_eq_nil_iff]
  intro k hk
  obtain⟨i,hi,e⟩:=List.getElem_of_mem hk
  rw[List.length_take] at hi
  have e:ns[i]?=some k:=by rw[←e,List.getElem_take,List.getElem?_eq_getElem]
  rw[eO nd e,List.getElem?_eq_getElem (Nat.lt_of_lt_of_le hi (Nat.le_trans (Nat.min_le_left _ _) (Nat.sub_le_of_le_add h2)))]
  exact Bool.false_ne_true
 clear hd
 obtain⟨_,qn,⟨po,ar,va,ko,kd,kw,df⟩,bd,sc,gl,cl,dfl,kwd,_,_,_,_,_,_⟩:=fd
 change po=[] at p1
 change ar.map (·.arg)=ns at p2
 change ko=[] at p3
 change va=none at p4
 change kw=none at p5
 change wpAny M A (seqItems? dfl) _ E s at hs
 subst p1 p3 p4 p5
 unfold bindArgs
 have hgt:decide (vals.length > ns.length)=false:=decide_eq_false (Nat.not_lt.mpr h1)
 refine wpAny_bind (wpAny_pure ?_)
 refine wpAny_bind (wpAny_mono hs (fun r s' q=>?_) fun _ _ x=>x)
 obtain⟨hr,rfl⟩:=q
 subst p2
 refine su (by rw[List.map_nil,List.nil_append,hgt];exact Bool.false_ne_true) ?_
 subst hr
 have e0:(r.getD #[]).toList.drop ((r.getD #[]).toList.length -(ar.map (·.arg)).length)=(r.getD #[]).toList:=by rw[Nat.sub_eq_zero_of_le h3];rfl
 refine su (show ¬(!(List.filter (fun n=>(List.lookup n ((ar.map (·.arg)).zip vals)).isNone) (List.take ((ar.map (·.arg)).length -((r.getD #[]).toList.drop ((r.getD #[]).toList.length -(ar.map (·.arg)).length)).length) (ar.map (·.arg)))).isEmpty)=true by rw[e0,hm];exact Bool.false_ne_true) ?_
 have lp:=jW ((ar.map (·.arg)).zip vals) (((ar.map (·.arg)).drop ((ar.map (·.arg)).length -(r.getD #[]).toList.length)).zip (r.getD #[]).toList) [] (by
   rw[List.map_fst_zip (by rw[List.length_drop,Nat.sub_sub_self h3];exact Nat.le_refl _)];exact List.Nodup.sublist (List.drop_sublist _ _) nd) (fun _ _ _ h=>nomatch h)
 rw[List.append_nil,wZ nd h1 h2 h3] at lp
 refine GG (show forIn (((ar.map (·.arg)).drop ((ar.map (·.arg)).length -((r.getD #[]).toList.drop ((r.getD #[]).toList.length -(ar.map (·.arg)).length)).length)).zip ((r.getD #[]).toList.drop ((r.getD #[]).toList.length -(ar.map (·.arg)).length))) ((ar.map (·.arg)).zip vals) _=pure _ by rw[e0];exact lp) ?_
 refine wpAny_bind (wpAny_pure ?_)
 refine su Bool.false_ne_true ?_
 refine wpAny_pure ?_
 show Q (List.filterMap (fun n=>Option.map (fun x=>(n,x)) (List.lookup n ((ar.map (·.arg)).zip (vals++List.drop ((r.getD #[]).toList.length -((ar.map (·.arg)).length - vals.length)) (r.getD #[]).toList)))) (ar.map (·.arg)++[])) s'
 rw[List.append_nil,w8 nd (by rw[List.length_append,List.length_drop,Nat.sub_sub_self (Nat.sub_le_of_le_add (by rw[Nat.add_comm];exact h2)),Nat.add_sub_cancel' h1])]
 exact K
end Mine
end
section
open PySem PySem.W PySem.Calls PyProof.Rows
namespace Mine
variable {X:Cx} {P:Pg} {at_:List Nat} {A:Around} {n wf:Nat} {cf:CF} {ex ex':Addr→Prop} {ad ad' ad1:List au} {h h' h1:Heap} {S S' S1:aa} {s:Shared} {v a b:AV} {x y b':Value} {loc loc':Loc} {env:Env} {nk:NK}
structure kC(X:Cx)(f:Nat)(F:Fn)(fd:FuncData)(body:List Stmt):Prop where
 obj:∃o,X.B (X.fa f)=some o∧o.data=.func fd
 body:fd.body=.stmts body
 kind:fd.scope.kind=.function
 nco:fd.scope.isCoroutine=false
 ngen:fd.scope.isGenerator=false
 clo:fd.closure=[]
 glb:fd.globals=mainGlobals
 bns:fd.builtins=builtinsNs
 code:∀h,X.On h→h.CodeRec fd.code fd.qualname
 p1:fd.params.posonlyargs=[]
 p2:fd.params.args.map (·.arg)=F.ps.map sT
 p3:fd.params.kwonlyargs=[]
 p4:fd.params.vararg=none
 p5:fd.params.kwarg=none
 ps:∀c∈F.ps,c < nS∧(fd.scope.names.lookup (sT c)=some .local∨fd.scope.names.lookup (sT c)=some .cell)
 nd:F.ps.Nodup
 uniq:∀n k,(n,k)∈fd.scope.names→fd.scope.names.lookup n=some k
 nofree:∀n,(n,NameKind.free)∉fd.scope.names
 dl:F.dflt.length≤F.ps.length
 df:∃ds,((fd.defaults=.none∧ds=[])∨∃a o k,fd.defaults=.ref a∧X.B a=some o∧o.data=.seq ds.toArray k)∧∀ad h S,Rep X ad h S→VRs X ad h F.dflt ds
theorem qx{l:List Nat}(nd:l.Nodup)(hl:∀c∈l,c < nS):(l.map sT).Nodup:=by
 induction l with
 | nil=>exact .nil
 | cons c r ih=>
  obtain⟨h1,h2⟩:=List.nodup_cons.mp nd
  refine List.nodup_cons.mpr ⟨fun hm=>?_,ih h2 fun d hd=>hl d (.tail _ hd)⟩
  obtain⟨d,hd,e⟩:=List.mem_map.mp hm
  exact h1 (iX (hl d (.tail _ hd)) (hl c (.head _)) e▸hd)
theorem tV{x:Nat}:∀{ps:List Nat} {vs:List AV} {v:AV},get? x (ps.zip vs)=some v→∃i:Nat,ps[i]?=some x∧vs[i]?=some v
 | [],_,v,e=>nomatch e
 | _::_,[],v,e=>nomatch e
 | c::ps,u::vs,v,e=>aE e (fun q e=>⟨0,by rw[Nat.eq_of_beq_eq_true q];rfl,e⟩) fun _ e=>(tV e).elim fun i h=>⟨i + 1,h⟩
theorem w9{ko:Str→Option NameKind}{n:Str}{v:Value}:∀{l:List (Str×Value)} {m:Str→Option Value},(l.map (·.1)).Nodup→(n,v)∈l→ko n=some .local→bindL ko l m n=some v:=by
 have out:∀{l:List (Str×Value)} {m:Str→Option Value},n∉l.map (·.1)→bindL ko l m n=m n:=by
  intro l
  induction l with
  | nil=>intros;rfl
  | cons p r ih=>
   intro m hn
   simp only[List.map_cons,List.mem_cons,not_or] at hn
   obtain⟨k,u⟩:=p
   unfold bindL
   rw[ih hn.2]
   split
   ·simp only[if_neg hn.1]
   ·rfl
 intro l
 induction l with
 | nil=>intro m _ hm;cases hm
 | cons p r ih=>
  intro m nd hm hk
  simp only[List.map_cons,List.nodup_cons] at nd
  obtain⟨k,u⟩:=p
  unfold bindL
  rcases List.mem_cons.mp hm with e | hm
  ·cases e
   rw[out nd.1,if_pos hk];simp
  ·exact ih nd.2 hm hk
theorem xb{ko:Str→Option NameKind}{n:Str}{v:Value}:∀{l:List (Str×Value)} {m:Str→Option Value},(l.map (·.1)).Nodup→(n,v)∈l→ko n=some .cell→bindC ko l m n=some v:=by
 have out:∀{l:List (Str×Value)} {m:Str→Option Value},n∉l.map (·.1)→bindC ko l m n=m n:=by
  intro l
  induction l with
  | nil=>intros;rfl
  | cons p r ih=>
   intro m hn
   simp only[List.map_cons,List.mem_cons,not_or] at hn
   obtain⟨k,u⟩:=p
   unfold bindC
   rw[ih hn.2]
   split
   ·rfl
   ·simp only[if_neg hn.1]
 intro l
 induction l with
 | nil=>intro m _ hm;cases hm
 | cons p r ih=>
  intro m nd hm hk
  simp only[List.map_cons,List.nodup_cons] at nd
  obtain⟨k,u⟩:=p
  unfold bindC
  rcases List.mem_cons.mp hm with e | hm
  ·cases e
   rw[out nd.1,if_neg (by rw[hk];decide)];simp
  ·exact ih nd.2 hm hk
theorem aQ.deeper(ho:aQ A (n + 2)):aQ (A.deeper env) (n + 1):=⟨by have:=ho.depth;show A.depth + 1 + 2 *(n + 1)+ 4≤_;omega,by have:=ho.units;show A.units + 3 + 20 *(n + 1)+ 300≤_;omega,ho.handled⟩
noncomputable def iP(fd:FuncData)(L:Addr):Addr→Prop:=fun b=>b=L∨∃n,(cellsFrom (L + 1) fd.scope.names []).lookup n=some b
noncomputable def QF(Q:Value→Shared→Prop):Flow→Shared→Prop
 | .next,s=>Q .none s
 | .ret y,s=>Q y s
 | _,_=>False
theorem lX{f:Nat}{F:Fn}{fd:FuncData}{body:List Stmt}(D:kC X f F fd body)(nolimit:∀h,X.On h→h.NoLimit){args:List AV}{xs:List Value}{Q:Value→Shared→Prop}(hq:args.length≤F.ps.length∧F.ps.length≤args.length + F.dflt.length)(ho:aQ A (n + 2))(R:Rep X ad s.heap S)(ra:VRs X ad s.heap args xs)
  (K:∀(env:Env) (h1:Heap) (tk1:Nat),(∀b o,s.heap.get? b=some o→h1.get? b=some o)→(∀b,iP fd s.heap.objs.size b→s.heap.get? b=none∧Off ad b)→Frm X ad h1 env (iP fd s.heap.objs.size) (F.ps.zip (args++F.dflt.drop (F.dflt.length -(F.ps.length - args.length))))→
   Scp env (iP fd s.heap.objs.size) (fun c=>fd.scope.names.lookup (sT c))→wpAny (MX X) (A.deeper env) (execs body env) (QF Q) NoE {s with heap:=h1,toks:=tk1}):
  wpAny (MX X) A (call (.ref (X.fa f)) xs) Q NoE s:=by
 obtain⟨o,hB,hd⟩:=D.obj
 obtain⟨ds,hds,hdv⟩:=D.df
 have rd:=hdv ad s.heap S R
 have hxs:=ra.length
 have hdl:=rd.length
 have nds:=qx D.nd fun c hc=>(D.ps c hc).1
 refine wpAny_call ?_
 refine codeAny_call_function (by have:=ho.depth;omega) (R.base _ _ hB) hd D.nco D.ngen D.body (D.code _ R.base) ?_
 refine Aw (ds:=ds) D.p1 D.p2 D.p3 D.p4 D.p5 nds ?_ (by simp only[List.length_map];omega) (by simp only[List.length_map];omega) (by simp only[List.length_map];have:=D.dl;omega) ?_
 ·rcases hds with q | ⟨a,o',k,q1,q2,q3⟩
  ·exact .inl q
  ·exact .inr ⟨a,o',k,q1,R.base _ _ q2,q3⟩
 rw[D.clo]
 generalize hvs:xs++ds.drop (ds.length -((F.ps.map sT).length - xs.length))=vs
 have rv:VRs X ad s.heap (args++F.dflt.drop (F.dflt.length -(F.ps.length - args.length))) vs:=by
  rw[←hvs]
  refine ra.append ?_
  rw[List.length_map,←hdl,←hxs]
  exact rd.drop _
 generalize hav:args++F.dflt.drop (F.dflt.length -(F.ps.length - args.length))=avs at rv K
 have hlen:avs.length=F.ps.length:=by rw[←hav,List.length_append,List.length_drop];have:=D.dl;omega
 have hvl:vs.length=F.ps.length:=by rw[←rv.length,hlen]
 have hbn:((F.ps.map sT).zip vs).map (·.1)=F.ps.map sT:=List.map_fst_zip (by simp only[List.length_map];omega)
 refine wpAny_newFunctionEnv_cells D.kind (fun p hp=>?_) fun env he s1 I=>?_
 ·have hm:p.1∈F.ps.map sT:=(List.of_mem_zip hp).1
  obtain⟨c,hc',e⟩:=List.mem_map.mp hm
  rw[←e]
  rcases(D.ps c hc').2 with q | q
  ·exact .inl q
  ·right
   refine⟨q,?_⟩
   obtain⟨d,hd⟩:=bx fd.scope.names (s.heap.objs.size + 1) (sT c) (mem_of_lookup q)
   rw[hd];rfl
 ·have hL:env.locals=s.heap.objs.size:=by rw[he];rfl
  have hcs:env.cells=cellsFrom (s.heap.objs.size + 1) fd.scope.names []:=by rw[he];rfl
  have hko:∀n,env.kindOf n=fd.scope.names.lookup n:=fun n=>by rw[he];rfl
  obtain⟨h1,tk1,rfl⟩:=I.toInCall.same
  have keep:∀b o,s.heap.get? b=some o→h1.get? b=some o:=I.toInCall.keep
  have T1:ai X noX ad s.heap ad S h1:=ai.same R keep
  have fresh:∀b,s.heap.objs.size≤b→s.heap.get? b=none:=fun b hb=>by
   cases e:s.heap.get? b with
   | none=>rfl
   | some o=>exact absurd (Heap.lt_size e) (Nat.not_lt.mpr hb)
  have offB:∀b,s.heap.objs.size≤b→Off ad b∧X.B b=none:=fun b hb=>by
   have hn:=fresh b hb
   refine⟨fun c hc=>?_,?_⟩
   ·obtain⟨i,hi,rfl⟩:=List.getElem_of_mem hc
    obtain⟨⟨o1,e1⟩,o2,e2⟩:=R.cell_there (List.getElem?_eq_getElem hi)
    exact⟨fun q=>(by rw[←q,hn] at e1;cases e1),fun q=>(by rw[←q,hn] at e2;cases e2)⟩
   ·cases e:X.B b with
    | none=>rfl
    | some o=>have:=R.base _ _ e;rw[hn] at this;cases this
  have hab:∀n c,env.cells.lookup n=some c→s.heap.objs.size < c:=fun n c e=>by
   have:=I.above n c (mem_of_lookup e)
   rw[hL] at this;exact this
  have Fr:Frm X ad h1 env (iP fd s.heap.objs.size) (F.ps.zip avs):=by
   refine⟨by rw[he];exact D.kind,by rw[he];exact D.glb,by rw[he];exact D.bns,⟨(offB _ (by rw[hL];exact Nat.le_refl _)).1,(offB _ (by rw[hL];exact Nat.le_refl _)).2,.inl hL,_,I.toInCall.ns⟩,fun n c e=>?_,fun n n' c e e'=>?_,fun b hb=>?_,fun x u e hx k hk vk=>?_⟩
   ·have:=hab n c e
    exact⟨(offB c (Nat.le_of_lt this)).1,(offB c (Nat.le_of_lt this)).2,by rw[hL];exact Nat.ne_of_gt this,_,I.cell n c e⟩
   ·exact name_of_addr I.apart (mem_of_lookup e) (mem_of_lookup e')
   ·rcases hb with rfl | ⟨n,hn⟩
    ·exact .inl hL.symm
    ·exact .inr ⟨n,by rw[hcs];exact hn⟩
   ·obtain⟨i,e1,e3⟩:=tV e
    obtain⟨val,hv,rr⟩:=rv.get e3
    refine⟨val,rr.step R T1,?_⟩
    have hm:(sT x,val)∈(F.ps.map sT).zip vs:=by
     refine List.mem_of_getElem? (i:=i) ?_
     rw[List.getElem?_zip_eq_some]
     exact⟨by rw[List.getElem?_map,e1];rfl,hv⟩
    have hkk:=hk
    rw[hko] at hkk
    rcases(D.ps x (List.mem_of_getElem? e1)).2 with q | q
    ·rw[q] at hkk;cases hkk
     refine⟨_,I.toInCall.ns,?_⟩
     exact w9 (by rw[hbn];exact nds) hm hk
    ·rw[q] at hkk;cases hkk
     obtain⟨d,hd⟩:=bx fd.scope.names (s.heap.objs.size + 1) (sT x) (mem_of_lookup q)
     rw[←hcs] at hd
     refine⟨d,hd,?_⟩
     have:=I.cell _ _ hd
     rw[xb (by rw[hbn];exact nds) hm hk] at this
     exact this
  have Z:Scp env (iP fd s.heap.objs.size) (fun c=>fd.scope.names.lookup (sT c)):=by
   refine⟨fun c hc k hk=>⟨k,by rw[hko];exact hk,.inl rfl⟩,fun c hc hk=>?_,fun n hn=>?_⟩
   ·rcases hk with hk | hk
    ·exact .inl (by rw[hko];exact hk)
    ·right
     refine⟨by rw[hko];exact hk,?_⟩
     obtain⟨d,hd⟩:=bx fd.scope.names (s.heap.objs.size + 1) (sT c) (mem_of_lookup hk)
     exact⟨d,by rw[hcs];exact hd,.inr ⟨_,hd⟩⟩
   ·rw[hko] at hn
    rcases hn with hn | hn
    ·obtain⟨d,hd⟩:=bx fd.scope.names (s.heap.objs.size + 1) n (mem_of_lookup hn)
     exact⟨d,by rw[hcs];exact hd⟩
    ·exact absurd (mem_of_lookup hn) (D.nofree n)
  refine⟨(nolimit _ R.base).keeps keep,codeAny_func ?_⟩
  have xo:∀b,iP fd s.heap.objs.size b→s.heap.objs.size≤b:=fun b hb=>by
   rcases hb with rfl | ⟨n,hn⟩
   ·exact Nat.le_refl _
   ·exact Nat.le_of_lt (hab n b (by rw[hcs];exact hn))
  refine noE (wpAny_mono (K env h1 tk1 keep (fun b hb=>⟨fresh b (xo b hb),(offB b (xo b hb)).1⟩) Fr Z) (fun fw s' q=>?_) fun _ _ z=>z)
  cases fw<;>first | exact q | exact q.elim
theorem CL(G:cD X P at_){f:Nat}{F:Fn}{fd:FuncData}{body:List Stmt}(D:kC X f F fd body)(B:i5 X P cf wf n F.body body (fun c=>fd.scope.names.lookup (sT c))){args:List AV}
  (hc:Cv P wf cf F args S=some (v,S')):bo X (n + 2) f args S v S':=by
 intro A ad s xs Q ho R ra K
 refine aC hc nN fun hq hc=>aT hq fun h1 h2=>?_
 rw[aB] at hc
 refine fJ hc fun fl S2 e2 hc=>?_
 refine lX D G.nolimit ⟨Nat.le_of_ble_eq_true h1,Nat.le_of_ble_eq_true h2⟩ ho R ra fun env h1 tk1 keep fr Fr Z=>?_
 have T1:ai X noX ad s.heap ad S h1:=ai.same R keep
 refine B (A.deeper env) ad {s with heap:=h1,toks:=tk1} S _ env _ fl S2 _ ho.deeper T1.rep Fr Z e2 fun ad2 h2 tk2 fw T2 r2=>?_
 have T12:=((T1.wkO (ex':=iP fd s.heap.objs.size) (fun _ q=>q.elim) fun b hb=>(fr b hb).2).trans T2).hide (ex':=noX) (fun b hb=>.inr (fr b hb).1) fun _ q=>q.elim
 cases fl with
 | next l=>rw[r2.1];exact K.of hc ad2 h2 tk2 _ T12 .none
 | ret u=>obtain⟨y,rfl,r⟩:=r2;exact K.of hc ad2 h2 tk2 _ T12 r
theorem qy(G:cD X P at_)(H:∀f F,P.fn f=some F→∃fd body,kC X f F fd body∧∀n cf,Snd X n cf→i5 X P cf wf n F.body body (fun c=>fd.scope.names.lookup (sT c))):∀d,Snd X (2 * d) (dZ P wf d)
 | 0=>fun f args S v S' e=>(nomatch e)
 | d + 1=>fun f args S v S' e=>
  ah e nN fun F hF e=>(H f F hF).elim fun fd ⟨body,D,B⟩=>CL (n:=2 * d) G D (B (2 * d) _ (qy G H d)) e
end Mine
end
section
open PySem PySem.W PySem.Calls PyProof.Rows
namespace Mine
section
variable {prog:Program} {w:World} {A:Around} {E:Value→Shared→Prop} {s:Shared}
theorem jX{it t:Addr}{i:Nat}{items}{Q:Value→Shared→Prop}(hh:A.handled=none)
  (hit:s.heap.IsTupleIter it t i)(ht:s.heap.IsTuple t items)(hx:items[i]?=none)
  (hE:∀h' e,Heap.ExtBut it s.heap h'→(∃o,h'.get? e=some o∧o.cls=.type "StopIteration")→E (.ref e) {s with heap:=h'}):wpAny (model prog w) A (Builtin.SmallTypes.nextOf (.ref it)) Q E s:=by
 obtain⟨o,ho,hc,hd⟩:=id hit
 obtain⟨ol,hol,_,nl,hdl⟩:=ht
 unfold Builtin.SmallTypes.nextOf
 refine wpAny_bind (wpAny_callSpecial?_slot (name:=Str.ofString "__next__") hit.typeIs F.slot_tuple_iterator_next
  (wpAny_call_entry F.slot_tuple_iterator_next hit.typeIs F.entry_tuple_iterator_next ?_ (F.args_tuple_iterator_next_1 _)))
 show wpAny _ _ (field (.ref it) 0 >>= _) _ _ s
 refine wpAny_bind (wpAny_field ho hd (x:=.ref t) rfl ?_)
 show wpAny _ _ (if(Value.ref t==Value.none)=true then _ else _) _ _ s
 rw[if_neg (show ¬((Value.ref t==Value.none)=true) from Bool.false_ne_true)]
 show wpAny _ _ (field (.ref it) 1 >>= _) _ _ s
 refine wpAny_bind (wpAny_field ho hd (x:=.int i 0) rfl ?_)
 show wpAny _ _ (seqItems? (.ref t)>>= _) _ _ s
 refine wpAny_bind (wpAny_seqItems hol hdl ?_)
 dsimp only
 rw[show items[(i:Int).toNat]?=none from hx]
 refine wpAny_bind (wpAny_rule (wpAny_bind (wpAny_setField ho hd (by simp) ?_)))
 show wpAny _ _ (newExc (.type "StopIteration") [] >>= _) _ _ _
 refine wpAny_bind ?_
 refine wpAny_bind (m:=newTuple []) (wpAny_newObj_type ?_ (by size_fits))
 refine wpAny_bind (m:=firstArgMember _ _) (wpAny_of_eq (a:=Value.none) rfl ?_)
 refine wpAny_newObj_type ?_ (by size_fits)
 refine wpAny_bind (m:=handled) (wpAny_handled ?_)
 first | rw[show A.in1.handled=none from hh] | rw[hh]
 refine wpAny_bind (wpAny_pure (wpAny_throw ?_))
 exact hE _ _ (((Heap.SameBut.update ..).extBut.push _).push _) ⟨_,Heap.get?_push_size _ rfl,rfl⟩
theorem Ax{z TI TO i1 i2:Addr}{a b:Value}{Q:Option Value→Shared→Prop}(i1z:i1≠z)
  (hz:IsZip s.heap z TI TO .none)(hTI:IsPair s.heap TI (.ref i1) (.ref i2))(hTO:IsPair s.heap TO a b)
  (hn:∀(A':Around) (h1:Heap) (Q':Value→Shared→Prop) (E':Value→Shared→Prop),A'.handled=A.handled→(∀c o,c≠z→s.heap.get? c=some o→h1.get? c=some o)→
   (∀h' e,Heap.ExtBut i1 h1 h'→(∃o,h'.get? e=some o∧o.cls=.type "StopIteration")→E' (.ref e) {s with heap:=h'})→wpAny (model prog w) A' (Builtin.SmallTypes.nextOf (.ref i1)) Q' E' {s with heap:=h1})
  (hQ:∀h',(∀c o,s.heap.get? c=some o→c≠z→c≠i1→h'.get? c=some o)→Q none {s with heap:=h'}):wpAny (model prog w) A (pyNext (.ref z)) Q E s:=by
 have hT:s.TypeIs (.ref z) "zip":=⟨_,hz,rfl⟩
 unfold pyNext
 refine wpAny_bind (wpAny_attempt (wpAny_callSpecial?_slot (name:=Str.ofString "__next__") hT F.slot_zip_next
  (wpAny_call_entry F.slot_zip_next hT F.entry_zip_next ?_ (F.args_zip_next_1 _))))
 show wpAny _ _ (field (.ref z) 2 >>= _) _ _ _
 refine wpAny_bind (wpAny_field hz rfl (x:=.bool false) rfl ?_)
 show wpAny _ _ (field (.ref z) 3 >>= _) _ _ _
 refine wpAny_bind (wpAny_field hz rfl (x:=.ref TI) rfl ?_)
 refine wpAny_bind (wpAny_seqItems hTI rfl ?_)
 show wpAny _ _ (Builtin.SmallTypes.ownedTupleIsFree (.ref z)>>= _) _ _ _
 refine wpAny_bind ?_
 unfold Builtin.SmallTypes.ownedTupleIsFree
 refine wpAny_bind (wpAny_field hz rfl (x:=.none) rfl (wpAny_pure ?_))
 rw[if_pos rfl]
 refine wpAny_bind (wpAny_rule ?_)
 refine wpAny_bind (wpAny_field hz rfl (x:=.ref TO) rfl ?_)
 refine wpAny_bind (wpAny_setField_rec hz (by simp) fun h₁ hz₁ hs₁=>?_)
 replace hz₁:IsZip h₁ z TI TO .ellipsis:=hz₁
 refine wpAny_bind ?_
 rw[List.zipIdx_cons,List.forIn_cons]
 refine wpAny_bind (wpAny_bind (wpAny_onRaise ?_))
 show wpAny _ _ (Builtin.SmallTypes.nextOf (.ref i1)>>= _) _ _ _
 refine wpAny_bind (hn _ h₁ _ _ rfl (fun c o c1 e=>hs₁.extBut _ _ c1 e) fun h₂ e hs₂ he=>?_)
 obtain⟨oe,hoe,hce⟩:=he
 have hz₂:IsZip h₂ z TI TO .ellipsis:=hs₂ _ _ i1z.symm hz₁
 have hez:e≠z:=fun x=>by subst x;rw[hz₂] at hoe;cases hoe;simp at hce
 refine wpAny_setField_rec hz₂ (by simp) fun h₃ _ hs₃=>?_
 refine wpAny_bind (wpAny_isInstance (T:="StopIteration") (b:=true) ⟨oe,hs₃.extBut _ _ hez hoe,hce⟩ isSubtype_stop ?_)
 exact wpAny_pure (hQ _ fun c o x c1 c3=>hs₃.extBut _ _ c1 (hs₂ _ _ c3 (hs₁.extBut _ _ c1 x)))
end
variable {X:Cx} {P:Pg} {at_:List Nat} {A:Around} {n wf:Nat} {cf:CF} {ex ex':Addr→Prop} {ad ad' ad1:List au} {h h' h1:Heap} {S S' S1:aa} {s:Shared} {v a b:AV} {x y b':Value} {loc loc':Loc} {env:Env} {nk:NK}
theorem lY:fD X:=by
 intro A n ad S s it pv o Q ho R z st K
 obtain⟨TI,TO,i1,i2,a,b,z1,z2,z3,z4,z5,z6,z7,z8⟩:=z
 refine Ax z4.symm z1 z2 z3 ?_ fun h' k=>K h' fun b o e nb=>k b o e (fun w=>nb (w▸z5)) fun w=>nb (w▸z6)
 intro A' h1 Q' E' hA keep K'
 have hh:A'.handled=none:=hA.trans ho.handled
 have ne:∀{p o},s.heap.get? p=some o→o.cls≠.type "zip"→p≠it:=fun e c q=>by subst q;rw[z1] at e;cases e;exact c rfl
 cases o with
 | none=>
  rcases z8 with⟨p,m,g,t⟩ | ⟨p,m,g,t0⟩
  ·obtain⟨oi,gi,ci,di⟩:=g
   exact jX (s:={s with heap:=h1}) hh ⟨oi,keep _ _ z4.symm gi,ci,di⟩ ⟨_,keep _ _ (ne t (by simp)) t,rfl,m,rfl⟩ (by simp) K'
  ·obtain⟨oi,gi,ci,di⟩:=g
   have t:=R.base _ _ t0
   exact wpAny_nextOf_list_end (s:={s with heap:=h1}) hh ⟨oi,keep _ _ z4.symm gi,ci,di⟩ ⟨_,keep _ _ (ne t (by simp)) t,rfl,m,rfl⟩ (by simp) K'
 | some i=>
  obtain⟨c,e1,oi,gi,ci,di⟩:=z8
  refine c8 st nF fun l hS z=>(R.objs i c _ e1 hS).onList fun vs m cd t hl r=>?_
  have hv:vs=[]:=List.length_eq_zero_iff.mp (by rw[←r.length,List.isEmpty_iff.mp z];rfl)
  rw[hv] at t
  exact wpAny_nextOf_list_end (s:={s with heap:=h1}) hh ⟨oi,keep _ _ z4.symm gi,ci,di⟩ ⟨_,keep _ _ (ne t (by simp)) t,rfl,_,rfl⟩ (by simp) K'
end Mine
end
section
open PySem PySem.W PySem.Calls PyProof.Rows PySem.Builtin
namespace Mine
noncomputable abbrev eZ(T:String)(p:Addr):Obj:={cls:=.type T,data:=.fields #[.ref p,.int 0 0]}
noncomputable abbrev zh2(h:Heap)(T1 T2:String)(l1 l2:Addr):Heap:=(h.push (eZ T1 l1)).push (eZ T2 l2)
noncomputable abbrev zh4(h:Heap)(T1 T2:String)(l1 l2:Addr):Heap:=((zh2 h T1 T2 l1 l2).push {cls:=.type "tuple",data:=.seq #[.ref h.objs.size,.ref (h.push (eZ T1 l1)).objs.size]}).push {cls:=.type "tuple",data:=.seq #[.none,.none]}
noncomputable abbrev zh5(h:Heap)(T1 T2:String)(l1 l2:Addr):Heap:=(zh4 h T1 T2 l1 l2).push {cls:=.type "zip",data:=.fields #[.none,.bool false,.bool false,.ref (zh2 h T1 T2 l1 l2).objs.size,.ref ((zh2 h T1 T2 l1 l2).push {cls:=.type "tuple",data:=.seq #[.ref h.objs.size,.ref (h.push (eZ T1 l1)).objs.size]}).objs.size]}
theorem oZ(l1 l2:Addr)(xs ys:Array Value):
  Meets (Builtin.«zip.__new__» ⟨[.type "zip",.ref l1,.ref l2],[]⟩) (fun _ R s=>s.heap.IsTuple l1 xs∧s.heap.IsTuple l2 ys∧
   R (.ok (.ret (.ref (zh4 s.heap "tuple_iterator" "tuple_iterator" l1 l2).objs.size))) {s with heap:=zh5 s.heap "tuple_iterator" "tuple_iterator" l1 l2}):=
 .of_wp fun prog w A R s h=>by
  obtain⟨hp,g,d,tk,os⟩:=s;obtain⟨hl1,hl2,h⟩:=h
  have hsub:=sub_zip
  have hL1:Heap.IsTuple (Shared.heap ⟨hp,g,d,tk,os⟩) l1 xs:=hl1
  have hL2:Heap.IsTuple (Shared.heap ⟨hp.push (eZ "tuple_iterator" l1),g,d,tk,os⟩) l2 ys:=Heap.IsTuple.push hl2 _
  wp_walk using wpAny_pyIter_tuple hL1,wpAny_pyIter_tuple hL2
  exact⟨_,rfl,h⟩
theorem o4(l1 l2:Addr)(xs ys:Array Value):
  Meets (Builtin.«zip.__new__» ⟨[.type "zip",.ref l1,.ref l2],[]⟩) (fun _ R s=>s.heap.IsList l1 xs∧s.heap.IsTuple l2 ys∧
   R (.ok (.ret (.ref (zh4 s.heap "list_iterator" "tuple_iterator" l1 l2).objs.size))) {s with heap:=zh5 s.heap "list_iterator" "tuple_iterator" l1 l2}):=
 .of_wp fun prog w A R s h=>by
  obtain⟨hp,g,d,tk,os⟩:=s;obtain⟨hl1,hl2,h⟩:=h
  have hsub:=sub_zip
  have hL1:Heap.IsList (Shared.heap ⟨hp,g,d,tk,os⟩) l1 xs:=hl1
  have hL2:Heap.IsTuple (Shared.heap ⟨hp.push (eZ "list_iterator" l1),g,d,tk,os⟩) l2 ys:=Heap.IsTuple.push hl2 _
  wp_walk using wpAny_pyIter_list hL1,wpAny_pyIter_tuple hL2
  exact⟨_,rfl,h⟩
section
variable {prog:Program} {w:World} {A:Around} {E:Value→Shared→Prop} {s:Shared}
theorem Eg{l1 l2:Addr}{xs ys:Array Value}{Q:Value→Shared→Prop}(h1:s.heap.IsTuple l1 xs)(h2:s.heap.IsTuple l2 ys)
  (K:Q (.ref (zh4 s.heap "tuple_iterator" "tuple_iterator" l1 l2).objs.size) {s with heap:=zh5 s.heap "tuple_iterator" "tuple_iterator" l1 l2}):wpAny (model prog w) A (call (.type "zip") [.ref l1,.ref l2]) Q E s:=by
 refine callType_new F.called_zip (by decide) (F.typeCall_zip_2 _ _) (F.newCall_zip_2 _ _) (fun obj=>F.args_object_init_3 obj _ _) F.entry_zip_new (oZ l1 l2 xs ys) ⟨h1,h2,?_⟩
 show _∧_
 exact⟨⟨_,Heap.get?_push_size _ rfl,rfl⟩,K⟩
theorem xc{l1 l2:Addr}{xs ys:Array Value}{Q:Value→Shared→Prop}(h1:s.heap.IsList l1 xs)(h2:s.heap.IsTuple l2 ys)
  (K:Q (.ref (zh4 s.heap "list_iterator" "tuple_iterator" l1 l2).objs.size) {s with heap:=zh5 s.heap "list_iterator" "tuple_iterator" l1 l2}):wpAny (model prog w) A (call (.type "zip") [.ref l1,.ref l2]) Q E s:=by
 refine callType_new F.called_zip (by decide) (F.typeCall_zip_2 _ _) (F.newCall_zip_2 _ _) (fun obj=>F.args_object_init_3 obj _ _) F.entry_zip_new (o4 l1 l2 xs ys) ⟨h1,h2,?_⟩
 show _∧_
 exact⟨⟨_,Heap.get?_push_size _ rfl,rfl⟩,K⟩
end
variable {X:Cx} {P:Pg} {at_:List Nat} {A:Around} {n wf:Nat} {cf:CF} {ex ex':Addr→Prop} {ad ad' ad1:List au} {h h' h1:Heap} {S S' S1:aa} {s:Shared} {v a b:AV} {x y b':Value} {loc loc':Loc} {env:Env} {nk:NK}
theorem lc(h:Heap)(k:Nat):h.get? (h.objs.size + k)=none:=by
 cases e:h.get? (h.objs.size + k) with
 | none=>rfl
 | some o=>exact absurd (Heap.lt_size e) (Nat.not_lt.mpr (Nat.le_add_right _ _))
theorem o6(R:Rep X ad h S)(k:Nat):Off ad (h.objs.size + k)∧X.B (h.objs.size + k)=none:=by
 refine⟨fun c hc=>?_,?_⟩
 ·obtain⟨i,hi,rfl⟩:=List.getElem_of_mem hc
  obtain⟨⟨o1,e1⟩,o2,e2⟩:=R.cell_there (List.getElem?_eq_getElem hi)
  have ne:∀{b:Addr} {o:Obj},h.get? b=some o→h.objs.size + k≠b:=fun e q=>by rw[←q,lc] at e;exact nomatch e
  exact⟨ne e1,ne e2⟩
 ·cases e:X.B (h.objs.size + k) with
  | none=>rfl
  | some o=>exact nomatch (lc h k).symm.trans (R.base _ _ e)
theorem o7{Q:Value→Shared→Prop}(R:Rep X ad s.heap S){o:Option Nat}{p2:Addr}
  (K:∀it h' pv,(∀b o,s.heap.get? b=some o→h'.get? b=some o)→(∀b,pv b→s.heap.get? b=none)→ItS X ad h' it pv (.zip o) 0→Q (.ref it) {s with heap:=h'})(T1 T2:String)(p1:Addr)
  (H:∀h':Heap,(∀b o,s.heap.get? b=some o→h'.get? b=some o)→h'.get? s.heap.objs.size=some (eZ T1 p1)→
   (match o with
    | none=>(∃p m,h'.IsTupleIter s.heap.objs.size p 0∧h'.get? p=some (bf #[] m))∨(∃p m,h'.IsListIter s.heap.objs.size p 0∧X.B p=some (aA #[] m))
    | some i=>∃c,ad[i]?=some c∧h'.IsListIter s.heap.objs.size c.a 0)):Q (.ref (zh4 s.heap T1 T2 p1 p2).objs.size) {s with heap:=zh5 s.heap T1 T2 p1 p2}:=by
 have z4:(zh4 s.heap T1 T2 p1 p2).objs.size=s.heap.objs.size + 4:=by rw[Heap.size_push,Heap.size_push,Heap.size_push,Heap.size_push]
 have keep:∀b o,s.heap.get? b=some o→(zh5 s.heap T1 T2 p1 p2).get? b=some o:=fun b o e=>ax _ _ _ (ax _ _ _ (ax _ _ _ (ax _ _ _ (ax _ _ _ e))))
 have g1:(zh5 s.heap T1 T2 p1 p2).get? s.heap.objs.size=some (eZ T1 p1):=ax _ _ _ (ax _ _ _ (ax _ _ _ (ax _ _ _ (Heap.get?_push_size _ rfl))))
 have two:∀{G:Addr→Prop},G (s.heap.objs.size + 4)→G (s.heap.objs.size + 0)→∀b,b=s.heap.objs.size + 4∨b=s.heap.objs.size + 0→G b:=fun a c b hb=>hb.elim (fun e=>e▸a) fun e=>e▸c
 refine K _ _ (fun b=>b=s.heap.objs.size + 4∨b=s.heap.objs.size + 0) keep (two (lc _ _) (lc _ _)) ⟨two (o6 R _).1 (o6 R _).1,two (o6 R _).2 (o6 R _).2,.zip ?_⟩
 refine⟨_,_,_,_,_,_,Heap.get?_push_size _ rfl,ax _ _ _ (ax _ _ _ (Heap.get?_push_size _ rfl)),ax _ _ _ (Heap.get?_push_size _ rfl),?_,.inl z4,.inr rfl,two (.inl z4.symm) (.inr rfl),(by have:=H _ keep g1;cases o<;>exact this)⟩
 rw[z4];exact Nat.ne_of_gt (Nat.lt_add_of_pos_right (by decide))
theorem xd{Q:Value→Shared→Prop}(R:Rep X ad s.heap S)(ra:VR X ad s.heap a x)(rb:VR X ad s.heap b y){o:Option Nat}(e:Gm a b S=some o)
  (K:∀it h' pv,(∀b o,s.heap.get? b=some o→h'.get? b=some o)→(∀b,pv b→s.heap.get? b=none)→ItS X ad h' it pv (.zip o) 0→Q (.ref it) {s with heap:=h'}):wpAny (MX X) A (call (.type "zip") [x,y]) Q NoE s:=by
 refine lu e nN fun l2 hb e=>?_
 rw[hb] at rb
 refine VR.onTup (G:=fun y=>wpAny (MX X) A (call (.type "zip") [x,y]) Q NoE s) rb fun p2 vs2 m2 g2 hl2 q2=>?_
 have nil:∀{l:List AV} {vs:List Value},l=[]→VRs X ad s.heap l vs→vs=[]:=fun z r=>List.length_eq_zero_iff.mp (by rw[←r.length,z];rfl)
 have emp:∀{l:List AV} {o':Option Nat},c6 l (some o') (fun _ _=>none)=some o→l=[]∧o'=o:=fun e=>bu (G:=fun l=>l=[]∧_) e (fun e=>⟨rfl,Option.some.inj e⟩) fun _ _ e=>nomatch e
 refine gd e (fun l ha e=>?_) fun e=>oz e (fun l ha e=>?_) fun e=>cS e nN fun i ha e=>c8 e nN fun l hS e=>?_<;>rw[ha] at ra<;>rw[←(emp e).2] at K
 ·refine VR.onTup (G:=fun x=>wpAny (MX X) A (call (.type "zip") [x,.ref p2]) Q NoE s) ra fun p1 vs1 m1 g1 hl1 q1=>Eg (hH g1) (hH g2) (o7 R K _ _ p1 fun h' keep gi=>.inl ⟨p1,m1,⟨_,gi,rfl,rfl⟩,keep _ _ ?_⟩)
  rw[nil (emp e).1 q1] at g1;exact g1
 ·refine VR.onLst (G:=fun x=>wpAny (MX X) A (call (.type "zip") [x,.ref p2]) Q NoE s) ra fun p1 vs1 m1 g1 hl1 q1=>xc (bS (R.base _ _ g1)) (hH g2) (o7 R K _ _ p1 fun h' keep gi=>.inr ⟨p1,m1,⟨_,gi,rfl,rfl⟩,?_⟩)
  rw[nil (emp e).1 q1] at g1;exact g1
 ·exact VR.onRef (G:=fun x=>wpAny (MX X) A (call (.type "zip") [x,.ref p2]) Q NoE s) ra fun c g=>(R.objs i c _ g hS).onList fun _ _ _ g1 _ _=>xc (bS g1) (hH g2) (o7 R K _ _ c.a fun h' keep gi=>⟨c,g,⟨_,gi,rfl,rfl⟩⟩)
end Mine
end
section
open PySem PySem.W PySem.Calls PyProof.Rows
namespace Mine
variable {X:Cx} {P:Pg} {at_:List Nat} {A:Around} {n wf:Nat} {cf:CF} {ex ex':Addr→Prop} {ad ad' ad1:List au} {h h' h1:Heap} {S S' S1:aa} {s:Shared} {v a b:AV} {x y b':Value} {loc loc':Loc} {env:Env} {nk:NK}
theorem kD{D:Addr}(nS:∀o,h1.get? D=some o→¬kO o)(keep:∀b o,h1.get? b=some o→b≠D→h'.get? b=some o):
  ∀b vs n,h1.get? b=some (bf vs n)→h'.get? b=some (bf vs n):=
 fun b vs n e=>keep b _ e fun q=>nS _ (q▸e) ⟨_,_,rfl⟩
theorem ai.adopt(T:ai X noX ad h ad1 S1 h1){D:Addr}(fr:h.get? D=none)(off:Off ad1 D)(nB:X.B D=none)(nS:∀o,h1.get? D=some o→¬kO o)(keep:∀b o,h1.get? b=some o→b≠D→h'.get? b=some o){o:AO}
  (r:OR X (ad1++[⟨D,D⟩]) h' ⟨D,D⟩ o):ai X noX ad h (ad1++[⟨D,D⟩]) (S1++[o]) h':=by
 have R:=T.rep
 have m1:=kD nS keep
 have old:∀b o,h.get? b=some o→b≠D:=fun b o e q=>by subst q;rw[fr] at e;cases e
 refine⟨⟨fun b x e=>keep b x (R.base b x e) (fun q=>by subst q;rw[nB] at e;cases e),by simp[R.len],fun i x y e e'=>?_,fun i j x y ne e e'=>?_,fun x hx=>?_⟩,fun i c e=>eK i c (T.pre i c e),by have:=T.le;simp;omega,
  fun b x e f q=>keep b x (T.ext b x e f q) (old b x e),fun b x e f q=>keep b x (T.seq b x e f q) (old b x e),fun b x e q=>by obtain⟨z,w⟩:=T.there b x e q;exact⟨z,keep b z w (old b x e)⟩,fun i x q e=>?_⟩
 ·rcases b7 e with e | ⟨rfl,rfl⟩
  ·rcases b7 e' with e' | ⟨q,_⟩
   ·exact(R.objs i x y e e').move m1 eK (fun {z} w=>keep _ z w fun q=>(off x (List.mem_of_getElem? e)).1 q.symm) (fun {z} w=>keep _ z w fun q=>(off x (List.mem_of_getElem? e)).2 q.symm)
   ·have:=ae e;rw[R.len] at this;omega
  ·rcases b7 e' with e' | ⟨_,rfl⟩
   ·have:=ae e';rw[←R.len] at this;omega
   ·exact r
 ·rcases b7 e with p | ⟨p1,p2⟩<;>rcases b7 e' with q | ⟨q1,q2⟩
  ·exact R.sep i j x y ne p q
  ·rw[q2];have:=off x (List.mem_of_getElem? p);exact⟨this.1.symm,this.1.symm,this.2.symm,this.2.symm⟩
  ·rw[p2];have:=off y (List.mem_of_getElem? q);exact⟨this.1,this.2,this.1,this.2⟩
  ·exact absurd (p1.trans q1.symm) ne
 ·rcases List.mem_append.mp hx with hx | hx
  ·exact R.new x hx
  ·simp at hx;subst hx;exact⟨nB,nB⟩
 ·rcases b7 e with e | ⟨_,rfl⟩
  ·exact T.fresh i x q e
  ·exact⟨⟨fr,fr⟩,id,id⟩
theorem xe(G:cD X P at_){k:Nat}{i:IE}{e1:Expr}{m:Nat}{p pos:Pos}(hk:k < nS)(H:aG X P cf wf n i e1 nk):aG X P cf wf n (.dict1 k i) (.Dict [some (.Constant (.str (sT k)) m p)] [e1] pos) nk:=by
 intro A ad s S loc env ex v S' Q ho R F Z e K
 obtain⟨u,S1,eu,e⟩:=ao e
 have K:=K.of (cX.symm.trans e)
 have T0:ai X noX ad s.heap ad S (s.heap.push {cls:=.type "dict",data:=.dict #[]}):=ai.push R _
 have sm:=G.sysm _ R.base
 have oD:=lK R
 have nB:=jN R
 have gD:(s.heap.push {cls:=.type "dict",data:=.dict #[]}).get? s.heap.objs.size=some {cls:=.type "dict",data:=.dict #[]}:=Heap.get?_push_size _ rfl
 refine wpAny_Dict_walk (knd:=strKind X.prog X.w) rfl rfl (by simp) (Nat.succ_le_succ (Nat.zero_le _)) ?_
 refine pairTrees_cons_walk ?_
 refine PySem.Calls.Constant_str ?_
 refine H A ad _ S loc env ex u S1 _ ho T0.rep (F.step0 R T0) Z eu fun ad1 h1 tk1 x1 T1 r1=>?_
 have oD1:Off ad1 s.heap.objs.size:=T1.off gD oD
 have gD1:h1.get? s.heap.objs.size=some {cls:=.type "dict",data:=.dict #[]}:=T1.ext _ _ gD oD fun f=>f
 refine pairTrees_nil_walk ⟨[(sT k,x1)],⟨?_,(Heap.DictOf.new s.heap).at fun o e=>T1.ext _ o e oD fun f=>f,fun h2 d2 sb=>?_⟩⟩
 ·exact⟨cU _ _,rfl,trivial⟩
 ·have nSq:∀o,h1.get? s.heap.objs.size=some o→¬kO o:=fun o e=>by
   rw[gD1] at e;cases e
   rintro ⟨vs,n,q⟩;simp at q
  have keep:∀b o,h1.get? b=some o→b≠s.heap.objs.size→h2.get? b=some o:=fun b o e q=>(sb.2 b q).trans e
  have m1:=kD nSq keep
  have T:=(T0.trans T1).adopt (h':=h2) aJ oD1 nB nSq keep (o:=.dict [(k,u)]) (.dict rfl d2 (Nat.ne_of_gt sm) (by show 1≤1000;decide) (.cons hk (r1.move m1 eK) .nil))
  exact K _ h2 _ _ T (dg T1.rep)
theorem Ay{i:IE}{e1:Expr}{c m:Nat}{cp apos pos:Pos}(hp:(apos.endLine==pos.line)=true)(q:cH e1=true)(hc:c < nS)(he:P.emp < nS∧sT P.emp=⟨⟨[]⟩⟩)(H:aG X P cf wf n i e1 nk):
  aG X P cf wf n (.join c i) (.Call (.Attribute (.Constant (.str (sT c)) m cp) (Str.ofString "join") apos) [e1] [] pos) nk:=by
 intro A ad s S loc env ex v S' Q ho R F Z e K
 obtain⟨u,S1,eu,e⟩:=ao e
 refine ah e nN fun l hl e=>bu (G:=fun l=>bj u S1=some l→wpAny (MX X) A (eval (.Call (.Attribute (.Constant (.str (sT c)) m cp) (Str.ofString "join") apos) [e1] [] pos) env) Q NoE s) e (fun e hl=>?_) (fun _ _ e=>nomatch e) hl
 rw[arm_eval_Call,jO (o:=.Constant (.str (sT c)) m cp) rfl]
 refine wpAny_bind (PySem.Calls.Constant_str ?_)
 refine wpAny_bind (wpAny_standAt ?_)
 unfold methodCall
 have qs:bv [e1]=true:=jQ q rfl
 rw[nH (es:=[e1]) qs (Nat.succ_le_succ (Nat.succ_le_succ (Nat.zero_le _)))]
 refine wpAny_bind (wpAny_holding (getMethod_builtin (typeIs_str _ _ _) PySem.F.plainAttrs_str (id:="str.join") PySem.F.slot_str_join PySem.F.type_str_join (fun a z=>nomatch z) ?_))
 refine wpAny_bind (wpAny_of_eq (D5 hp) ?_)
 refine bZ qs ?_
 rw[aY q]
 refine PySem.Calls.spliced_cons (H A ad _ S loc env ex u S1 _ ho R F Z eu fun ad1 h1 tk1 x1 T1 r1=>?_)
 refine PySem.Calls.spliced_nil ?_
 obtain⟨D,vs,k,rfl,g,_,rs⟩:=bg T1.rep r1 hl
 rw[List.length_eq_zero_iff.mp rs.length.symm] at g
 refine join_list (s:={s with heap:=h1,toks:=tk1}) (bS g) .nil (by simp) fun t' k=>?_
 have:Txt.join (sT c) []=sT P.emp:=by rw[he.2];rfl
 rw[this]
 exact K.of e ad1 h1 k _ T1 (.str _ _ he.1)
theorem GH{fnm cnm bnm rng zp sor}(G:cD X P at_)(N:hM X P fnm cnm bnm rng zp sor){i j:IE}{e1 e2:Expr}{np pos:Pos}(q:bv [e1,e2]=true)(qn:bJ nk zp=true)(H1:aG X P cf wf n i e1 nk)(H2:aG X P cf wf n j e2 nk):
  fR X P cf wf n (.zp i j) (.Call (.Name (sT zp) np) [e1,e2] [] pos) nk:=by
 intro A ad s S loc env ex src S' Q ho R F Z e K
 obtain⟨v,S1,ev,e⟩:=ao e
 obtain⟨u,S2,eu,e⟩:=ao e
 refine ah e nN fun o hz e=>aT q fun q1 q=>aT q fun q2 _=>?_
 have es:=aM e
 refine wpAny_Call_NameR (cE G R F qn Z N.zp.1 N.zp.2 ?_)
 refine dU (T:="zip") (jQ q1 q) ?_
 rw[aY q1]
 refine PySem.Calls.spliced_cons (H1 A ad s S loc env ex v S1 _ ho R F Z ev fun ad1 h1 tk1 x1 T1 r1=>?_)
 rw[aY q2]
 refine PySem.Calls.spliced_cons (H2 A ad1 {s with heap:=h1,toks:=tk1} S1 loc env ex u S2 _ ho T1.rep (F.step0 R T1) Z eu fun ad2 h2 tk2 x2 T2 r2=>?_)
 refine PySem.Calls.spliced_nil ?_
 refine xd (s:={s with heap:=h2,toks:=tk2}) T2.rep (r1.step T1.rep T2) r2 hz fun it h3 pv keep fr I=>?_
 have T12:=T1.trans T2
 exact I.self (s:={s with heap:=h3,toks:=tk2}) (K ad2 h3 tk2 it pv (es.2▸T12.trans (ai.same T2.rep keep)) (fun b hb=>T12.new_none rfl (fr b hb)) (es.1▸I))
end Mine
end
section
open PySem PySem.W PySem.Calls PyProof.Rows
namespace Mine
structure Tb where
 fnm:Nat→Nat
 cnm:Nat→Nat
 bnm:BI→Nat
 rng:Nat
 zp:Nat
 sor:Nat
 at_:List Nat
 fo:Nat→Bool
 co:Nat→Bool
noncomputable def lZ(n:Str):Option Nat:=lz.findIdx? (·==n)
noncomputable def frK(nk:NK)(o:Option Nat):Bool:=ay o (fun c=>nk c==some .cell||nk c==some .free) false
noncomputable def loK(xs:List Nat)(o:Option Nat):Bool:=ay o (fun c=>xs.contains c) true
noncomputable def GI(scope:Scope)(nk:NK)(xs:List Nat):Bool:=decide (scope.kind=.function)&&scope.names.all fun p=>scope.names.lookup p.1==some p.2&&am (p.2==.free) (frK nk (lZ p.1)) (am (p.2==.local||p.2==.cell) (loK xs (lZ p.1)) true)
noncomputable def GJ(op:COp)(o:CmpOp):Bool:=decide (tL op=o)
noncomputable def GK(op:BOp)(o:Operator):Bool:=decide (nw op=o)
noncomputable def snk(scope:Scope):NK:=fun c=>scope.names.lookup (sT c)
noncomputable def GL(c:IC):List Nat:=IC.casesOn (motive_2:=fun _=>List Nat) c fun tg _ _=>tg
noncomputable def tW(cl:List IC):Bool:=c6 cl false fun c r=>c6 r true fun d r=>c6 r ((GL d).all fun x=>!(GL c).contains x) fun _ _=>false
noncomputable def qz:List IC→List Nat
 | []=>[]
 | .mk tg _ _::r=>tg++qz r
theorem bM{a b:Bool}(q:(a&&b)=true):a=true∧b=true:=by cases a<;>cases b<;>first | exact⟨rfl,rfl⟩ | exact ff q
theorem jY{a b c:Bool}(q:(a&&b&&c)=true):a=true∧b=true∧c=true:=⟨(bM (bM q).1).1,(bM (bM q).1).2,(bM q).2⟩
theorem kR{a b c d:Bool}(q:(a&&b&&c&&d)=true):a=true∧b=true∧c=true∧d=true:=⟨(bM (bM (bM q).1).1).1,(bM (bM (bM q).1).1).2,(bM (bM q).1).2,(bM q).2⟩
theorem uU{a b c d e:Bool}(q:(a&&b&&c&&d&&e)=true):a=true∧b=true∧c=true∧d=true∧e=true:=⟨(kR (bM q).1).1,(kR (bM q).1).2.1,(kR (bM q).1).2.2.1,(kR (bM q).1).2.2.2,(bM q).2⟩
theorem orE{a b:Bool}(q:(a||b)=true):a=true∨b=true:=by cases a<;>cases b<;>first | exact .inl rfl | exact .inr rfl | exact ff q
theorem kS{p:Prop}{d:Decidable p}(q:@decide p d=true):p:=of_decide_eq_true q
noncomputable def CM(b:BI):Bool:=BI.casesOn b false false false false false false false false true
noncomputable def onS{α:Type}(o:Option α)(k:α→Bool):Bool:=Option.casesOn o false k
theorem kE{α:Type}{G:Option α→Prop}(o:Option α){k:α→Bool}(q:onS o k=true)(K:∀a,k a=true→G (some a)):G o:=by
 cases o with | some a=>exact K a q | none=>exact ff q
noncomputable def onN{α:Type}(o:Option α)(b:Bool):Bool:=Option.casesOn o b fun _=>false
theorem l5{α:Type}{G:Option α→Prop}(o:Option α){b:Bool}(q:onN o b=true)(K:b=true→G none):G o:=by
 cases o with | some a=>exact ff q | none=>exact K q
noncomputable def on0{α:Type}(l:List α)(b:Bool):Bool:=List.casesOn l b fun _ _=>false
theorem fS{α:Type}{G:List α→Prop}(l:List α){b:Bool}(q:on0 l b=true)(K:b=true→G []):G l:=by
 cases l with | nil=>exact K q | cons _ _=>exact ff q
noncomputable def onC{α:Type}(l:List α)(k:α→List α→Bool):Bool:=List.casesOn l false k
theorem kG{α:Type}{G:List α→Prop}(l:List α){k:α→List α→Bool}(q:onC l k=true)(K:∀a r,k a r=true→G (a::r)):G l:=by
 cases l with | nil=>exact ff q | cons a r=>exact K a r q
noncomputable def on1{α:Type}(l:List α)(k:α→Bool):Bool:=onC l fun a r=>on0 r (k a)
theorem iQ{α:Type}{G:List α→Prop}(l:List α){k:α→Bool}(q:on1 l k=true)(K:∀a,k a=true→G [a]):G l:=
 kG l q fun a r q=>fS (G:=fun r=>G (a::r)) r q fun q=>K a q
noncomputable def uV(e:Expr)(k:Str→List Expr→Bool):Bool:=jJ e fun f es ks _=>fA f fun id=>on0 ks (k id es)
theorem l6{G:Expr→Prop}(e:Expr){k:Str→List Expr→Bool}(q:uV e k=true)(K:∀id np es pos,k id es=true→G (.Call (.Name id np) es [] pos)):G e:=
 cJ e q fun f es ks pos q=>cI (G:=fun f=>G (.Call f es ks pos)) f q fun id np q=>fS (G:=fun ks=>G (.Call (.Name id np) es ks pos)) ks q fun q=>K id np es pos q
noncomputable def onM(e:Expr)(b:Bool):Bool:=zE e fun op c=>ef c fun c=>onI c fun j=>decide (op=.USub)&&decide (j=1)&&b
theorem xf{G:Expr→Prop}(e:Expr){b:Bool}(q:onM e b=true)(K:∀k p p2,b=true→G (.UnaryOp .USub (.Constant (.int 1) k p) p2)):G e:=
 wh e q fun op c p2 q=>bK (G:=fun c=>G (.UnaryOp op c p2)) c q fun c k p q=>wj (G:=fun c=>G (.UnaryOp op (.Constant c k p) p2)) c q fun j q=>by
  obtain⟨q1,q2,q3⟩:=jY q;cases kS q1;cases kS q2;exact K k p p2 q3
noncomputable def tX(e:Expr)(z:Int)(b:Bool):Bool:=ef e fun c=>onI c fun j=>decide (j=z)&&b
theorem o8{G:Expr→Prop}(e:Expr){z:Int}{b:Bool}(q:tX e z b=true)(K:∀k p,b=true→G (.Constant (.int z) k p)):G e:=
 bK e q fun c k p q=>wj (G:=fun c=>G (.Constant c k p)) c q fun j q=>by
  obtain⟨q1,q2⟩:=bM q;cases kS q1;exact K k p q2
noncomputable def tY(c:Const):Bool:=Const.casesOn c true (fun _=>false) (fun _=>false) (fun _=>false) (fun _ _=>false) (fun _=>false) (fun _=>false) false
theorem uW{c:Const}(q:tY c=true):c=.none:=by cases c<;>first | rfl | exact ff q
mutual
noncomputable def mE(T:Tb)(nk:NK):IE→Expr→Bool
 | .int i,e=>ef e fun c=>onI c fun j=>decide (i=j)
 | .str c,e=>ef e fun k=>onStr k fun s=>s==sT c&&Nat.blt c nS
 | .none,e=>ef e fun c=>tY c
 | .bool b,e=>ef e fun c=>onB c fun d=>b==d
 | .var c,e=>fA e fun id=>id==sT c&&CH nk c
 | .glob c,e=>fA e fun id=>id==sT c&&bJ nk c
 | .tup l,e=>onTup e fun es=>Nat.ble l.length 100&&mEs T nk l es
 | .list l,e=>onLst e fun es=>Nat.ble l.length 100&&mEs T nk l es
 | .dict0,e=>onDict e fun ks vs=>on0 ks (on0 vs true)
 | .dict1 k i,e=>onDict e fun ks vs=>on1 ks fun o=>onS o fun c=>on1 vs fun v=>ef c fun c=>onStr c fun s=>s==sT k&&Nat.blt k nS&&mE T nk i v
 | .attr o a,e=>lA e fun eo id _=>id==sT a&&T.at_.contains a&&lN eo&&mE T nk o eo
 | .sub o i,e=>g7 e fun eo ei=>eI ei&&mE T nk o eo&&mE T nk i ei
 | .last o,e=>g7 e fun eo ei=>onM ei (mE T nk o eo)
 | .rev o,e=>g7 e fun eo ei=>jt ei fun a b c=>onN a (onN b (onS c fun c=>onM c (mE T nk o eo)))
 | .revTail o,e=>g7 e fun eo ei=>jt ei fun a b c=>onN a (onS b fun b=>tX b 0 (onS c fun c=>onM c (mE T nk o eo)))
 | .take o n,e=>g7 e fun eo ei=>jt ei fun a b c=>onN a (onS b fun b=>onN c (tX b (n:Int) (mE T nk o eo)))
 | .drop o n,e=>g7 e fun eo ei=>jt ei fun a b c=>onN b (onS a fun a=>onN c (tX a (n:Int) (mE T nk o eo)))
 | .call f l,e=>uV e fun id es=>id==sT (T.fnm f)&&T.fo f&&bv es&&bJ nk (T.fnm f)&&mEs T nk l es
 | .new c l,e=>uV e fun id es=>id==sT (T.cnm c)&&T.co c&&bv es&&bJ nk (T.cnm c)&&mEs T nk l es
 | .meth o m l,e=>jJ e fun f es ks p=>lA f fun eo id ap=>on0 ks ((id==sT m&&lN eo&&(ap.endLine==p.line)&&bv es&&Nat.blt es.length 20)&&(mE T nk o eo&&mEs T nk l es))
 | .bi b l,e=>uV e fun id es=>id==sT (T.bnm b)&&bJ nk (T.bnm b)&&cond (CM b) (onC es fun e1 r=>onC r fun e2 r2=>on0 r2 (fA e2 fun id2=>id2==sT (T.bnm .tuple)&&bJ nk (T.bnm .tuple)&&mEs T nk l [e1])) (bv es&&mEs T nk l es)
 | .sortK i f,e=>jJ e fun f0 es ks _=>fA f0 fun id=>on1 es fun e1=>on1 ks fun kw=>onS kw.arg fun kn=>fA kw.value fun id2=>(id==sT T.sor&&(kn==("key":Str))&&id2==sT (T.fnm f)&&T.fo f)&&(cH e1&&bJ nk T.sor&&bJ nk (T.fnm f)&&mE T nk i e1)
 | .join c i,e=>jJ e fun f es ks p=>lA f fun eo id ap=>ef eo fun k=>onStr k fun s=>on1 es fun e1=>on0 ks ((s==sT c&&Nat.blt c nS&&(id==("join":Str)))&&((ap.endLine==p.line)&&cH e1&&mE T nk i e1))
 | .cmp op l r,e=>CA e fun e1 os es=>on1 os fun o=>on1 es fun e2=>GJ op o&&g8 e2&&mE T nk l e1&&mE T nk r e2
 | .and l,e=>onBool e fun o es=>decide (o=.And)&&mEs T nk l es
 | .or l,e=>onBool e fun o es=>decide (o=.Or)&&mEs T nk l es
 | .not _,_=>false
 | .bin op l r,e=>CB e fun e1 o e2=>GK op o&&mE T nk l e1&&mE T nk r e2
 | .ite t b o,e=>Dr e fun e1 e2 e3=>mT T nk t e1&&mE T nk b e2&&mE T nk o e3
 | .comp elt cl,e=>Gr e fun e1 gens scope=>tW cl&&GI scope nk (qz cl)&&mC T nk (snk scope) cl gens&&mE T (snk scope) elt e1
 | .val _,_=>false
 | .bad,_=>true
noncomputable def mEs(T:Tb)(nk:NK):List IE→List Expr→Bool
 | [],es=>on0 es true
 | i::l,es=>onC es fun e es=>cH e&&mE T nk i e&&mEs T nk l es
noncomputable def mT(T:Tb)(nk:NK):IE→Expr→Bool
 | .not i,e=>zE e fun o e1=>decide (o=.Not)&&mT T nk i e1
 | .and l,e=>onBool e fun o es=>decide (o=.And)&&mTs T nk l es
 | .or l,e=>onBool e fun o es=>decide (o=.Or)&&mTs T nk l es
 | .ite t b o,e=>Dr e fun e1 e2 e3=>mT T nk t e1&&mT T nk b e2&&mT T nk o e3
 | .val i,e=>(jR e||rX e)&&mE T nk i e
 | .bad,_=>true
 | _,_=>false
noncomputable def mTs(T:Tb)(nk:NK):List IE→List Expr→Bool
 | [],es=>on0 es true
 | i::l,es=>onC es fun e es=>mT T nk i e&&mTs T nk l es
noncomputable def mI(T:Tb)(nk:NK):It→Expr→Bool
 | .of i,e=>mE T nk i e
 | .rng i,e=>uV e fun id es=>on1 es fun e1=>id==sT T.rng&&cH e1&&bJ nk T.rng&&mE T nk i e1
 | .zp i j,e=>uV e fun id es=>onC es fun e1 r=>on1 r fun e2=>id==sT T.zp&&bv [e1,e2]&&bJ nk T.zp&&mE T nk i e1&&mE T nk j e2
noncomputable def mC(T:Tb)(nk nk2:NK):List IC→List Comprehension→Bool
 | [],gens=>on0 gens true
 | c::r,gens=>onC gens fun g gs=>mCl T nk nk2 c g&&mC T nk2 nk2 r gs
noncomputable def mCl(T:Tb)(nk nk2:NK):IC→Comprehension→Bool
 | .mk tg it ifs,g=>decide (g.is_async=0)&&g8 g.iter&&mI T nk it g.iter&&hU nk2 tg g.target&&mTs T nk2 ifs g.ifs
end
noncomputable def GM:IS→Bool
 | .bad=>true
 | _=>false
noncomputable def mA(T:Tb)(nk:NK)(e:Expr):IT→Expr→Bool
 | .name c,t=>fA t fun id=>id==sT c&&eY nk c
 | .tup cs,t=>onTup t fun ts=>aI e&&Ee e&&jz cs&&Nat.ble 2 cs.length&&jx nk cs ts
 | .attr o a,t=>lA t fun eo id _=>id==sT a&&T.at_.contains a&&aI e&&mE T nk o eo
 | .sub o k,t=>g7 t fun eo ek=>aI e&&mE T nk o eo&&mE T nk k ek
mutual
noncomputable def mS(T:Tb)(nk:NK):IS→Stmt→Bool
 | .assign t i,st=>Gs st fun ts e=>on1 ts fun tgt=>mE T nk i e&&mA T nk e t tgt
 | .expr i,st=>Gu st fun e=>aI e&&mE T nk i e
 | .ret i,st=>Gv st fun o=>onS o fun e=>mE T nk i e
 | .ite t b o,st=>CD st fun e sb so=>mT T nk t e&&mSs T nk b sb&&mSs T nk o so
 | .while t b,st=>Gw st fun e sb so=>on0 so (mT T nk t e&&mSs T nk b sb)
 | .for tg it b,st=>CE st fun target iter sb so=>on0 so (g8 iter&&mI T nk it iter&&hU nk tg target&&mSs T nk b sb)
 | .bad,_=>true
noncomputable def mSs(T:Tb)(nk:NK):List IS→List Stmt→Bool
 | [],sts=>on0 sts true
 | i::l,sts=>GM i||onC sts fun st sts=>mS T nk i st&&mSs T nk l sts
end
end Mine
end
section
open PySem PySem.W PySem.Calls PyProof.Rows
namespace Mine
variable {X:Cx} {P:Pg} {T:Tb} {n wf:Nat} {cf:CF}
noncomputable def gP(X:Cx)(P:Pg)(cf:CF)(n:Nat)(T:Tb):Prop:=∀(wf:Nat) (nk:NK) (i:IE) (f:Nat) (e1:Expr) (np np2 kp pos:Pos),T.fo f=true→cH e1=true→bJ nk T.sor=true→bJ nk (T.fnm f)=true→aG X P cf wf n i e1 nk→
 aG X P cf wf n (.sortK i f) (.Call (.Name (sT T.sor) np) [e1] [⟨some ("key":Str),.Name (sT (T.fnm f)) np2,kp⟩] pos) nk
structure Ctx(X:Cx)(P:Pg)(T:Tb):Prop where
 G:cD X P T.at_
 N:hM X P T.fnm T.cnm T.bnm T.rng T.zp T.sor
 HH:uI X
 fo:∀f,T.fo f=true→X.mg (sT (T.fnm f))=some (.ref (X.fa f))∧∃o fd,X.B (X.fa f)=some o∧o.data=.func fd
 co:∀k,T.co k=true→(P.init k).isSome=true
noncomputable def EvU(X:Cx)(P:Pg)(cf:CF)(wf n:Nat)(i:IE)(e:Expr)(nk:NK):Prop:=aG X P cf wf n i e nk∧(aI e=false→tU X P cf wf n i e nk)∧(rX e=true→b8 X P cf wf n (.val i) e nk)
theorem l7{nk:NK}:∀{l:List IE} {es:List Expr},cL (fun i e=>cH e=true∧aG X P cf wf n i e nk) l es→mZ X P cf wf n l es nk
 | _,_,.nil=>wF
 | _,_,.cons h t=>tO h.1 h.2 (l7 t)
theorem xg{nk:NK}:∀{l:List IE} {es:List Expr},cL (fun i e=>cH e=true∧aG X P cf wf n i e nk) l es→cL (fun i e=>aG X P cf wf n i e nk) l es
 | _,_,.nil=>.nil
 | _,_,.cons h t=>.cons h.2 (xg t)
theorem bN{e:Expr}(q:g8 e=true):∀env x,foldedSetIterable e env x=pure x:=by
 intro env x
 cases e<;>first | rfl | exact Mine.clF q
theorem jA{n:Str}{c:Nat}(e:lZ n=some c):c < nS∧sT c=n:=by
 unfold lZ at e
 rw[List.findIdx?_eq_some_iff_getElem] at e
 obtain⟨h,h1,_⟩:=e
 refine⟨by rw[←jq];exact h,?_⟩
 unfold sT
 rw[List.getD_eq_getElem?_getD,List.getElem?_eq_getElem h]
 exact beq_iff_eq.mp h1
theorem sv{n:Str}(e:lZ n=none):∀c,c < nS→sT c≠n:=by
 unfold lZ at e
 rw[List.findIdx?_eq_none_iff] at e
 intro c hc q
 have hl:c < lz.length:=by rw[jq];exact hc
 have:=e (sT c) (by unfold sT;rw[List.getD_eq_getElem?_getD,List.getElem?_eq_getElem hl];exact List.getElem_mem hl)
 rw[q] at this
 simp at this
theorem GN{scope:Scope}{nk:NK}{xs:List Nat}(q:GI scope nk xs=true):fE scope nk xs:=aT q fun q1 q=>by
 have q2:=List.all_eq_true.mp q
 refine⟨of_decide_eq_true q1,fun n hn=>?_,fun n k h=>aT (q2 (n,k) h) fun a _=>eq_of_beq a,fun c hc hk=>?_⟩
 ·exact aT (q2 _ hn) fun _ z=>ah z nF fun c hf z=>⟨c,(jA hf).1,(jA hf).2.symm,(Bool.or_eq_true_iff.mp z).imp eq_of_beq eq_of_beq⟩
 ·have key:∀{k},scope.names.lookup (sT c)=some k→(loK xs (lZ (sT c))=true)→c∈xs:=fun e z=>by
   unfold loK at z
   refine c9 z (fun d hf z=>?_) fun hf _=>absurd rfl (sv hf c hc)
   rw[←iX (jA hf).1 hc (jA hf).2]
   exact List.contains_iff_mem.mp z
  rcases hk with hk | hk<;>exact aT (q2 _ (mem_of_lookup hk)) fun _ z=>key hk z
theorem plain{i:IE}{e:Expr}{nk:NK}(h:aG X P cf wf n i e nk)(h1:aI e=true)(h2:rX e=false):EvU X P cf wf n i e nk:=
 ⟨h,fun z=>ff (z.symm.trans h1),fun z=>ff (h2.symm.trans z)⟩
theorem d0{a b:Nat}(e:Nat.ble a b=true):a≤b:=Nat.le_of_ble_eq_true e
noncomputable def GO(X:Cx)(P:Pg)(cf:CF)(wf n:Nat)(nk nk2:NK):IC→Comprehension→Prop
 | .mk tg it ifs,g=>g.is_async=0∧g8 g.iter=true∧fR X P cf wf n it g.iter nk∧hU nk2 tg g.target=true∧cL (fun i e=>b8 X P cf wf n i e nk2) ifs g.ifs
inductive gv(X:Cx)(P:Pg)(cf:CF)(wf n:Nat)(nk2:NK):NK→List IC→List Comprehension→Prop
 | nil {nk}:gv X P cf wf n nk2 nk [] []
 | cons {nk c g r gs}:GO X P cf wf n nk nk2 c g→gv X P cf wf n nk2 nk2 r gs→gv X P cf wf n nk2 nk (c::r) (g::gs)
theorem Eh{nk:NK}{elt:IE}{e1:Expr}{cl:List IC}{gens:List Comprehension}{scope:Scope}{pos:Pos}(q:tW cl=true)(cn:fE scope nk (qz cl))(H:gv X P cf wf n (snk scope) nk cl gens)(HE:aG X P cf wf n elt e1 (snk scope)):
  EvU X P cf wf n (.comp elt cl) (.ListComp e1 gens scope pos) nk:=by
 cases H with
 | nil=>exact(nomatch q)
 | @cons _ c g r gs h1 t=>
  obtain⟨tg,it,ifs⟩:=c
  obtain⟨target,iter,es,a⟩:=g
  obtain⟨rfl,q2,HI,q4,Hs⟩:=h1
  cases t with
  | nil=>
   simp only[qz,List.append_nil] at cn
   exact⟨wU lY cn (bN q2) HI q4 Hs HE,fun _=>uP lY cn (bN q2) HI q4 Hs HE,fun h=>(nomatch h)⟩
  | @cons _ c2 g2 r gs h2 t=>
   obtain⟨tg2,it2,ifs2⟩:=c2
   obtain⟨target2,iter2,es2,a2⟩:=g2
   obtain⟨rfl,q3,HI2,q8,Hs2⟩:=h2
   cases t with
   | nil=>
    simp only[qz,List.append_nil] at cn
    have dis:∀c∈tg2,c∉tg:=fun c hc=>by
     have q:(tg2.all fun x=>!tg.contains x)=true:=q
     have:=List.all_eq_true.mp q c hc
     simpa using this
    exact⟨wV lY cn (bN q2) (bN q3) HI q4 Hs HI2 q8 Hs2 dis HE,fun _=>uQ lY cn (bN q2) (bN q3) HI q4 Hs HI2 q8 Hs2 dis HE,fun h=>(nomatch h)⟩
   | cons _ _=>exact(nomatch q)
mutual
theorem bC(C:Ctx X P T)(CS:Snd X n cf)(SK:gP X P cf n T)(nk:NK):∀(i:IE) (e:Expr),mE T nk i e=true→EvU X P cf wf n i e nk
 | .int i,e,q=>bK (G:=fun e=>EvU X P cf wf n (.int i) e nk) e q fun c k p q=>wj (G:=fun c=>EvU X P cf wf n (.int i) (.Constant c k p) nk) c q fun j q=>by cases kS q;exact plain DP rfl rfl
 | .str c,e,q=>bK (G:=fun e=>EvU X P cf wf n (.str c) e nk) e q fun k _ p q=>oJ (G:=fun k=>EvU X P cf wf n (.str c) (.Constant k _ p) nk) k q fun s q=>by
  obtain⟨q1,q9⟩:=bM q;cases eq_of_beq q1;exact plain (DQ (cK q9)) rfl rfl
 | .none,e,q=>bK (G:=fun e=>EvU X P cf wf n .none e nk) e q fun c k p q=>by cases uW q;exact plain Ab rfl rfl
 | .bool b,e,q=>bK (G:=fun e=>EvU X P cf wf n (.bool b) e nk) e q fun c k p q=>Gx (G:=fun c=>EvU X P cf wf n (.bool b) (.Constant c k p) nk) c q fun d q=>by cases eq_of_beq q;exact plain Ac rfl rfl
 | .var c,e,q=>cI (G:=fun e=>EvU X P cf wf n (.var c) e nk) e q fun id p q=>by obtain⟨q1,q9⟩:=bM q;cases eq_of_beq q1;exact plain (DN q9) rfl rfl
 | .glob c,e,q=>cI (G:=fun e=>EvU X P cf wf n (.glob c) e nk) e q fun id p q=>by obtain⟨q1,q9⟩:=bM q;cases eq_of_beq q1;exact plain (Aa C.G C.N q9) rfl rfl
 | .tup l,e,q=>kX (G:=fun e=>EvU X P cf wf n (.tup l) e nk) e q fun es _ _ q=>have q:=bM q;plain (DR (d0 q.1) (l7 (fG C CS SK nk l _ q.2))) rfl rfl
 | .list l,e,q=>tE (G:=fun e=>EvU X P cf wf n (.list l) e nk) e q fun es _ q=>have q:=bM q;plain (DS (d0 q.1) (l7 (fG C CS SK nk l _ q.2))) rfl rfl
 | .dict0,e,q=>jr (G:=fun e=>EvU X P cf wf n .dict0 e nk) e q fun ks vs p q=>fS (G:=fun ks=>EvU X P cf wf n .dict0 (.Dict ks vs p) nk) ks q fun q=>fS (G:=fun vs=>EvU X P cf wf n .dict0 (.Dict [] vs p) nk) vs q fun _=>plain (wG C.G.sysm) rfl rfl
 | .dict1 k i,e,q=>jr (G:=fun e=>EvU X P cf wf n (.dict1 k i) e nk) e q fun ks vs p q=>iQ (G:=fun ks=>EvU X P cf wf n (.dict1 k i) (.Dict ks vs p) nk) ks q fun o q=>kE (G:=fun o=>EvU X P cf wf n (.dict1 k i) (.Dict [o] vs p) nk) o q fun c q=>
  iQ (G:=fun vs=>EvU X P cf wf n (.dict1 k i) (.Dict [some c] vs p) nk) vs q fun v q=>bK (G:=fun c=>EvU X P cf wf n (.dict1 k i) (.Dict [some c] [v] p) nk) c q fun c k2 p2 q=>
  oJ (G:=fun c=>EvU X P cf wf n (.dict1 k i) (.Dict [some (.Constant c k2 p2)] [v] p) nk) c q fun s q=>by
   obtain⟨q1,q2,q3⟩:=jY q;cases eq_of_beq q1;exact plain (xe C.G (cK q2) (bC C CS SK nk i _ q3).1) rfl rfl
 | .attr o a,e,q=>g6 (G:=fun e=>EvU X P cf wf n (.attr o a) e nk) e q fun eo id p q=>by
  obtain⟨q1,q2,q3,q4⟩:=kR q;cases eq_of_beq q1;exact plain (Ad C.G (List.contains_iff_mem.mp q2) q3 (bC C CS SK nk o _ q4).1) rfl rfl
 | .sub o i,e,q=>bR (G:=fun e=>EvU X P cf wf n (.sub o i) e nk) e q fun eo ei p q=>have⟨q1,q2,q3⟩:=jY q;plain (DX q1 (bC C CS SK nk o _ q2).1 (bC C CS SK nk i _ q3).1) rfl rfl
 | .last o,e,q=>bR (G:=fun e=>EvU X P cf wf n (.last o) e nk) e q fun eo ei p q=>xf (G:=fun ei=>EvU X P cf wf n (.last o) (.Subscript eo ei p) nk) ei q fun _ _ _ q=>plain (Aj (bC C CS SK nk o _ q).1) rfl rfl
 | .rev o,e,q=>bR (G:=fun e=>EvU X P cf wf n (.rev o) e nk) e q fun eo ei p q=>iq (G:=fun ei=>EvU X P cf wf n (.rev o) (.Subscript eo ei p) nk) ei q fun a b c p2 q=>l5 (G:=fun a=>EvU X P cf wf n (.rev o) (.Subscript eo (.Slice a b c p2) p) nk) a q fun q=>
  l5 (G:=fun b=>EvU X P cf wf n (.rev o) (.Subscript eo (.Slice none b c p2) p) nk) b q fun q=>kE (G:=fun c=>EvU X P cf wf n (.rev o) (.Subscript eo (.Slice none none c p2) p) nk) c q fun c q=>
  xf (G:=fun c=>EvU X P cf wf n (.rev o) (.Subscript eo (.Slice none none (some c) p2) p) nk) c q fun _ _ _ q=>plain (D6 (bC C CS SK nk o _ q).1) rfl rfl
 | .revTail o,e,q=>bR (G:=fun e=>EvU X P cf wf n (.revTail o) e nk) e q fun eo ei p q=>iq (G:=fun ei=>EvU X P cf wf n (.revTail o) (.Subscript eo ei p) nk) ei q fun a b c p2 q=>l5 (G:=fun a=>EvU X P cf wf n (.revTail o) (.Subscript eo (.Slice a b c p2) p) nk) a q fun q=>
  kE (G:=fun b=>EvU X P cf wf n (.revTail o) (.Subscript eo (.Slice none b c p2) p) nk) b q fun b q=>o8 (G:=fun b=>EvU X P cf wf n (.revTail o) (.Subscript eo (.Slice none (some b) c p2) p) nk) b q fun k3 p3 q=>
  kE (G:=fun c=>EvU X P cf wf n (.revTail o) (.Subscript eo (.Slice none (some (.Constant (.int 0) k3 p3)) c p2) p) nk) c q fun c q=>
  xf (G:=fun c=>EvU X P cf wf n (.revTail o) (.Subscript eo (.Slice none (some (.Constant (.int 0) k3 p3)) (some c) p2) p) nk) c q fun _ _ _ q=>plain (se (bC C CS SK nk o _ q).1) rfl rfl
 | .take o m,e,q=>bR (G:=fun e=>EvU X P cf wf n (.take o m) e nk) e q fun eo ei p q=>iq (G:=fun ei=>EvU X P cf wf n (.take o m) (.Subscript eo ei p) nk) ei q fun a b c p2 q=>l5 (G:=fun a=>EvU X P cf wf n (.take o m) (.Subscript eo (.Slice a b c p2) p) nk) a q fun q=>
  kE (G:=fun b=>EvU X P cf wf n (.take o m) (.Subscript eo (.Slice none b c p2) p) nk) b q fun b q=>l5 (G:=fun c=>EvU X P cf wf n (.take o m) (.Subscript eo (.Slice none (some b) c p2) p) nk) c q fun q=>
  o8 (G:=fun b=>EvU X P cf wf n (.take o m) (.Subscript eo (.Slice none (some b) none p2) p) nk) b q fun _ _ q=>plain (Ag (bC C CS SK nk o _ q).1) rfl rfl
 | .drop o m,e,q=>bR (G:=fun e=>EvU X P cf wf n (.drop o m) e nk) e q fun eo ei p q=>iq (G:=fun ei=>EvU X P cf wf n (.drop o m) (.Subscript eo ei p) nk) ei q fun a b c p2 q=>l5 (G:=fun b=>EvU X P cf wf n (.drop o m) (.Subscript eo (.Slice a b c p2) p) nk) b q fun q=>
  kE (G:=fun a=>EvU X P cf wf n (.drop o m) (.Subscript eo (.Slice a none c p2) p) nk) a q fun a q=>l5 (G:=fun c=>EvU X P cf wf n (.drop o m) (.Subscript eo (.Slice (some a) none c p2) p) nk) c q fun q=>
  o8 (G:=fun a=>EvU X P cf wf n (.drop o m) (.Subscript eo (.Slice (some a) none none p2) p) nk) a q fun _ _ q=>plain (Ah (bC C CS SK nk o _ q).1) rfl rfl
 | .call f l,e,q=>l6 (G:=fun e=>EvU X P cf wf n (.call f l) e nk) e q fun id np es p q=>by
  obtain⟨q0,q1,q2,q3,q4⟩:=uU q;cases eq_of_beq q0
  exact plain (Ae C.G C.N CS (C.fo f q1).1 (C.fo f q1).2 q2 q3 (l7 (fG C CS SK nk l _ q4))) rfl rfl
 | .new c l,e,q=>l6 (G:=fun e=>EvU X P cf wf n (.new c l) e nk) e q fun id np es p q=>by
  obtain⟨q0,q1,q2,q3,q4⟩:=uU q;cases eq_of_beq q0
  exact plain (DY C.G C.N CS (C.co c q1) q2 q3 (l7 (fG C CS SK nk l _ q4))) rfl rfl
 | .meth o m l,e,q=>cJ (G:=fun e=>EvU X P cf wf n (.meth o m l) e nk) e q fun f es ks p q=>g6 (G:=fun f=>EvU X P cf wf n (.meth o m l) (.Call f es ks p) nk) f q fun eo id ap q=>
  fS (G:=fun ks=>EvU X P cf wf n (.meth o m l) (.Call (.Attribute eo id ap) es ks p) nk) ks q fun q=>by
   obtain⟨qa,qb⟩:=bM q;obtain⟨q0,q1,q2,q3,q4⟩:=uU qa;have q':=bM qb;cases eq_of_beq q0
   exact plain (Af C.G CS q1 q2 q3 (cK q4) (bC C CS SK nk o _ q'.1).1 (l7 (fG C CS SK nk l _ q'.2))) rfl rfl
 | .bi b l,e,q=>l6 (G:=fun e=>EvU X P cf wf n (.bi b l) e nk) e q fun id np es p q=>by
  obtain⟨q0,q1,q2⟩:=jY q;cases eq_of_beq q0
  cases hb:CM b with
  | true=>
   cases(by cases b<;>first | rfl | exact ff hb:b=.isTuple)
   exact kG (G:=fun es=>EvU X P cf wf n (.bi .isTuple l) (.Call (.Name (sT (T.bnm .isTuple)) np) es [] p) nk) es q2 fun e1 r q2=>
    kG (G:=fun r=>EvU X P cf wf n (.bi .isTuple l) (.Call (.Name (sT (T.bnm .isTuple)) np) (e1::r) [] p) nk) r q2 fun e2 r2 q2=>
    fS (G:=fun r2=>EvU X P cf wf n (.bi .isTuple l) (.Call (.Name (sT (T.bnm .isTuple)) np) (e1::e2::r2) [] p) nk) r2 q2 fun q2=>
    cI (G:=fun e2=>EvU X P cf wf n (.bi .isTuple l) (.Call (.Name (sT (T.bnm .isTuple)) np) [e1,e2] [] p) nk) e2 q2 fun id2 p2 q2=>by
     obtain⟨q0,q3,q4⟩:=jY q2;cases eq_of_beq q0
     have:=fG C CS SK nk l _ q4
     cases this with
     | cons h t=>cases t;exact plain (DZ C.G C.N C.HH h.1 q1 q3 h.2) rfl rfl
  | false=>
   rw[hb] at q2;have q2:=bM q2
   exact plain (GB C.G C.N C.HH (fun z=>by rw[z] at hb;exact nomatch hb) q2.1 q1 (l7 (fG C CS SK nk l _ q2.2))) rfl rfl
 | .sortK i f,e,q=>cJ (G:=fun e=>EvU X P cf wf n (.sortK i f) e nk) e q fun f0 es ks p q=>cI (G:=fun f0=>EvU X P cf wf n (.sortK i f) (.Call f0 es ks p) nk) f0 q fun id np q=>
  iQ (G:=fun es=>EvU X P cf wf n (.sortK i f) (.Call (.Name id np) es ks p) nk) es q fun e1 q=>iQ (G:=fun ks=>EvU X P cf wf n (.sortK i f) (.Call (.Name id np) [e1] ks p) nk) ks q fun⟨ar,vl,kp⟩ q=>
  kE (G:=fun ar=>EvU X P cf wf n (.sortK i f) (.Call (.Name id np) [e1] [⟨ar,vl,kp⟩] p) nk) ar q fun kn q=>cI (G:=fun vl=>EvU X P cf wf n (.sortK i f) (.Call (.Name id np) [e1] [⟨some kn,vl,kp⟩] p) nk) vl q fun id2 np2 q=>by
   obtain⟨qa,qb⟩:=bM q;obtain⟨q0,q1,q2,q3⟩:=kR qa;obtain⟨q4,q5,q6,q7⟩:=kR qb;cases eq_of_beq q0;cases eq_of_beq q1;cases eq_of_beq q2
   exact plain (SK wf nk i f _ _ _ _ _ q3 q4 q5 q6 (bC C CS SK nk i _ q7).1) rfl rfl
 | .join c i,e,q=>cJ (G:=fun e=>EvU X P cf wf n (.join c i) e nk) e q fun f es ks p q=>g6 (G:=fun f=>EvU X P cf wf n (.join c i) (.Call f es ks p) nk) f q fun eo id ap q=>
  bK (G:=fun eo=>EvU X P cf wf n (.join c i) (.Call (.Attribute eo id ap) es ks p) nk) eo q fun k k2 p2 q=>oJ (G:=fun k=>EvU X P cf wf n (.join c i) (.Call (.Attribute (.Constant k k2 p2) id ap) es ks p) nk) k q fun s q=>
  iQ (G:=fun es=>EvU X P cf wf n (.join c i) (.Call (.Attribute (.Constant (.str s) k2 p2) id ap) es ks p) nk) es q fun e1 q=>fS (G:=fun ks=>EvU X P cf wf n (.join c i) (.Call (.Attribute (.Constant (.str s) k2 p2) id ap) [e1] ks p) nk) ks q fun q=>by
   obtain⟨qa,qb⟩:=bM q;obtain⟨q0,q1,q2⟩:=jY qa;obtain⟨q3,q4,q5⟩:=jY qb;cases eq_of_beq q0;cases eq_of_beq q2
   exact plain (Ay q3 q4 (cK q1) C.G.emp (bC C CS SK nk i _ q5).1) rfl rfl
 | .cmp op l r,e,q=>tF (G:=fun e=>EvU X P cf wf n (.cmp op l r) e nk) e q fun e1 os es p q=>iQ (G:=fun os=>EvU X P cf wf n (.cmp op l r) (.Compare e1 os es p) nk) os q fun o q=>iQ (G:=fun es=>EvU X P cf wf n (.cmp op l r) (.Compare e1 [o] es p) nk) es q fun e2 q=>by
   obtain⟨q0,q1,q2,q3⟩:=kR q;cases kS q0
   exact⟨DV C.G q1 (bC C CS SK nk l _ q2).1 (bC C CS SK nk r _ q3).1,fun h=>ff h.symm,fun _=>IZ C.G q1 (bC C CS SK nk l _ q2).1 (bC C CS SK nk r _ q3).1⟩
 | .and l,e,q=>fN (G:=fun e=>EvU X P cf wf n (.and l) e nk) e q fun o es p q=>by obtain⟨q0,q9⟩:=bM q;cases kS q0;exact plain (D7 (xg (fG C CS SK nk l _ q9))) rfl rfl
 | .or l,e,q=>fN (G:=fun e=>EvU X P cf wf n (.or l) e nk) e q fun o es p q=>by obtain⟨q0,q9⟩:=bM q;cases kS q0;exact plain (GD (xg (fG C CS SK nk l _ q9))) rfl rfl
 | .not _,e,q=>ff q
 | .bin op l r,e,q=>tG (G:=fun e=>EvU X P cf wf n (.bin op l r) e nk) e q fun e1 o e2 p q=>by obtain⟨q0,q1,q2⟩:=jY q;cases kS q0;exact plain (DU C.G (bC C CS SK nk l _ q1).1 (bC C CS SK nk r _ q2).1) rfl rfl
 | .ite t b o,e,q=>rU (G:=fun e=>EvU X P cf wf n (.ite t b o) e nk) e q fun e1 e2 e3 p q=>have⟨q1,q2,q3⟩:=jY q;plain (DW (kH C CS SK nk t _ q1) (bC C CS SK nk b _ q2).1 (bC C CS SK nk o _ q3).1) rfl rfl
 | .comp elt cl,e,q=>wi (G:=fun e=>EvU X P cf wf n (.comp elt cl) e nk) e q fun e1 gens scope p q=>have⟨q1,q2,q3,q4⟩:=kR q;Eh q1 (GN q2) (CO C CS SK nk _ cl _ q3) (bC C CS SK (snk _) elt _ q4).1
 | .val _,e,q=>ff q
 | .bad,e,q=>⟨fun A ad s S loc env ex v S' Q ho R F Z e K=>(nomatch e),fun _ A ad s S loc env ex v S' u Q ho R F Z e K=>(nomatch e),fun _ A ad s S loc env ex v S' Q ho R F Z e K=>(nomatch e)⟩
theorem fG(C:Ctx X P T)(CS:Snd X n cf)(SK:gP X P cf n T)(nk:NK):∀(l:List IE) (es:List Expr),mEs T nk l es=true→cL (fun i e=>cH e=true∧aG X P cf wf n i e nk) l es
 | [],es,q=>fS (G:=fun es=>cL (fun i e=>cH e=true∧aG X P cf wf n i e nk) [] es) es q fun _=>.nil
 | i::l,es,q=>kG (G:=fun es=>cL (fun i e=>cH e=true∧aG X P cf wf n i e nk) (i::l) es) es q fun e es q=>have⟨q1,q2,q3⟩:=jY q;.cons ⟨q1,(bC C CS SK nk i _ q2).1⟩ (fG C CS SK nk l _ q3)
theorem kH(C:Ctx X P T)(CS:Snd X n cf)(SK:gP X P cf n T)(nk:NK):∀(i:IE) (e:Expr),mT T nk i e=true→b8 X P cf wf n i e nk
 | .not i,e,q=>wh (G:=fun e=>b8 X P cf wf n (.not i) e nk) e q fun o e1 p q=>by obtain⟨q0,q9⟩:=bM q;cases kS q0;exact IV (kH C CS SK nk i _ q9)
 | .and l,e,q=>fN (G:=fun e=>b8 X P cf wf n (.and l) e nk) e q fun o es p q=>by obtain⟨q0,q9⟩:=bM q;cases kS q0;exact IW (o9 C CS SK nk l _ q9)
 | .or l,e,q=>fN (G:=fun e=>b8 X P cf wf n (.or l) e nk) e q fun o es p q=>by obtain⟨q0,q9⟩:=bM q;cases kS q0;exact tor (o9 C CS SK nk l _ q9)
 | .ite t b o,e,q=>rU (G:=fun e=>b8 X P cf wf n (.ite t b o) e nk) e q fun e1 e2 e3 p q=>have⟨q1,q2,q3⟩:=jY q;IX (kH C CS SK nk t _ q1) (kH C CS SK nk b _ q2) (kH C CS SK nk o _ q3)
 | .val i,e,q=>have q:=bM q;have this:=bC C CS SK nk i e q.2;(orE q.1).elim (fun q1=>IY q1 this.1) this.2.2
 | .bad,e,q=>fun A ad s S loc env ex v S' Q ho R F Z e K=>(nomatch e)
 | .int _,e,q | .str _,e,q | .none,e,q | .bool _,e,q | .var _,e,q | .glob _,e,q | .tup _,e,q | .list _,e,q | .dict0,e,q | .dict1 _ _,e,q | .attr _ _,e,q | .sub _ _,e,q
 | .last _,e,q | .rev _,e,q | .revTail _,e,q | .take _ _,e,q | .drop _ _,e,q | .call _ _,e,q | .new _ _,e,q | .meth _ _ _,e,q | .bi _ _,e,q | .sortK _ _,e,q | .join _ _,e,q
 | .cmp _ _ _,e,q | .bin _ _ _,e,q | .comp _ _,e,q=>ff q
theorem o9(C:Ctx X P T)(CS:Snd X n cf)(SK:gP X P cf n T)(nk:NK):∀(l:List IE) (es:List Expr),mTs T nk l es=true→cL (fun i e=>b8 X P cf wf n i e nk) l es
 | [],es,q=>fS (G:=fun es=>cL (fun i e=>b8 X P cf wf n i e nk) [] es) es q fun _=>.nil
 | i::l,es,q=>kG (G:=fun es=>cL (fun i e=>b8 X P cf wf n i e nk) (i::l) es) es q fun e es q=>have q:=bM q;.cons (kH C CS SK nk i _ q.1) (o9 C CS SK nk l _ q.2)
theorem CN(C:Ctx X P T)(CS:Snd X n cf)(SK:gP X P cf n T)(nk:NK):∀(i:It) (e:Expr),mI T nk i e=true→fR X P cf wf n i e nk
 | .of i,e,q=>GE (bC C CS SK nk i _ q).1
 | .rng i,e,q=>l6 (G:=fun e=>fR X P cf wf n (.rng i) e nk) e q fun id np es p q=>iQ (G:=fun es=>fR X P cf wf n (.rng i) (.Call (.Name id np) es [] p) nk) es q fun e1 q=>by
  obtain⟨q0,q1,q2,q3⟩:=kR q;cases eq_of_beq q0;exact Ea C.G C.N q1 q2 (bC C CS SK nk i _ q3).1
 | .zp i j,e,q=>l6 (G:=fun e=>fR X P cf wf n (.zp i j) e nk) e q fun id np es p q=>kG (G:=fun es=>fR X P cf wf n (.zp i j) (.Call (.Name id np) es [] p) nk) es q fun e1 r q=>iQ (G:=fun r=>fR X P cf wf n (.zp i j) (.Call (.Name id np) (e1::r) [] p) nk) r q fun e2 q=>by
  obtain⟨q0,q1,q2,q3,q4⟩:=uU q;cases eq_of_beq q0;exact GH C.G C.N q1 q2 (bC C CS SK nk i _ q3).1 (bC C CS SK nk j _ q4).1
theorem CO(C:Ctx X P T)(CS:Snd X n cf)(SK:gP X P cf n T)(nk:NK)(nk2:NK):∀(l:List IC) (gs:List Comprehension),mC T nk nk2 l gs=true→gv X P cf wf n nk2 nk l gs
 | [],gs,q=>fS (G:=fun gs=>gv X P cf wf n nk2 nk [] gs) gs q fun _=>.nil
 | c::r,gs,q=>kG (G:=fun gs=>gv X P cf wf n nk2 nk (c::r) gs) gs q fun g gs q=>have q:=bM q;.cons (Ei C CS SK nk nk2 c _ q.1) (CO C CS SK nk2 nk2 r _ q.2)
theorem Ei(C:Ctx X P T)(CS:Snd X n cf)(SK:gP X P cf n T)(nk:NK)(nk2:NK):∀(c:IC) (g:Comprehension),mCl T nk nk2 c g=true→GO X P cf wf n nk nk2 c g
 | .mk tg it ifs,g,q=>have⟨q1,q2,q3,q4,q5⟩:=uU q;⟨kS q1,q2,CN C CS SK nk it _ q3,q4,o9 C CS SK nk2 ifs _ q5⟩
end
end Mine
end
section
open PySem PySem.W PySem.Calls PyProof.Rows
namespace Mine
variable {X:Cx} {P:Pg} {T:Tb} {n wf:Nat} {cf:CF}
theorem Az{nk:NK}{c:Nat}{e:Expr}{tp pos:Pos}:dn X P cf wf n (.assign (.name c) .bad) (.Assign [.Name (sT c) tp] e pos) nk:=fun A ad s S loc env ex fl S' Q ho R F Z e K=>(nomatch e)
theorem xh{nk:NK}:∀{i:IE} {e:Expr},aI e=false→mE T nk i e=true→i=.bad∨∃elt gens scope cp,e=.ListComp elt gens scope cp
 | .bad,_,_,_=>.inl rfl
 | .comp elt cl,e,_,q=>wi (G:=fun e=>IE.comp elt cl=.bad∨∃elt gens scope cp,e=.ListComp elt gens scope cp) e q fun a b c d _=>.inr ⟨a,b,c,d,rfl⟩
 | .int _,e,h,q=>ff (h.symm.trans (bK (G:=fun e=>aI e=true) e q fun _ _ _ _=>rfl))
 | .str _,e,h,q=>ff (h.symm.trans (bK (G:=fun e=>aI e=true) e q fun _ _ _ _=>rfl))
 | .none,e,h,q=>ff (h.symm.trans (bK (G:=fun e=>aI e=true) e q fun _ _ _ _=>rfl))
 | .bool _,e,h,q=>ff (h.symm.trans (bK (G:=fun e=>aI e=true) e q fun _ _ _ _=>rfl))
 | .var _,e,h,q=>ff (h.symm.trans (cI (G:=fun e=>aI e=true) e q fun _ _ _=>rfl))
 | .glob _,e,h,q=>ff (h.symm.trans (cI (G:=fun e=>aI e=true) e q fun _ _ _=>rfl))
 | .tup _,e,h,q=>ff (h.symm.trans (kX (G:=fun e=>aI e=true) e q fun _ _ _ _=>rfl))
 | .list _,e,h,q=>ff (h.symm.trans (tE (G:=fun e=>aI e=true) e q fun _ _ _=>rfl))
 | .dict0,e,h,q=>ff (h.symm.trans (jr (G:=fun e=>aI e=true) e q fun _ _ _ _=>rfl))
 | .dict1 _ _,e,h,q=>ff (h.symm.trans (jr (G:=fun e=>aI e=true) e q fun _ _ _ _=>rfl))
 | .attr _ _,e,h,q=>ff (h.symm.trans (g6 (G:=fun e=>aI e=true) e q fun _ _ _ _=>rfl))
 | .sub _ _,e,h,q=>ff (h.symm.trans (bR (G:=fun e=>aI e=true) e q fun _ _ _ _=>rfl))
 | .last _,e,h,q=>ff (h.symm.trans (bR (G:=fun e=>aI e=true) e q fun _ _ _ _=>rfl))
 | .rev _,e,h,q=>ff (h.symm.trans (bR (G:=fun e=>aI e=true) e q fun _ _ _ _=>rfl))
 | .revTail _,e,h,q=>ff (h.symm.trans (bR (G:=fun e=>aI e=true) e q fun _ _ _ _=>rfl))
 | .take _ _,e,h,q=>ff (h.symm.trans (bR (G:=fun e=>aI e=true) e q fun _ _ _ _=>rfl))
 | .drop _ _,e,h,q=>ff (h.symm.trans (bR (G:=fun e=>aI e=true) e q fun _ _ _ _=>rfl))
 | .call _ _,e,h,q=>ff (h.symm.trans (cJ (G:=fun e=>aI e=true) e q fun _ _ _ _ _=>rfl))
 | .new _ _,e,h,q=>ff (h.symm.trans (cJ (G:=fun e=>aI e=true) e q fun _ _ _ _ _=>rfl))
 | .meth _ _ _,e,h,q=>ff (h.symm.trans (cJ (G:=fun e=>aI e=true) e q fun _ _ _ _ _=>rfl))
 | .bi _ _,e,h,q=>ff (h.symm.trans (cJ (G:=fun e=>aI e=true) e q fun _ _ _ _ _=>rfl))
 | .sortK _ _,e,h,q=>ff (h.symm.trans (cJ (G:=fun e=>aI e=true) e q fun _ _ _ _ _=>rfl))
 | .join _ _,e,h,q=>ff (h.symm.trans (cJ (G:=fun e=>aI e=true) e q fun _ _ _ _ _=>rfl))
 | .cmp _ _ _,e,h,q=>ff (h.symm.trans (tF (G:=fun e=>aI e=true) e q fun _ _ _ _ _=>rfl))
 | .and _,e,h,q=>ff (h.symm.trans (fN (G:=fun e=>aI e=true) e q fun _ _ _ _=>rfl))
 | .or _,e,h,q=>ff (h.symm.trans (fN (G:=fun e=>aI e=true) e q fun _ _ _ _=>rfl))
 | .bin _ _ _,e,h,q=>ff (h.symm.trans (tG (G:=fun e=>aI e=true) e q fun _ _ _ _ _=>rfl))
 | .ite _ _ _,e,h,q=>ff (h.symm.trans (rU (G:=fun e=>aI e=true) e q fun _ _ _ _ _=>rfl))
 | .not _,e,h,q=>ff q
 | .val _,e,h,q=>ff q
theorem qA(C:Ctx X P T){nk:NK}{i:IE}{e:Expr}{pos:Pos}(H:EvU X P cf wf n i e nk)(HE:∀i e,mE T nk i e=true→EvU X P cf wf n i e nk)(q:mE T nk i e=true):
  ∀{t:IT} {tgt:Expr},mA T nk e t tgt=true→dn X P cf wf n (.assign t i) (.Assign [tgt] e pos) nk
 | .name c,tgt,q2=>cI (G:=fun tgt=>dn X P cf wf n (.assign (.name c) i) (.Assign [tgt] e pos) nk) tgt q2 fun id tp q2=>by
  obtain⟨q3,q4⟩:=bM q2;cases eq_of_beq q3
  cases hn:aI e with
  | true=>exact As hn q4 H.1
  | false=>
   rcases xh hn q with rfl | ⟨elt,gens,scope,cp,rfl⟩
   ·exact Az
   ·exact wX q4 H.1 (H.2.1 hn)
 | .tup cs,tgt,q2=>kX (G:=fun tgt=>dn X P cf wf n (.assign (.tup cs) i) (.Assign [tgt] e pos) nk) tgt q2 fun ts _ _ q2=>have⟨h1,h2,h3,h4,h5⟩:=uU q2;wY h1 h2 h3 (d0 h4) h5 H.1
 | .attr o a,tgt,q2=>g6 (G:=fun tgt=>dn X P cf wf n (.assign (.attr o a) i) (.Assign [tgt] e pos) nk) tgt q2 fun eo id _ q2=>by
  obtain⟨h1,h2,h3,h4⟩:=kR q2;cases eq_of_beq h1;exact Av C.G h3 (List.contains_iff_mem.mp h2) H.1 (HE _ _ h4).1
 | .sub o k,tgt,q2=>bR (G:=fun tgt=>dn X P cf wf n (.assign (.sub o k) i) (.Assign [tgt] e pos) nk) tgt q2 fun eo ek _ q2=>have⟨h1,h2,h3⟩:=jY q2;Ef h1 H.1 (HE _ _ h2).1 (HE _ _ h3).1
theorem Ej{st:Stmt}{nk:NK}:dn X P cf wf n .bad st nk:=fun A ad s S loc env ex fl S' Q ho R F Z e K=>(nomatch e)
theorem Ek{l:List IS}{sts:List Stmt}{nk:NK}:i5 X P cf wf n (.bad::l) sts nk:=fun A ad s S loc env ex fl S' Q ho R F Z e K=>(nomatch e)
mutual
theorem xi(C:Ctx X P T)(CS:Snd X n cf)(SK:gP X P cf n T)(nk:NK):∀(i:IS) (st:Stmt),mS T nk i st=true→dn X P cf wf n i st nk
 | .assign t i,st,q=>Dt (G:=fun st=>dn X P cf wf n (.assign t i) st nk) st q fun ts e p q=>iQ (G:=fun ts=>dn X P cf wf n (.assign t i) (.Assign ts e p) nk) ts q fun tgt q=>
  have q:=bM q;qA C (bC C CS SK nk i _ q.1) (fun i e=>bC C CS SK nk i e) q.1 q.2
 | .expr i,st,q=>Du (G:=fun st=>dn X P cf wf n (.expr i) st nk) st q fun e p q=>have q:=bM q;Ao q.1 (bC C CS SK nk i _ q.2).1
 | .ret i,st,q=>Dv (G:=fun st=>dn X P cf wf n (.ret i) st nk) st q fun o p q=>kE (G:=fun o=>dn X P cf wf n (.ret i) (.Return o p) nk) o q fun e q=>Ec (bC C CS SK nk i _ q).1
 | .ite t b o,st,q=>zF (G:=fun st=>dn X P cf wf n (.ite t b o) st nk) st q fun e sb so p q=>have⟨h1,h2,h3⟩:=jY q;GF (kH C CS SK nk t _ h1) (i7 C CS SK nk b _ h2) (i7 C CS SK nk o _ h3)
 | .while t b,st,q=>Dw (G:=fun st=>dn X P cf wf n (.while t b) st nk) st q fun e sb so p q=>fS (G:=fun so=>dn X P cf wf n (.while t b) (.While e sb so p) nk) so q fun q=>
  have q:=bM q;wW (kH C CS SK nk t _ q.1) (i7 C CS SK nk b _ q.2)
 | .for tg it b,st,q=>zG (G:=fun st=>dn X P cf wf n (.for tg it b) st nk) st q fun target iter sb so p q=>fS (G:=fun so=>dn X P cf wf n (.for tg it b) (.For target iter sb so p) nk) so q fun q=>
  have⟨h1,h2,h3,h4⟩:=kR q;Ed lY (bN h1) (CN C CS SK nk it _ h2) h3 (i7 C CS SK nk b _ h4)
 | .bad,st,q=>Ej
theorem i7(C:Ctx X P T)(CS:Snd X n cf)(SK:gP X P cf n T)(nk:NK):∀(l:List IS) (sts:List Stmt),mSs T nk l sts=true→i5 X P cf wf n l sts nk
 | [],sts,q=>fS (G:=fun sts=>i5 X P cf wf n [] sts nk) sts q fun _=>Eb
 | i::l,sts,q=>(orE q).elim (fun q=>by
   cases(by cases i<;>first | rfl | exact ff q:i=.bad);exact Ek) fun q=>
  kG (G:=fun sts=>i5 X P cf wf n (i::l) sts nk) sts q fun st sts q=>have q:=bM q;Am (xi C CS SK nk i _ q.1) (i7 C CS SK nk l _ q.2)
end
end Mine
end
section
open PySem PySem.W PySem.Calls PyProof.Rows
namespace Mine
section
variable {prog:Program} {w:World} {A:Around} {E:Value→Shared→Prop} {s:Shared}
theorem uX:typeLookup (.type "list") "keys"=pure none:=by rw[typeLookup_type,builtinLookup_eq_fast];kernel_rfl
theorem uY{a:Addr}{vs:Array Value}{m:Nat}{Q:Option Value→Shared→Prop}(hx:s.heap.get? a=some (aA vs m))(hA:A.handled=none)
  (h:∀h' tk,(∀b o,s.heap.get? b=some o→h'.get? b=some o)→Q none {s with heap:=h',toks:=tk}):wpAny (model prog w) A (getAttr? (.ref a) "keys") Q E s:=by
 obtain⟨hp,g,d,tk,os⟩:=s
 have hT:∀tk',(⟨hp,g,d,tk',os⟩:Shared).TypeIs (.ref a) "list":=fun _=>⟨_,hx,rfl⟩
 have f1:=sub_AttributeError
 have f3:=F.slot_list_getattribute.lookup
 have f4:=F.slot_list_getattribute.bind (.ref a)
 have f5:=am_list_getattr_none
 unfold getAttr? getAttrBy? getAttrBy
 repeat (any_goals (first | assumption | exact hT _ | ((with_reducible show wpAny _ _ (call (Value.builtin "list.__getattribute__") _ _) _ _ _);refine call_meets F.slot_list_getattribute (hT _) am_entry_list_getattribute (F.args_list_getattribute_2 _ _) (meets_getattribute_miss_list a vs m _ "keys" _ uX (by decide +kernel)) ⟨hx,hA,fun h' tk' e hx'=>?_⟩) | wp_step))
 obtain⟨t',u',he⟩:=hx'.there
 (try (show wpAny _ _ (getattributeRaised _ _ _ _ _ _ _) _ _ _))
 (try unfold getattributeRaised)
 repeat (any_goals (first | assumption | wp_step))
 all_goals (first | exact h _ _ hx'.keeps | skip)
end
variable {X:Cx} {A:Around} {n:Nat} {ad:List au} {S:aa} {s:Shared} {v:AV} {x:Value} {Q:Value→Shared→Prop} {h0:Heap}
theorem nR:entryFor table "dict.update.loop"=some Builtin.«dict.update.loop»:=entryFor_of_tree (by kernel_rfl)
theorem uZ{p:Nat×AV}(e:rP v=some p):v=.tup [.str p.1,p.2]:=
 rK (G:=fun v=>v=.tup [.str p.1,p.2]) e nN fun t e=>bu (G:=fun t=>AV.tup t=.tup [.str p.1,p.2]) e (fun e=>nomatch e) fun a t e=>rJ (G:=fun a=>AV.tup (a::t)=.tup [.str p.1,p.2]) e nN fun k e=>
  bu (G:=fun t=>AV.tup (.str k::t)=.tup [.str p.1,p.2]) e (fun e=>nomatch e) fun u t e=>bu (G:=fun t=>AV.tup (.str k::u::t)=.tup [.str p.1,p.2]) e (fun e=>by rw[←Option.some.inj e]) fun _ _ e=>nomatch e
theorem xj{p:Nat×AV}(e:rP v=some p)(r:VR X ad h0 v x):∃tp y t m,x=.ref tp∧h0.get? tp=some (bf [.str (sT p.1) t,y].toArray m)∧p.1 < nS∧VR X ad h0 p.2 y:=by
 rw[uZ e] at r
 exact VR.onTup (G:=fun x=>∃tp y t m,x=.ref tp∧h0.get? tp=some (bf [.str (sT p.1) t,y].toArray m)∧p.1 < nS∧VR X ad h0 p.2 y) r fun tp vs m g _ q=>VRs.on2 (G:=fun vs=>h0.get? tp=some (bf (List.toArray vs) m)→_) q
  (fun y1 y2 r1 r2=>VR.onStr (G:=fun y1=>h0.get? tp=some (bf [y1,y2].toArray m)→_) r1 fun t hc g=>⟨tp,y2,t,m,rfl,g,hc,r2⟩) g
noncomputable def GP(X:Cx)(A:Around)(ad:List au)(h0:Heap)(p D it:Addr)(vs:List Value)(R:Result→Shared→Prop)(l:List AV):Prop:=
 ∀(ps:List (Nat×AV)) (d:List (Nat×AV)) (xs:List Value) (k:Nat) (kvs:List (Str×Value)) (s:Shared),Mine.pairsOf l=some ps→VRs X ad h0 l xs→(∀i,vs[k + i]?=xs[i]?)→
  (∀b o,h0.get? b=some o→s.heap.get? b=some o)→DO X s.heap D kvs→VRd X ad h0 d kvs→s.heap.IsListIter it p k→d.length + l.length≤lim→
  (∀h' tk kvs',(∀b o,h0.get? b=some o→h'.get? b=some o)→DO X h' D kvs'→VRd X ad h0 (ps.foldl (fun d p=>dI p.1 p.2 d) d) kvs'→(ps.foldl (fun d p=>dI p.1 p.2 d) d).length≤lim→R (.ok (.ret .none)) {s with heap:=h',toks:=tk})→
  codeAny (MX X) A (.builtin "dict.update.loop" ⟨[.ref D,.ref it,rawInt k,.none],[]⟩) R s
theorem dul{R:Result→Shared→Prop}{p D it:Addr}{vs:List Value}{m:Nat}(hp:h0.get? p=some (aA vs.toArray m))(hD:h0.get? D=none)(hI:h0.get? it=none)(hne:it≠D)(hA:A.handled=none)(l:List AV):GP X A ad h0 p D it vs R l:=by
 have ne:∀{b c:Addr} {o:Obj},h0.get? c=none→h0.get? b=some o→b≠c:=fun z e q=>by rw[q,z] at e;exact nomatch e
 induction l with
 | nil=>
  intro ps d xs k kvs s hps r hv keep hd rd hi hl K
  rw[←(Option.some.inj hps:[]=ps)] at K
  have hx:xs=[]:=List.length_eq_zero_iff.mp r.length.symm
  refine codeAny_builtin nR ?_
  refine wpAny_bind (m:=pyNext (.ref it)) (wpAny_pyNext_list_end hA hi (bS (keep _ _ hp)) (by have:=hv 0;rw[hx] at this;simpa using this) fun h' eb=>?_)
  refine wpAny_bind (wpAny_pure ?_)
  obtain⟨o,es,ep,e,q⟩:=hd
  exact wpAny_pure (K h' s.toks kvs (fun b o e=>eb b o (ne hI e) (keep b o e)) ⟨o,es,ep,eb _ _ (fun z=>hne z.symm) e,q⟩ rd hl)
 | cons a l ih=>
  intro ps d xs k kvs s hps r hv keep hd rd hi hl K
  refine ah hps nN fun p1 h1 hps=>ah hps nN fun ps2 hp2 hps=>?_
  rw[←Option.some.inj hps] at K
  refine VRs.onCons (G:=fun xs=>(∀i,vs[k + i]?=xs[i]?)→codeAny (MX X) A (.builtin "dict.update.loop" ⟨[.ref D,.ref it,rawInt k,.none],[]⟩) R s) r (fun y ys ra rl hv=>?_) hv
  obtain⟨tp,y2,t,nt,rfl,g,hc,r2⟩:=xj h1 ra
  refine codeAny_builtin nR ?_
  refine wpAny_bind (m:=pyNext (.ref it)) (wpAny_pyNext_list_item hi (bS (keep _ _ hp)) (x:=.ref tp) (by rw[List.getElem?_toArray];exact hv 0) fun h1 g1 sb=>?_)
  have keep1:∀b o,h0.get? b=some o→h1.get? b=some o:=fun b o e=>(sb.2 b (ne hI e)).trans (keep b o e)
  have hd1:DO X h1 D kvs:=let⟨o,es,ep,e,q⟩:=hd;⟨o,es,ep,(sb.2 _ fun z=>hne z.symm).trans e,q⟩
  have gt:=keep1 _ _ g
  dsimp only
  refine wpAny_bind (wpAny_holding (wpAny_bind (wpAny_tryCatch ?_)))
  unfold Builtin.Dict.pairItems
  refine wpAny_bind (wpAny_typeOf (T:="tuple") ⟨_,gt,rfl⟩ ?_)
  rw[if_pos (by decide)]
  refine wpAny_bind (wpAny_seqItems gt rfl (wpAny_pure ?_))
  have hdl:d.length≤lim:=Nat.le_trans (Nat.le_add_right _ _) hl
  refine wpAny_holding (wpAny_dictSet_pairs (cU _ _) hd1 (fun h2 d2 sb2=>?_) (lE rd.length hdl))
  rw[eV _ _ _ hd1.nodup] at d2
  refine wpAny_pure ⟨Code.quiet_builtin _ (by decide +kernel),?_⟩
  refine ih ps2 (dI p1.1 p1.2 d) ys (k + 1) (lF (sT p1.1) y2 kvs) _ hp2 rl (fun i=>by have:=hv (i + 1);rw[Nat.add_assoc,Nat.add_comm 1];exact this) (fun b o e=>(sb2.2 b (ne hD e)).trans (keep1 b o e)) d2 (jv hc rd r2) (let⟨o,e,q⟩:=g1;⟨o,(sb2.2 _ hne).trans e,q⟩) ?_ K
  exact Nat.le_trans (Nat.add_le_add_right (lG _ _ _) _) (by rw[Nat.add_assoc,Nat.add_comm 1];exact hl)
theorem sx(hs:∀h,X.On h→sysModules < h.objs.size)(R:Rep X ad s.heap S)(ho:aQ A n){l:List AV}{ps:List (Nat×AV)}(e:bj v S=some l)(r:VR X ad s.heap v x)(hps:Mine.pairsOf l=some ps)
  (K:Ret X ad s (.ref S.length) (S++[.dict (ps.foldl (fun d p=>dI p.1 p.2 d) [])]) Q):wpAny (MX X) A (call (.type "dict") [x]) Q NoE s:=by
 obtain⟨p,vs,m,rfl,g,hl,q⟩:=bg R r e
 refine callType_codes (Q₁:=fun obj s₁=>obj=.ref s.heap.objs.size∧s₁={s with heap:=s.heap.push {cls:=.type "dict",data:=.dict #[]}}) F.kt_called_dict (F.kt_typeCall_dict_1 _) F.entry_dict_init (kt_code_dict_new _ ⟨rfl,rfl⟩) ?_
 rintro obj s₁ ⟨rfl,rfl⟩
 have hnew:(s.heap.push {cls:=.type "dict",data:=.dict #[]}).DictOf (PySem.strKind X.prog X.w) s.heap.objs.size []:=Heap.DictOf.new s.heap
 refine⟨hnew.typeIs,F.args_dict_init_2 _ _,?_⟩
 unfold Builtin.«dict.__init__»
 refine wpAny_bind ?_
 unfold Builtin.Dict.selfAndRest
 refine wpAny_bind (wpAny_notOrdered_dict hnew.typeIs ?_)
 show wpAny _ _ (pure (s.heap.objs.size,[Value.ref p])) _ _ _
 refine wpAny_pure ?_
 show wpAny _ _ (Builtin.Dict.updateFrom "dict.__init__" s.heap.objs.size (.ref p) [] .none) _ _ _
 unfold Builtin.Dict.updateFrom
 have g1:=ax {cls:=.type "dict",data:=.dict #[]} _ _ g
 refine wpAny_bind (wpAny_typeOf (T:="list") ⟨_,g1,rfl⟩ ?_)
 rw[if_pos (by decide)]
 refine wpAny_bind (uY g1 ho.handled fun h2 tk2 k2=>?_)
 rw[if_pos (show(none:Option Value).isNone=true from rfl)]
 refine wpAny_bind (wpAny_rule (wpAny_bind (wpAny_pyIter_list (bS (k2 _ _ g1)) ?_)))
 have hD0:=aJ (h:=s.heap)
 have hlt:s.heap.objs.size < h2.objs.size:=by
  obtain⟨o,es,ep,e,_⟩:=hnew
  exact Heap.lt_size (k2 _ _ e)
 refine wpAny_pure ⟨Code.quiet_builtin _ (by decide +kernel),?_⟩
 show codeAny (MX X) A.in1 (.builtin "dict.update.loop" ⟨[.ref s.heap.objs.size,.ref h2.objs.size,rawInt ((0:Nat):Int),.none],[]⟩) _ _
 refine dul (A:=A.in1) (h0:=s.heap) g hD0 (Heap.get?_none_of_le (Nat.le_of_lt hlt)) (Nat.ne_of_gt hlt) ho.handled l ps [] vs 0 [] _ hps q (fun i=>by rw[Nat.zero_add]) ?_ ?_ .nil ?_ (by rw[List.length_nil,Nat.zero_add];exact hl) fun h' tk kvs keep d' r' hl'=>?_
 ·exact fun b o e=>ax _ _ _ (k2 _ _ (ax _ _ _ e))
 ·obtain⟨o,es,ep,e,q⟩:=hnew
  exact⟨o,es,ep,ax _ _ _ (k2 _ _ e),q⟩
 ·exact⟨_,Heap.get?_push_size _ rfl,rfl,rfl⟩
 ·refine⟨rfl,K _ _ tk _ (ai.alloc R keep ⟨s.heap.objs.size,s.heap.objs.size⟩ hD0 hD0 _ (.dict rfl d' (Nat.ne_of_gt (hs _ R.base)) hl' (r'.grow keep hD0 hD0))) (dg R)⟩
end Mine
end
section
open PySem PySem.W PySem.Calls PyProof.Rows
open PySem.Spec
namespace Mine
theorem jZ(c:Nat):∀l:List Nat,(uD c l).Perm (c::l)
 | []=>.refl _
 | d::r=>by
  show List.Perm (am (Nat.ble c d) (c::d::r) (d::uD c r)) _
  cases Nat.ble c d with
  | true=>exact .refl _
  | false=>exact((jZ c r).cons d).trans (.swap c d r)
theorem qB(c:Nat):∀l:List Nat,l.Pairwise (·≤·)→(uD c l).Pairwise (·≤·)
 | [],_=>.cons (fun _ h=>(nomatch h)) .nil
 | d::r,h=>by
  have h:=List.pairwise_cons.mp h
  show List.Pairwise (·≤·) (am (Nat.ble c d) (c::d::r) (d::uD c r))
  cases e:Nat.ble c d with
  | true=>
   have cd:=Nat.le_of_ble_eq_true e
   exact .cons (fun x hx=>(List.mem_cons.mp hx).elim (fun z=>z▸cd) fun z=>Nat.le_trans cd (h.1 x z)) (List.pairwise_cons.mpr h)
  | false=>
   have dc:d≤c:=Nat.le_of_lt (Nat.lt_of_not_le fun q=>by rw[Nat.ble_eq_true_of_le q] at e;exact nomatch e)
   exact .cons (fun x hx=>(List.mem_cons.mp ((jZ c r).mem_iff.mp hx)).elim (fun z=>z▸dc) (h.1 x)) (qB c r h.2)
theorem eP:∀l:List Nat,(ku l).Perm l
 | []=>.refl _
 | c::r=>(jZ c _).trans ((eP r).cons c)
theorem nU:∀l:List Nat,(ku l).Pairwise (·≤·)
 | []=>.nil
 | c::r=>qB c _ (nU r)
noncomputable def pb:List (List Nat)→Bool
 | []=>true
 | [_]=>true
 | a::b::r=>ltCps a b&&pb (b::r)
theorem nV:∀l:List (List Nat),pb l=true→l.Pairwise (· < ·)
 | [],_=>.nil
 | [a],_=>.cons (fun _ h=>(nomatch h)) .nil
 | a::b::r,h=>by
  simp only[pb,Bool.and_eq_true,ltCps_eq,decide_eq_true_eq] at h
  have q:=nV (b::r) h.2
  exact .cons (fun x hx=>(List.mem_cons.mp hx).elim (fun z=>z▸h.1) fun z=>List.lt_trans h.1 ((List.pairwise_cons.mp q).1 x z)) q
theorem sy:pb (lz.map fun s=>s.cps.toList)=true:=by decide +kernel
theorem sA{c d:Nat}(hd:d < nS)(h:c < d):(sT c).cps.toList < (sT d).cps.toList:=by
 have hl:=jq
 have hc:c < nS:=Nat.lt_trans h hd
 have p:=List.pairwise_iff_getElem.mp (nV _ sy) c d (by rw[List.length_map,hl];exact hc) (by rw[List.length_map,hl];exact hd) h
 simp only[List.getElem_map] at p
 unfold sT
 rw[List.getD_eq_getElem?_getD,List.getD_eq_getElem?_getD,List.getElem?_eq_getElem (by rw[hl];exact hc),List.getElem?_eq_getElem (by rw[hl];exact hd)]
 exact p
noncomputable def sLe(a b:Str):Prop:=ltCps b.cps.toList a.cps.toList=false
theorem GQ{c d:Nat}(hd:d < nS)(h:c≤d):sLe (sT c) (sT d):=by
 unfold sLe
 rw[ltCps_eq,decide_eq_false_iff_not]
 rcases Nat.lt_or_eq_of_le h with h | rfl
 ·exact List.lt_asymm (sA hd h)
 ·exact List.lt_irrefl _
theorem xm{a b:Str}(h1:sLe a b)(h2:sLe b a):a=b:=by
 unfold sLe at h1 h2
 rw[ltCps_eq,decide_eq_false_iff_not] at h1 h2
 have:=List.le_antisymm (List.not_lt.mp h1) (List.not_lt.mp h2)
 cases a;cases b
 simp only[Str.mk.injEq] at this ⊢
 exact(Array.toList_inj.mp this)
theorem u5{a b c:Str}(h1:sLe a b)(h2:sLe b c):sLe a c:=by
 unfold sLe at *
 rw[ltCps_eq,decide_eq_false_iff_not] at *
 exact List.not_lt.mpr (List.le_trans (List.not_lt.mp h1) (List.not_lt.mp h2))
theorem nW:∀(p:Str) (l:List Str),risingS p l=true→(p::l).Pairwise sLe
 | p,[],_=>.cons (fun _ h=>(nomatch h)) .nil
 | p,x::r,h=>by
  change(!ltCps x.cps.toList p.cps.toList&&risingS x r)=true at h
  simp only[Bool.and_eq_true,Bool.not_eq_true'] at h
  have q:=nW x r h.2
  exact .cons (fun y hy=>(List.mem_cons.mp hy).elim (fun z=>z▸h.1) fun z=>u5 h.1 ((List.pairwise_cons.mp q).1 y z)) q
theorem u6:∀(l:List Str),sortedS l=true→l.Pairwise sLe
 | [],_=>.nil
 | x::r,h=>nW x r h
theorem nX:∀{a b:List Str},a.Perm b→a.Pairwise sLe→b.Pairwise sLe→a=b
 | [],_,p,_,_=>p.nil_eq
 | x::r,b,p,ha,hb=>by
  cases b with
  | nil=>exact absurd p.length_eq (by simp)
  | cons y t=>
   have hx:x∈y::t:=p.mem_iff.mp (.head _)
   have hy:y∈x::r:=p.mem_iff.mpr (.head _)
   have e:x=y:=by
    rcases List.mem_cons.mp hx with h | h
    ·exact h
    ·rcases List.mem_cons.mp hy with h' | h'
     ·exact h'.symm
     ·exact xm ((List.pairwise_cons.mp ha).1 y h') ((List.pairwise_cons.mp hb).1 x h)
   subst e
   rw[nX (List.Perm.cons_inv p) (List.pairwise_cons.mp ha).2 (List.pairwise_cons.mp hb).2]
theorem sB{cs:List Nat}{ss':List Str}(hb:∀c∈cs,c < nS)(hp:ss'.Perm (cs.map sT))(hs:sortedS ss'=true):ss'=(ku cs).map sT:=by
 refine nX (hp.trans ((eP cs).map sT).symm) (u6 _ hs) ?_
 rw[List.pairwise_map]
 exact(nU cs).imp_of_mem fun {a b} _ hb' h=>GQ (hb b ((eP cs).mem_iff.mp hb')) h
section
variable {prog:Program} {w:World} {A:Around} {E:Value→Shared→Prop} {s:Shared} {K:Type} [DecidableEq K] {knd:KeyKind prog w K}
theorem u7{R:Result→Shared→Prop}{D d:Addr}{kvs:List (K×Value)}{ep:Nat}(lo:(d==sysModules)=false)(hm:s.heap.DictAt knd d kvs ep)(hh:A.handled=none)(hn:kvs.length≤sizeLine)(hD:D≠d)(hS:s.heap.get? D=some {cls:=.type "list",data:=.seq #[] 0})
  (hR:∀h' tk acc' c',(∀b o,b≠D→s.heap.get? b=some o→h'.get? b=some o)→h'.get? D=some {cls:=.type "list",dict:=none,data:=.seq acc' c',slots:=#[]}→ItemsOf (fun i v=>∃k x,kvs[i]?=some (k,x)∧knd.is k v=true) acc' kvs.length→R (.ok (.ret (.ref D))) {s with heap:=h',toks:=tk}):
  codeAny (model prog w) A (.builtin "list.__iadd__" ⟨[.ref D,.ref d],[]⟩) R s:=by
 refine codeAny_builtin entry_list_iadd' ?_
 rw[Around.under_plainId F.plain_list_iadd _]
 show wpAny _ _ (Builtin.List.listExtendWith (.ref D) (.ref d) (.ref D)) _ _ _
 exact kdl_extend (kdl_dict (knd:=knd) (kvs:=kvs) (ep:=ep) lo) hh hm D hD hD (.ref D) 0 hS hR hn
theorem pd{d:Addr}{kvs:List (K×Value)}{ep:Nat}{Q:List Value→Shared→Prop}(lo:(d==sysModules)=false)(hm:s.heap.DictAt knd d kvs ep)(hh:A.handled=none)(hn:kvs.length≤sizeLine)
  (h:∀h' tk vs,(∀b o,s.heap.get? b=some o→h'.get? b=some o)→vs.length=kvs.length→(∀(j:Nat) v,vs[j]?=some v→∃k x,kvs[j]?=some (k,x)∧knd.is k v=true)→Q vs {s with heap:=h',toks:=tk}):
  wpAny (model prog w) A (collect (.ref d)) Q E s:=by
 unfold collect
 refine wpAny_bind (wpAny_runValue (codeAny_builtin entry_proto_collect' ?_))
 show wpAny _ _ (do again (.builtin "list.__iadd__" ⟨[←PySem.newList [],.ref d],[]⟩)) _ _ s
 have hlt:=hm.lt_size
 refine wpAny_bind (wpAny_newList (wpAny_pure ⟨Code.quiet_builtin _ (by decide +kernel),u7 (s:={s with heap:=s.heap.push (seqObj "list" #[] 0)}) lo (hm.push _) hh hn (Nat.ne_of_gt hlt) (Heap.get?_push_size _ rfl) fun h' tk acc c k g it=>?_⟩))
 show wpAny (model prog w) A (do
   let o ←load s.heap.objs.size
   match o.data with
   | .seq xs _=>pure xs.toList
   | _=>unsupported "internal:collect") Q E _
 refine wpAny_bind (wpAny_load g (wpAny_pure (h h' tk acc.toList (fun b o e=>k b o (Nat.ne_of_lt (Heap.lt_size e)) (Heap.get?_push_of_some _ e)) (by rw[Array.length_toList];exact it.1) fun j v e=>it.2 j v (by rw[←Array.getElem?_toList];exact e))))
end
variable {X:Cx} {A:Around} {n:Nat} {ad:List au} {S:aa} {s:Shared} {v:AV} {x:Value} {Q:Value→Shared→Prop}
theorem l9:∀{vs:List Value} {kvs:List (Str×Value)},vs.length=kvs.length→(∀(j:Nat) v,vs[j]?=some v→∃k x,kvs[j]?=some (k,x)∧(PySem.strKind X.prog X.w).is k v=true)→StrsAre vs (kvs.map (·.1))
 | [],[],_,_=>.nil
 | [],_::_,h,_=>by simp at h
 | _::_,[],h,_=>by simp at h
 | v::vs,(k,y)::kvs,h,q=>by
  obtain⟨k',x',e,z⟩:=q 0 v rfl
  simp only[List.getElem?_cons_zero,Option.some.injEq,Prod.mk.injEq] at e
  obtain⟨rfl,rfl⟩:=e
  obtain⟨t,rfl⟩:=Value.isStrOf_shape z
  exact .cons _ _ (l9 (by simpa using h) fun j u hu=>by simpa using q (j + 1) u (by simpa using hu))
theorem qC{h:Heap}:∀{vs:List Value} {cs:List Nat},StrsAre vs (cs.map sT)→(∀c∈cs,c < nS)→VRs X ad h (cs.map .str) vs
 | vs,[],hs,_=>by
  generalize hq:([]:List Nat).map sT=q at hs
  cases hs with
  | nil=>exact .nil
  | cons _ _ _=>cases hq
 | vs,c::cs,hs,hb=>by
  generalize hq:(c::cs).map sT=q at hs
  cases hs with
  | nil=>cases hq
  | cons x t r=>
   cases hq
   exact .cons (.str _ _ (hb c List.mem_cons_self)) (qC r fun d hd=>hb d (List.mem_cons_of_mem _ hd))
theorem ma{h:Heap}:∀{l:List (Nat×AV)} {kvs:List (Str×Value)},VRd X ad h l kvs→kvs.map (·.1)=(l.map (·.1)).map sT∧∀c∈l.map (·.1),c < nS
 | _,_,.nil=>⟨rfl,fun _ h=>(nomatch h)⟩
 | _,_,.cons q _ r=>⟨by simp[(ma r).1],fun c hc=>(List.mem_cons.mp hc).elim (fun z=>z▸q) ((ma r).2 c)⟩
theorem qD(R:Rep X ad s.heap S)(ho:aQ A n){l:List (Nat×AV)}{p:Addr}{kvs:List (Str×Value)}(d:DO X s.heap p kvs)(lo:(p==sysModules)=false)(hl:l.length≤60)(q:VRd X ad s.heap l kvs)
  (K:Ret X ad s (.ref S.length) (S++[.list ((ku (l.map (·.1))).map .str)]) Q):wpAny (MX X) A (call (.builtin "sorted") [.ref p]) Q NoE s:=by
 have L:lim=1000:=rfl
 have Z:1000≤sizeLine:=by decide
 have hw:=q.length
 obtain⟨ep,hm⟩:=Heap.DictOf.dictAt d
 refine Calls.call_function_entry kind_sorted plain_sorted entry_sorted (args_sorted1 _) ?_
 unfold Builtin.«sorted»
 refine wpAny_bind (m:=checkCount "sorted" 1 1 _) (wpAny_pure ?_)
 refine wpAny_bind (pd lo hm ho.handled (by omega) fun h1 tk1 vs k1 hlen hvs=>?_)
 have SA:=l9 hlen hvs
 refine wpAny_bind (wpAny_newList ?_)
 have hoL:=Heap.get?_push_size h1 (o:=seqObj "list" vs.toArray 0) rfl
 refine wpAny_bind (wpAny_holding (wpAny_call_entry slot_list_sort ⟨_,hoL,rfl⟩ entry_list_sort (list_sort_treeK strKind_oneLt hoL SA.keysOf (fun v₁ v₂ rest e=>keyKind_strs (by rw[←e];exact SA)) (by omega) fun st' hp hs=>⟨_,rfl,?_⟩) (args_list_sort _)))
 obtain⟨ss',b1,b2,b3⟩:=sorted_out_str SA hp hs
 obtain⟨hk,hb⟩:=ma q
 rw[hk] at b2
 rw[sB hb b2 b3] at b1
 obtain⟨e,he⟩:=sortedHeap_at (vs:=vs) (out:=(arrOf st').map (·.2)) hoL
 have hb2:∀c∈ku (l.map (·.1)),c < nS:=fun c hc=>hb c ((eP _).mem_iff.mp hc)
 have hD0:s.heap.get? h1.objs.size=none:=by
  cases e:s.heap.get? h1.objs.size with
  | none=>rfl
  | some o=>exact absurd (Heap.lt_size (k1 _ _ e)) (Nat.lt_irrefl _)
 have keep:∀b o,s.heap.get? b=some o→(sortedHeap (h1.push (seqObj "list" vs.toArray 0)) h1.objs.size vs ((arrOf st').map (·.2))).get? b=some o:=fun b o e=>by
  have hlt:=Heap.lt_size (k1 _ _ e)
  rw[sortedHeap_old (Nat.ne_of_lt hlt) (by rw[Heap.size_push];exact Nat.lt_succ_of_lt hlt)]
  exact Heap.get?_push_of_some _ (k1 _ _ e)
 have he':(sortedHeap (h1.push (seqObj "list" vs.toArray 0)) h1.objs.size vs ((arrOf st').map (·.2))).get? h1.objs.size=some (aA ((arrOf st').map (·.2)).toList.toArray e):=by rw[Array.toArray_toList];exact he
 refine wpAny_pure ⟨_,rfl,K _ _ tk1 _ (ai.alloc R keep ⟨h1.objs.size,h1.objs.size⟩ hD0 hD0 _ (.list rfl he' (by rw[List.length_map,(eP _).length_eq,List.length_map];omega) (qC b1 hb2))) (dg R)⟩
theorem I7(hs:∀h,X.On h→sysModules < h.objs.size):uI X:=⟨hs,fun R ho e r hp K=>sx hs R ho e r hp K,fun R ho d lo hl q K=>qD R ho d lo hl q K⟩
end Mine
end
section
open PySem PySem.W PySem.Calls PyProof.Rows
open PySem.Spec
namespace Mine
variable {X:Cx} {P:Pg} {at_:List Nat} {A:Around} {n wf:Nat} {cf:CF} {ex ex':Addr→Prop} {ad ad' ad1:List au} {h h' h1:Heap} {S S' S1 S2:aa} {s:Shared} {v a b:AV} {x y:Value} {Q:Value→Shared→Prop}
theorem aQ.in1(ho:aQ A (n + 1)):aQ A.in1.in1 n:=by
 have h1:=ho.depth
 have h2:=ho.units
 exact⟨by show A.depth + 2 * n + 4≤_;omega,by show A.units + 1 + 1 + 20 * n + 300≤_;omega,ho.handled⟩
theorem nY{vs:Array Value}{m:Nat}{L:Addr}(g:h.get? L=some (aA vs m)):∀o,h.get? L=some o→¬kO o:=fun o e=>by
 rw[g] at e;cases e
 rintro ⟨vs,n,q⟩;simp at q
theorem ai.under{h0:Heap}(T:ai X ex ad h ad' S' h')(k0:∀b o,h0.get? b=some o→h.get? b=some o)(fr:∀b,ex b→h0.get? b=none):ai X noX ad h0 ad' S' h':=by
 have nx:∀b o,h0.get? b=some o→¬ex b:=fun b o e q=>by rw[fr b q] at e;cases e
 have no:∀b,h.get? b=none→h0.get? b=none:=fun b e=>by
  cases q:h0.get? b with
  | none=>rfl
  | some o=>rw[k0 b o q] at e;cases e
 exact⟨T.rep,T.pre,T.le,fun b o e f _=>T.ext b o (k0 b o e) f (nx b o e),fun b o e f q=>T.seq b o (k0 b o e) f q,fun b o e _=>T.there b o (k0 b o e) (nx b o e),fun i c q e=>⟨⟨no _ (T.fresh i c q e).1.1,no _ (T.fresh i c q e).1.2⟩,id,id⟩⟩
theorem mc{B:Around}{k:Addr}{ks:List Value}{m:Nat}{h0:Heap}{ad0:List au}{Q:Unit→Shared→Prop}(T:ai X ex ad0 h0 ad S s.heap)(oK:Off ad0 k)(nB:X.B k=none)(hx:ex k)(g:s.heap.get? k=some (aA ks.toArray m))(gk:Off ad k)(f:Array Value→Array Value)
  (hs:ks.length≤3)(hf:(f ks.toArray).size≤3)(there:∀b,ex b→∃o,s.heap.get? b=some o)
  (K:∀h' m',ai X ex ad0 h0 ad S h'→h'.get? k=some (aA (f ks.toArray) m')→Heap.SameBut k s.heap h'→Q () {s with heap:=h'}):wpAny (MX X) B (Builtin.List.listUpdate (.ref k) f) Q NoE s:=by
 have Z:1000≤sizeLine:=by decide
 have sb:=Heap.SameBut.update s.heap k (Obj.mapSeq f)
 obtain⟨m',g'⟩:∃m',(s.heap.update k (Obj.mapSeq f)).get? k=some (aA (f ks.toArray) m'):=⟨_,get?_update_seq g f⟩
 refine listUpdate_at g rfl (K _ m' (T.trans (ai.write T.rep gk nB (nY g) (fun b o e ne=>(sb.2 b ne).trans e) hx)) g' sb) (by rw[List.size_toArray];omega) (by omega)
theorem sC(C:Snd X n cf)(ho:aQ A (n + 1))(R:Rep X ad s.heap S){f ca cb m:Nat}{p:Addr}{x1 x2:Value}(g:s.heap.get? p=some (aA [x1,x2].toArray m))(ra:VR X ad s.heap a x1)(rb:VR X ad s.heap b x2)
  (e1:cf f [a] S=some (.str ca,S1))(e2:cf f [b] S1=some (.str cb,S2)){r:List AV}(hr:(ca < cb∧r=[a,b])∨(cb < ca∧r=[b,a]))(K:Ret X ad s (.ref S2.length) (S2++[.list r]) Q):
  wpAny (MX X) A (call (.builtin "sorted") [.ref p] [(Str.ofString "key",.ref (X.fa f))]) Q NoE s:=by
 have Z:1000≤sizeLine:=by decide
 refine call_function_entry_kw kind_sorted plain_sorted entry_sorted (ksk_s1 _ _) ?_
 unfold Builtin.«sorted»
 refine wpAny_bind (m:=checkCount "sorted" 1 1 _) (wpAny_pure ?_)
 refine wpAny_bind (collect_list (bS g) ?_ (by simp;omega))
 refine wpAny_bind (wpAny_newList ?_ (by simp;omega))
 have hsz:((s.heap.push (seqObj "list" #[] 0)).update s.heap.objs.size (Obj.mapSeq (·++[x1,x2].toArray))).objs.size=s.heap.objs.size + 1:=by rw[Heap.size_update,size_push']
 show wpAny _ _ _ _ _ {s with heap:=((s.heap.push (seqObj "list" #[] 0)).update s.heap.objs.size (Obj.mapSeq (·++[x1,x2].toArray))).push (seqObj "list" [x1,x2].toArray 0)}
 have keep:∀b o,s.heap.get? b=some o→(((s.heap.push (seqObj "list" #[] 0)).update s.heap.objs.size (Obj.mapSeq (·++[x1,x2].toArray))).push (seqObj "list" [x1,x2].toArray 0)).get? b=some o:=fun b o q=>by
  have hlt:b < s.heap.objs.size:=Heap.lt_size q
  rw[Heap.get?_push_ne _ _ _ (by rw[hsz];exact Nat.ne_of_lt (Nat.lt_succ_of_lt hlt)),Heap.get?_update_ne _ _ _ _ (Nat.ne_of_lt hlt),Heap.get?_push_ne _ _ _ (Nat.ne_of_lt hlt)]
  exact q
 have hoL:(((s.heap.push (seqObj "list" #[] 0)).update s.heap.objs.size (Obj.mapSeq (·++[x1,x2].toArray))).push (seqObj "list" [x1,x2].toArray 0)).get? ((s.heap.push (seqObj "list" #[] 0)).update s.heap.objs.size (Obj.mapSeq (·++[x1,x2].toArray))).objs.size=some (seqObj "list" [x1,x2].toArray 0):=Heap.get?_push_size _ rfl
 have hla:s.heap.objs.size < ((s.heap.push (seqObj "list" #[] 0)).update s.heap.objs.size (Obj.mapSeq (·++[x1,x2].toArray))).objs.size:=by rw[hsz];exact Nat.lt_succ_self _
 generalize ((s.heap.push (seqObj "list" #[] 0)).update s.heap.objs.size (Obj.mapSeq (·++[x1,x2].toArray))).objs.size=D at hoL hla ⊢
 generalize (((s.heap.push (seqObj "list" #[] 0)).update s.heap.objs.size (Obj.mapSeq (·++[x1,x2].toArray))).push (seqObj "list" [x1,x2].toArray 0))=hB at hoL keep ⊢
 have frD:s.heap.get? D=none:=Heap.get?_none_of_le (Nat.le_of_lt hla)
 refine wpAny_bind (wpAny_holding (wpAny_call_entry_kw slot_list_sort ⟨_,hoL,rfl⟩ entry_list_sort ?body (ksk_l1 _ _)))
 rw[ksk_t1]
 unfold ksk_tree
 refine wpAny_bind (listItems_at hoL rfl ?_)
 refine wpAny_bind (listUpdate_at hoL rfl ?_ (by simp;omega) (by simp))
 obtain⟨mD,gD⟩:∃m',(hB.update D (Obj.mapSeq fun _=>#[])).get? D=some (aA #[] m'):=⟨_,get?_update_seq hoL _⟩
 have sbD:=Heap.SameBut.update hB D (Obj.mapSeq fun _=>(#[]:Array Value))
 have keepC:∀b o,s.heap.get? b=some o→(hB.update D (Obj.mapSeq fun _=>(#[]:Array Value))).get? b=some o:=fun b o e=>(sbD.2 b fun q=>by rw[q,frD] at e;cases e).trans (keep b o e)
 refine wpAny_bind (seqEpoch_at gD rfl ?_)
 refine wpAny_bind (wpAny_newTuple ?_ (by simp;omega))
 refine wpAny_bind (wpAny_newList ?_ (Nat.zero_le _))
 refine wpAny_holding ?_
 show wpAny _ _ _ _ _ {s with heap:=((hB.update D (Obj.mapSeq fun _=>(#[]:Array Value))).push (seqObj "tuple" [x1,x2].toArray 0)).push (aA ([]:List Value).toArray 0)}
 have gK:(((hB.update D (Obj.mapSeq fun _=>(#[]:Array Value))).push (seqObj "tuple" [x1,x2].toArray 0)).push (aA ([]:List Value).toArray 0)).get? ((hB.update D (Obj.mapSeq fun _=>(#[]:Array Value))).push (seqObj "tuple" [x1,x2].toArray 0)).objs.size=some (aA ([]:List Value).toArray 0):=Heap.get?_push_size _ rfl
 have gD1:=Heap.get?_push_of_some (aA ([]:List Value).toArray 0) (Heap.get?_push_of_some (seqObj "tuple" [x1,x2].toArray 0) gD)
 have keepE:∀b o,s.heap.get? b=some o→(((hB.update D (Obj.mapSeq fun _=>(#[]:Array Value))).push (seqObj "tuple" [x1,x2].toArray 0)).push (aA ([]:List Value).toArray 0)).get? b=some o:=fun b o e=>Heap.get?_push_of_some _ (Heap.get?_push_of_some _ (keepC b o e))
 have hDk:D < ((hB.update D (Obj.mapSeq fun _=>(#[]:Array Value))).push (seqObj "tuple" [x1,x2].toArray 0)).objs.size:=Heap.lt_size (Heap.get?_push_of_some (seqObj "tuple" [x1,x2].toArray 0) gD)
 generalize ((hB.update D (Obj.mapSeq fun _=>(#[]:Array Value))).push (seqObj "tuple" [x1,x2].toArray 0)).objs.size=k at gK hDk ⊢
 generalize ((hB.update D (Obj.mapSeq fun _=>(#[]:Array Value))).push (seqObj "tuple" [x1,x2].toArray 0)).push (aA ([]:List Value).toArray 0)=hE at gK gD1 keepE ⊢
 have frK:s.heap.get? k=none:=Heap.get?_none_of_le (Nat.le_of_lt (Nat.lt_trans hla hDk))
 have fresh:∀b,s.heap.get? b=none→Off ad b∧X.B b=none:=fun b hb=>⟨fun c hc=>by
   obtain⟨i,hi,rfl⟩:=List.getElem_of_mem hc
   obtain⟨⟨o1,e1⟩,o2,e2⟩:=R.cell_there (List.getElem?_eq_getElem hi)
   exact⟨fun q=>(by rw[←q,hb] at e1;cases e1),fun q=>(by rw[←q,hb] at e2;cases e2)⟩,by
  cases e:X.B b with
  | none=>rfl
  | some o=>have:=R.base _ _ e;rw[hb] at this;cases this⟩
 have oD:=fresh D frD
 have oK:=fresh k frK
 have T0:ai X noX ad s.heap ad S hE:=ai.same R keepE
 unfold ksk_rest
 refine wpAny_bind (wpAny_rule ?_)
 rw[List.forIn_toArray]
 simp only[List.forIn_cons,List.forIn_nil]
 have hr1:aQ A.in1.in1 n:=ho.in1
 refine wpAny_bind (wpAny_bind (wpAny_bind (wpAny_attempt (wpAny_mono (C f [a] S _ S1 e1 A.in1.in1 ad {s with heap:=hE} [x1] _ hr1 T0.rep (.cons (ra.step R T0) .nil) fun ad1 h1 tk1 y1 T1 r1=>?_) (fun _ _ z=>z) fun _ _ z=>z.elim))))
 cases r1 with
 | str _ t1 hca=>
 have gK1:=T1.ext _ _ gK oK.1 id
 have gD2:=T1.ext _ _ gD1 oD.1 id
 have T01:ai X (fun b=>b=k) ad hE ad1 S1 h1:=T1.of0 fun b q=>q▸⟨_,gK⟩
 refine wpAny_bind (mc (s:={s with heap:=h1,toks:=tk1}) (ks:=[]) T01 oK.1 oK.2 rfl gK1 (T1.off gK oK.1) _ (by simp) (by simp) (fun b q=>q▸⟨_,gK1⟩) fun h2 m2 T2 gK2 sb2=>?_)
 refine wpAny_pure ?_
 dsimp only
 have rb2:VR X ad1 h2 b x2:=(rb.step R T0).step T0.rep T2
 have gD3:h2.get? D=some (aA #[] mD):=(sb2.2 D (Nat.ne_of_lt hDk)).trans gD2
 have oK2:=T2.off gK oK.1
 have oD2:=T2.off gD1 oD.1
 refine wpAny_bind (wpAny_bind (wpAny_attempt (wpAny_mono (C f [b] S1 _ S2 e2 A.in1.in1 ad1 {s with heap:=h2,toks:=tk1} [x2] _ hr1 T2.rep (.cons rb2 .nil) fun ad2 h3 tk3 y2 T3 r2=>?_) (fun _ _ z=>z) fun _ _ z=>z.elim)))
 cases r2 with
 | str _ t2 hcb=>
 have gK3:=T3.ext _ _ gK2 oK2 id
 have gD4:=T3.ext _ _ gD3 oD2 id
 have T03:ai X (fun b=>b=k) ad hE ad2 S2 h3:=T2.trans (T3.of0 fun b q=>q▸⟨_,gK2⟩)
 have gK3':h3.get? k=some (aA [Value.str (sT ca) t1].toArray m2):=gK3
 refine wpAny_bind (mc (s:={s with heap:=h3,toks:=tk3}) (ks:=[.str (sT ca) t1]) T03 oK.1 oK.2 rfl gK3' (T3.off gK2 oK2) _ (by simp) (by simp) (fun b q=>q▸⟨_,gK3⟩) fun h4 m4 T4 gK4 sb4=>?_)
 refine wpAny_pure ?_
 dsimp only
 refine wpAny_pure ?_
 have gD5:h4.get? D=some (aA #[] mD):=(sb4.2 D (Nat.ne_of_lt hDk)).trans gD4
 have gK4':h4.get? k=some (aA [Value.str (sT ca) t1,Value.str (sT cb) t2].toArray m4):=gK4
 refine wpAny_bind (listItems_at gK4' rfl ?_)
 unfold ksk_end
 dsimp only
 rw[if_neg Bool.false_ne_true,if_neg (by simp)]
 rw[keyKind_strs (.cons _ _ (.cons _ _ .nil))]
 refine wpAny_bind (wpAny_pure ?_)
 have hz:([Value.str (sT ca) t1,Value.str (sT cb) t2].toArray.zip [x1,x2].toArray).toList=[(Value.str (sT ca) t1,x1),(Value.str (sT cb) t2,x2)]:=by simp
 rw[if_neg (by simp),if_neg Bool.false_ne_true]
 refine wpAny_bind (wpAny_mono (wpS_sortRunsK (κ:=PyProof.Rows.strKind) strKind_oneLt (a₀:=[Value.str (sT ca) t1,Value.str (sT cb) t2].toArray.zip [x1,x2].toArray) (st:=SortSt.mk' oneType' ([Value.str (sT ca) t1,Value.str (sT cb) t2].toArray.zip [x1,x2].toArray) #[] 7 none)
   (Q:=fun _ st'=>(arrOf st').Perm ([Value.str (sT ca) t1,Value.str (sT cb) t2].toArray.zip [x1,x2].toArray)∧failedOf st'=none∧SortedToK PyProof.Rows.strKind (arrOf st') ([Value.str (sT ca) t1,Value.str (sT cb) t2].toArray.zip [x1,x2].toArray).size)
   (fun p hp=>by
    rw[hz] at hp
    simp only[List.mem_cons,List.not_mem_nil,or_false] at hp
    rcases hp with rfl | rfl
    ·exact⟨(sT ca).cps.toList,rfl⟩
    ·exact⟨(sT cb).cps.toList,rfl⟩) ⟨Array.Perm.refl _,rfl,rfl,rfl⟩ (by simp) (by simp) fun st' a1 a2 a3=>⟨a1,a2,a3⟩) ?_ fun _ _ e=>e)
 rintro ⟨⟨⟩,st'⟩ s' ⟨rfl,hp,hf,hs⟩
 have ra4:VR X ad2 h4 a x1:=(ra.step R T0).step T0.rep T4
 have rb4:VR X ad2 h4 b x2:=(rb.step R T0).step T0.rep T4
 obtain⟨ys,hys,hl2,rys⟩:∃ys:List Value,(arrOf st').map (·.2)=ys.toArray∧ys.length=2∧VRs X ad2 h4 r ys:=by
  have hp2:(arrOf st').toList.Perm [(Value.str (sT ca) t1,x1),(Value.str (sT cb) t2,x2)]:=hz▸Array.perm_iff_toList_perm.mp hp
  have h01:=hs 0 1 (Nat.zero_le _) (by simp)
  rcases ksk_perm2 hp2 with q | q
  ·have q2:arrOf st'=[(Value.str (sT ca) t1,x1),(Value.str (sT cb) t2,x2)].toArray:=Array.toList_inj.mp q
   rw[q2] at h01 ⊢
   change decide ((sT cb).cps.toList < (sT ca).cps.toList)=false at h01
   rcases hr with⟨_,rfl⟩ | ⟨lt,_⟩
   ·exact⟨[x1,x2],by simp,rfl,.cons ra4 (.cons rb4 .nil)⟩
   ·exact absurd (sA hca lt) (by simpa using h01)
  ·have q2:arrOf st'=[(Value.str (sT cb) t2,x2),(Value.str (sT ca) t1,x1)].toArray:=Array.toList_inj.mp q
   rw[q2] at h01 ⊢
   change decide ((sT ca).cps.toList < (sT cb).cps.toList)=false at h01
   rcases hr with⟨lt,_⟩ | ⟨_,rfl⟩
   ·exact absurd (sA hcb lt) (by simpa using h01)
   ·exact⟨[x2,x1],by simp,rfl,.cons rb4 (.cons ra4 .nil)⟩
 unfold ksk_tail
 dsimp only
 refine wpAny_bind (mc (s:={s with heap:=h4,toks:=tk3}) (ks:=[.str (sT ca) t1,.str (sT cb) t2]) T4 oK.1 oK.2 rfl gK4' (T4.off gK oK.1) (fun _=>#[]) (by simp) (by simp) (fun b q=>q▸⟨_,gK4⟩) fun h5 m5 T5 gK5 sb5=>?_)
 refine wpAny_bind (wpAny_letGo ?_)
 have gD6:h5.get? D=some (aA #[] mD):=(sb5.2 D (Nat.ne_of_lt hDk)).trans gD5
 refine wpAny_bind (seqEpoch_at gD6 rfl ?_)
 rw[if_neg Bool.false_ne_true,hys]
 refine wpAny_bind (listUpdate_at gD6 rfl ?_ (by simp) (by rw[List.size_toArray];omega))
 rw[hf]
 simp only[bne_self_eq_false,Bool.false_eq_true,if_false]
 have sb6:=Heap.SameBut.update h5 D (Obj.mapSeq fun _=>ys.toArray)
 obtain⟨m6,gD7⟩:∃m',(h5.update D (Obj.mapSeq fun _=>ys.toArray)).get? D=some (aA ys.toArray m'):=⟨_,get?_update_seq gD6 _⟩
 have T05:ai X noX ad s.heap ad2 S2 h5:=T5.under keepE fun b hb=>hb▸frK
 have ne7:∀b o,h5.get? b=some o→b≠D→(h5.update D (Obj.mapSeq fun _=>ys.toArray)).get? b=some o:=fun b o e ne=>(sb6.2 b ne).trans e
 have oD5:Off ad2 D:=T5.off gD1 oD.1
 have T6:=T05.adopt frD oD5 oD.2 (nY gD6) ne7 (o:=.list r) (.list rfl gD7 (by rcases hr with⟨_,rfl⟩ | ⟨_,rfl⟩<;>exact Nat.le_of_ble_eq_true rfl) ((rys.move (fun b vs n e=>(sb5.2 b fun q=>by rw[q,gK4] at e;simp at e).trans e |> fun e=>ne7 b _ e fun q=>by rw[q,gD6] at e;simp at e) eK)))
 refine wpAny_pure ⟨_,rfl,?_⟩
 exact wpAny_pure ⟨_,rfl,K _ _ tk3 _ T6 (dg (c:=⟨D,D⟩) T05.rep)⟩
variable {T:Tb}
theorem sortK(G:cD X P T.at_)(N:hM X P T.fnm T.cnm T.bnm T.rng T.zp T.sor)(fo:∀f,T.fo f=true→X.mg (sT (T.fnm f))=some (.ref (X.fa f)))(hs:T.sor=T.bnm .sorted)(C:Snd X n cf):gP X P cf n T:=by
 intro wf nk i f e1 np np2 kp pos hf q qs qf H A ad s S loc env ex v S' Q ho R F Z e K
 obtain⟨u,S1,eu,e⟩:=ao e
 refine ah e nN fun l hl e=>?_
 refine bu (G:=fun l=>bj u S1=some l→wpAny (MX X) A (eval (.Call (.Name (sT T.sor) np) [e1] [⟨some ("key":Str),.Name (sT (T.fnm f)) np2,kp⟩] pos) env) Q NoE s) e (fun e=>nomatch e) (fun a t e=>bu (G:=fun t=>bj u S1=some (a::t)→wpAny (MX X) A (eval (.Call (.Name (sT T.sor) np) [e1] [⟨some ("key":Str),.Name (sT (T.fnm f)) np2,kp⟩] pos) env) Q NoE s) e (fun e=>nomatch e)
  fun b t e=>bu (G:=fun t=>bj u S1=some (a::b::t)→wpAny (MX X) A (eval (.Call (.Name (sT T.sor) np) [e1] [⟨some ("key":Str),.Name (sT (T.fnm f)) np2,kp⟩] pos) env) Q NoE s) e (fun e hl=>?_) fun _ _ e=>nomatch e) hl
 refine fJ e fun ka S2 ea e=>fJ e fun kb S3 eb e=>iU e nN fun ca hka e=>iU e nN fun cb hkb e=>?_
 rw[hka] at ea;rw[hkb] at eb
 obtain⟨r,hr,e⟩:∃r,((ca < cb∧r=[a,b])∨(cb < ca∧r=[b,a]))∧newList r S3=some (v,S'):=aE e (fun z e=>⟨_,.inr ⟨cK z,rfl⟩,e⟩) fun _ e=>aC e nN fun z e=>⟨_,.inl ⟨cK z,rfl⟩,e⟩
 have K:=K.of (aR.symm.trans e)
 refine wpAny_Call_Name_kw (cE G R F (c:=T.sor) (x:=.builtin "sorted") qs Z (by rw[hs];exact(N.bi .sorted).1) (by rw[hs];exact(N.bi .sorted).2) ?_)
 refine callWith_kw ?_ (by rw[aY q];rfl) (by rw[aY q];rfl)
 refine tO q H wF A ad s S loc env ex [u] S1 pos _ ho R F Z (show bnd (evE P cf wf i loc S) (fun v S=>bnd (fK P cf wf [] loc S) fun vs S=>some (v::vs,S))=some ([u],S1) by rw[eu];rfl) fun ad1 h1 tk1 xs T1 rs=>?_
 obtain⟨y,rfl,r1⟩:∃y,xs=[y]∧VR X ad1 h1 u y:=VRs.on1 (G:=fun xs=>∃y,xs=[y]∧VR X ad1 h1 u y) rs fun y r=>⟨y,rfl,r⟩
 refine kws_cons (dT G T1.rep (F.step0 R T1) qf Z (fo f hf) ?_)
 refine kws_nil ?_
 obtain⟨p,vs,m,rfl,g,hl2,rv⟩:=bg T1.rep r1 hl
 obtain⟨x1,x2,rfl,ra,rb⟩:∃y z,vs=[y,z]∧VR X ad1 h1 a y∧VR X ad1 h1 b z:=VRs.on2 (G:=fun vs=>∃y z,vs=[y,z]∧VR X ad1 h1 a y∧VR X ad1 h1 b z) rv fun y z r q=>⟨y,z,rfl,r,q⟩
 exact sC (s:={s with heap:=h1,toks:=tk1}) C ho T1.rep g ra rb ea eb hr (K.after T1 tk1)
end Mine
end
section
open PySem PySem.W PyProof.Rows
namespace Mine
noncomputable abbrev pq:Program:=PySem.Challenge.pw_pq0714_01
noncomputable def top(i:Nat):Option Stmt:=pq.main.body[i]?
noncomputable def stM:Option Stmt→Nat→Option Stmt
 | some (.ClassDef _ _ _ b _ _ _ _ _ _ _),j=>b[j]?
 | _,_=>none
noncomputable def stA:Option Stmt→Arguments
 | some (.FunctionDef _ a _ _ _ _ _ _ _ _)=>a
 | _=>default
noncomputable def stB:Option Stmt→List Stmt
 | some (.FunctionDef _ _ b _ _ _ _ _ _ _)=>b
 | _=>default
noncomputable def stS:Option Stmt→Scope
 | some (.FunctionDef _ _ _ _ _ _ s _ _ _)=>s
 | _=>default
noncomputable def fd(st:Option Stmt)(name qual:Str)(g:Addr)(dV kV doc pm cd ct:Value)(b:Addr):FuncData:=
 {name:=name,qualname:=qual,params:=stA st,body:=.stmts (stB st),scope:=stS st,globals:=g,closure:=[],defaults:=dV,kwdefaults:=kV,doc:=doc,pyModule:=pm,annotations:=none,code:=cd,closureTuple:=ct,builtins:=b}
noncomputable def de(P:Params)(s:Str)(t:Nat)(v:Value):DictEntry:=⟨PyData.keyHash P s,.str s t,v⟩
noncomputable def dz:Nat→Nat→List Nat→List Nat
 | 0,_,l=>l
 | n + 1,k,l=>cond (Nat.beq k 0) l (dz n (k / 256) (k % 256::l))
noncomputable def zs(k:Nat):Str:=⟨⟨dz 32 k []⟩⟩
noncomputable def z0:=zs 0x5f5f6e616d655f5f
noncomputable def z2:=zs 0x5f5f646f635f5f
noncomputable def z3:=zs 0x5f5f7061636b6167655f5f
noncomputable def z4:=zs 0x5f5f6c6f616465725f5f
noncomputable def z5:=zs 0x5f5f737065635f5f
noncomputable def z77:=zs 0x7375706572
noncomputable def I8:=zs 0x547970654572726f72
noncomputable def I9:=zs 0x4f766572666c6f774572726f72
noncomputable def El:=zs 0x5f5f6d61696e5f5f
noncomputable def Ja:=zs 0x747970652e5f5f737562636c61737365735f5f2e457863657074696f6e2e30
noncomputable def Jb:=zs 0x747970652e5f5f737562636c61737365735f5f2e457863657074696f6e2e6e
noncomputable def iH:=zs 0x6c61775f7071303731345f3031
noncomputable def Jc:=zs 0x5f5f616e6e6f746174696f6e735f5f
noncomputable def Jd:=zs 0x5f5f6275696c74696e735f5f
noncomputable def Je:=zs 0x5f5f66696c655f5f
noncomputable def xn:=zs 0x2f636c61696d2f6375742e7079
noncomputable def Jf:=zs 0x5f5f6361636865645f5f
noncomputable def AA:=zs 0x5f77616c6c
noncomputable def GR:=zs 0x414e59
noncomputable def GS:=zs 0x424f54544f4d
noncomputable def AB:=zs 0x6e616d6564
noncomputable def AC:=zs 0x7475706c655f6f66
noncomputable def AD:=zs 0x756e696f6e5f6f66
noncomputable def AE:=zs 0x70617274735f6f665f6b696e64
noncomputable def AF:=zs 0x72656275696c745f6b696e64
noncomputable def AG:=zs 0x7375627374697475746564
noncomputable def AH:=zs 0x667265655f76617273
noncomputable def sD:=zs 0x6f70656e6564
noncomputable def AI:=zs 0x62696e6465725f74657874
noncomputable def AJ:=zs 0x6b696e645f74657874
noncomputable def GT:=zs 0x4d4f53545f4341534553
noncomputable def u8:=zs 0x53696465
noncomputable def qE:=zs 0x5369646573
noncomputable def AK:=zs 0x6f6363757272656e636573
noncomputable def AL:=zs 0x626f756e645f6f6363757272656e636573
noncomputable def u9:=zs 0x69735f646961676f6e616c
noncomputable def AM:=zs 0x6c6566745f6361736573
noncomputable def AN:=zs 0x7475706c655f6361736573
noncomputable def AP:=zs 0x69735f656d707479
noncomputable def AQ:=zs 0x7461696c5f6f66
noncomputable def GU:=zs 0x54595045
noncomputable def GV:=zs 0x46554e4354494f4e
noncomputable def qF:=zs 0x536561726368
noncomputable def AR:=zs 0x6e6172726f776564
noncomputable def AS:=zs 0x776964656e6564
noncomputable def AT:=zs 0x6861735f77697468696e
noncomputable def AU:=zs 0x7475706c655f77617973
noncomputable def AW:=zs 0x69735f73756274797065
noncomputable def AX:=zs 0x73616d655f6b696e64
noncomputable def AY:=zs 0x6d617463686564
noncomputable def AZ:=zs 0x746f6c645f706172616d
noncomputable def A5:=zs 0x62696e646572735f6d616e79
noncomputable def A6:=zs 0x69735f6d6f72655f7370656369666963
noncomputable def qG:=zs 0x506c61696e526f77
noncomputable def qH:=zs 0x506c61696e5461626c6573
noncomputable def qI:=zs 0x526f77734572726f72
noncomputable def qJ:=zs 0x4b696e644661756c74
noncomputable def GW:=zs 0x5349474e4544
noncomputable def GX:=zs 0x554e5349474e4544
noncomputable def GY:=zs 0x504c41494e5f4552524f5253
noncomputable def GZ:=zs 0x544558545f4552524f5253
noncomputable def G3:=zs 0x43414c4c5f4552524f5253
noncomputable def qK:=zs 0x4465636c
noncomputable def qL:=zs 0x4b696e6473
noncomputable def sE:=zs 0x6e6f6d696e616c
noncomputable def vb:=zs 0x73746172745f6b696e6473
noncomputable def A7:=zs 0x73746172745f6572726f7273
noncomputable def A8:=zs 0x73746172745f726f7773
noncomputable def G6:=zs 0x5f6c61775f636861696e73
noncomputable def A9:=zs 0x5f6c61775f73656564
noncomputable def Ba:=zs 0x5f6c61775f64726177
noncomputable def Bb:=zs 0x5f6c61775f6e616d6564
noncomputable def Bc:=zs 0x5f6c61775f70617274
noncomputable def Bd:=zs 0x5f6c61775f69735f756e646572
noncomputable def Be:=zs 0x5f6c61775f726f775f756e646572
noncomputable def Bf:=zs 0x5f6c61775f736967
noncomputable def Bg:=zs 0x5f6c61775f6c69766573
noncomputable def Bh:=zs 0x5f6c61775f647565
noncomputable def Bi:=zs 0x5f6c61775f746f6c64
noncomputable def xq:=zs 0x6c6177
noncomputable def Jg:=zs 0x3c6d6f64756c653e
noncomputable def G7:=zs 0x6b
noncomputable def dp:=zs 0x6e616d65
noncomputable def m3:=zs 0x416e79
noncomputable def Jh:=zs 0x626f74746f6d
noncomputable def xr:=zs 0x706172616d73
noncomputable def m7:=zs 0x6d6574686f64726f77732e6b696e645f7465726d73
noncomputable def j0:=zs 0x6b696e6473
noncomputable def Ji:=zs 0x72657374
noncomputable def Bj:=zs 0x6c656674
noncomputable def sF:=zs 0x666f756e64
noncomputable def Em:=zs 0x68657265
noncomputable def fT:=zs 0x6b696e64
noncomputable def xt:=zs 0x776f7264
noncomputable def Jj:=zs 0x7061727473
noncomputable def vc:=zs 0x6d616e79
noncomputable def Jk:=zs 0x74657874
noncomputable def gS:=zs 0x5f5f6d6f64756c655f5f
noncomputable def dt:=zs 0x6d6574686f64726f77732e737562747970655f7369646573
noncomputable def pe:=zs 0x5f5f7175616c6e616d655f5f
noncomputable def gU:=zs 0x5f5f66697273746c696e656e6f5f5f
noncomputable def eB:=zs 0x5f5f696e69745f5f
noncomputable def En:=zs 0x776974685f6c6f776572
noncomputable def Eo:=zs 0x776974685f7570706572
noncomputable def sG:=zs 0x6c6f776572
noncomputable def vd:=zs 0x7570706572
noncomputable def gV:=zs 0x5f5f7374617469635f617474726962757465735f5f
noncomputable def cj:=zs 0x73656c66
noncomputable def ve:=zs 0x69735f61736b6564
noncomputable def Ep:=zs 0x6f72646572
noncomputable def Er:=zs 0x6c6f77657273
noncomputable def Es:=zs 0x757070657273
noncomputable def Jl:=zs 0x536964652e5f5f696e69745f5f
noncomputable def Jm:=zs 0x536964652e776974685f6c6f776572
noncomputable def Jn:=zs 0x536964652e776974685f7570706572
noncomputable def Jo:=zs 0x536964652e6c6f776572
noncomputable def Jp:=zs 0x536964652e7570706572
noncomputable def jB:=zs 0x5f5f646963745f5f
noncomputable def iI:=zs 0x5f5f7765616b7265665f5f
noncomputable def Et:=zs 0x636f70696564
noncomputable def Bk:=zs 0x73696465
noncomputable def Eu:=zs 0x6164645f6c6f776572
noncomputable def Ev:=zs 0x6164645f7570706572
noncomputable def Ew:=zs 0x6c617465725f6f6e6573
noncomputable def Ex:=zs 0x726f7773
noncomputable def Jq:=zs 0x53696465732e5f5f696e69745f5f
noncomputable def Jr:=zs 0x53696465732e636f70696564
noncomputable def G8:=zs 0x626f6479
noncomputable def Js:=zs 0x6672657368
noncomputable def Jt:=zs 0x53696465732e6f70656e6564
noncomputable def Ju:=zs 0x53696465732e73696465
noncomputable def Jv:=zs 0x53696465732e69735f61736b6564
noncomputable def Jw:=zs 0x53696465732e6164645f6c6f776572
noncomputable def Jx:=zs 0x53696465732e6164645f7570706572
noncomputable def qM:=zs 0x6f74686572
noncomputable def Jy:=zs 0x53696465732e6c617465725f6f6e6573
noncomputable def xu:=zs 0x69735f77697468696e
noncomputable def Jz:=zs 0x54797065
noncomputable def JA:=zs 0x46756e6374696f6e
noncomputable def dX:=zs 0x6d6574686f64726f77732e7375627479706573
noncomputable def Ey:=zs 0x72756e
noncomputable def Ez:=zs 0x736574746c6564
noncomputable def EA:=zs 0x73746570
noncomputable def EB:=zs 0x6e756d62657273
noncomputable def EC:=zs 0x62656c6f77
noncomputable def pf:=zs 0x61626f7665
noncomputable def ED:=zs 0x62795f666f726d
noncomputable def EE:=zs 0x63686f73656e
noncomputable def EF:=zs 0x706c61696e
noncomputable def EG:=zs 0x6172655f636f6e6372657465
noncomputable def EH:=zs 0x69735f6f6e65
noncomputable def EI:=zs 0x6675656c
noncomputable def JB:=zs 0x5365617263682e5f5f696e69745f5f
noncomputable def JC:=zs 0x676f616c73
noncomputable def sH:=zs 0x7369646573
noncomputable def G9:=zs 0x77616974696e67
noncomputable def JD:=zs 0x5365617263682e72756e
noncomputable def JE:=zs 0x77617973
noncomputable def JF:=zs 0x776179
noncomputable def JG:=zs 0x5365617263682e736574746c6564
noncomputable def JH:=zs 0x676f616c
noncomputable def sJ:=zs 0x6f6e65
noncomputable def JI:=zs 0x5365617263682e73746570
noncomputable def JJ:=zs 0x5365617263682e6e756d62657273
noncomputable def JK:=zs 0x5365617263682e62656c6f77
noncomputable def JL:=zs 0x5365617263682e61626f7665
noncomputable def JM:=zs 0x5365617263682e62795f666f726d
noncomputable def JN:=zs 0x5365617263682e63686f73656e
noncomputable def JO:=zs 0x776f726473
noncomputable def JP:=zs 0x5365617263682e706c61696e
noncomputable def JQ:=zs 0x5365617263682e6e6f6d696e616c
noncomputable def JR:=zs 0x5365617263682e6172655f636f6e6372657465
noncomputable def JS:=zs 0x5365617263682e69735f6f6e65
noncomputable def Hd:=zs 0x6c61746572
noncomputable def JT:=zs 0x63617365
noncomputable def JU:=zs 0x736561726368
noncomputable def EJ:=zs 0x736967
noncomputable def Hf:=zs 0x6d6574686f64726f77732e7370656369666963
noncomputable def i8:=zs 0x6d6574686f64726f77732e706c61696e5f63616c6c73
noncomputable def EK:=zs 0x69735f6c697665
noncomputable def Hg:=zs 0x66756e6374696f6e
noncomputable def Hh:=zs 0x676976656e
noncomputable def Hi:=zs 0x7661726961626c6573
noncomputable def JV:=zs 0x506c61696e526f772e5f5f696e69745f5f
noncomputable def Bl:=zs 0x776f726c64
noncomputable def JW:=zs 0x506c61696e526f772e69735f6c697665
noncomputable def JX:=zs 0x626567756e
noncomputable def JY:=zs 0x656e646564
noncomputable def EL:=zs 0x616464
noncomputable def EM:=zs 0x6c697665
noncomputable def EN:=zs 0x66697474696e67
noncomputable def EO:=zs 0x7069636b6564
noncomputable def JZ:=zs 0x506c61696e5461626c65732e5f5f696e69745f5f
noncomputable def Hj:=zs 0x726f77
noncomputable def J0:=zs 0x656c646572
noncomputable def J1:=zs 0x506c61696e5461626c65732e616464
noncomputable def J2:=zs 0x506c61696e5461626c65732e6c697665
noncomputable def J3:=zs 0x746f6c64
noncomputable def J4:=zs 0x506c61696e5461626c65732e66697474696e67
noncomputable def J5:=zs 0x506c61696e5461626c65732e7069636b6564
noncomputable def pg:=zs 0x6d6574686f64726f77732e6572726f7273
noncomputable def Hl:=zs 0x6d657373616765
noncomputable def Hm:=zs 0x73706f74
noncomputable def J6:=zs 0x526f77734572726f722e5f5f696e69745f5f
noncomputable def J7:=zs 0x496e7438
noncomputable def J8:=zs 0x496e743136
noncomputable def J9:=zs 0x496e743332
noncomputable def EP:=zs 0x496e743634
noncomputable def Ka:=zs 0x426967496e74
noncomputable def Kc:=zs 0x55496e7438
noncomputable def Kd:=zs 0x55496e743136
noncomputable def Ke:=zs 0x55496e743332
noncomputable def Kf:=zs 0x55496e743634
noncomputable def Kg:=zs 0x4469766964654572726f72
noncomputable def Kh:=zs 0x496e65786163744572726f72
noncomputable def Kj:=zs 0x537461636b4f766572666c6f774572726f72
noncomputable def Kk:=zs 0x417267756d656e744572726f72
noncomputable def Km:=zs 0x44696d656e73696f6e4d69736d61746368
noncomputable def Kn:=zs 0x4572726f72457863657074696f6e
noncomputable def Ko:=zs 0x4d6574686f644572726f72
noncomputable def Kp:=zs 0x416d626967756f75734572726f72
noncomputable def dF:=zs 0x6d6574686f64726f77732e6b696e6473
noncomputable def EQ:=zs 0x7461626c655f666f72
noncomputable def sK:=zs 0x77686f6c65
noncomputable def ER:=zs 0x6669656c645f6b696e6473
noncomputable def ES:=zs 0x69735f6162737472616374
noncomputable def Hn:=zs 0x69735f6d757461626c65
noncomputable def Hp:=zs 0x6669656c6473
noncomputable def Kq:=zs 0x4465636c2e5f5f696e69745f5f
noncomputable def Ku:=zs 0x4465636c2e7461626c655f666f72
noncomputable def Kv:=zs 0x4465636c2e77686f6c65
noncomputable def Kw:=zs 0x4465636c2e6669656c645f6b696e6473
noncomputable def ET:=zs 0x6465636c617265
noncomputable def EU:=zs 0x69735f6465636c61726564
noncomputable def xv:=zs 0x6465636c
noncomputable def EV:=zs 0x73757065725f6f66
noncomputable def EW:=zs 0x737570657273
noncomputable def EX:=zs 0x756e646572
noncomputable def EY:=zs 0x6170706c696564
noncomputable def EZ:=zs 0x69735f636f6e6372657465
noncomputable def Kx:=zs 0x4b696e64732e5f5f696e69745f5f
noncomputable def Ky:=zs 0x4b696e64732e6465636c617265
noncomputable def Kz:=zs 0x4b696e64732e69735f6465636c61726564
noncomputable def KA:=zs 0x4b696e64732e6465636c
noncomputable def KB:=zs 0x4b696e64732e73757065725f6f66
noncomputable def KC:=zs 0x4b696e64732e737570657273
noncomputable def KD:=zs 0x4b696e64732e756e646572
noncomputable def KE:=zs 0x4b696e64732e6170706c696564
noncomputable def KF:=zs 0x706172616d
noncomputable def KG:=zs 0x4b696e64732e69735f77697468696e
noncomputable def KH:=zs 0x7661726961626c65
noncomputable def KI:=zs 0x4b696e64732e77686f6c65
noncomputable def KJ:=zs 0x4b696e64732e69735f636f6e6372657465
noncomputable def KL:=zs 0x6465636c73
noncomputable def KM:=zs 0x616e797468696e67
noncomputable def KN:=zs 0x6974656d
noncomputable def KO:=zs 0x72616e6b
noncomputable def Hq:=zs 0x426f6f6c
noncomputable def E0:=zs 0x5369676e6564
noncomputable def Hr:=zs 0x537472696e67
noncomputable def E1:=zs 0x4162737472616374537472696e67
noncomputable def xw:=zs 0x496e7465676572
noncomputable def vf:=zs 0x5265616c
noncomputable def xx:=zs 0x4e756d626572
noncomputable def KP:=zs 0x736372697074
noncomputable def KQ:=zs 0x6e756d626572
noncomputable def Ht:=zs 0x73656564
noncomputable def KR:=zs 0x676f74
noncomputable def KS:=zs 0x6e616d6573
noncomputable def KU:=zs 0x736f6d65
noncomputable def KV:=zs 0x7370616e73
noncomputable def KW:=zs 0x6174
noncomputable abbrev y0:=PySem.W.SL.s11030030927630378310x26
noncomputable abbrev y1:=PySem.W.SL.s10062305145149207511x16
noncomputable abbrev y2:=PySem.W.SL.s17162191345867700912x4
noncomputable abbrev y3:=PySem.W.SL.s14755015743595814543x17
noncomputable abbrev y4:=PySem.W.SL.s6511155373996960695x17
noncomputable abbrev y5:=PySem.W.SL.s12411053484034534018x21
noncomputable abbrev y6:=PySem.W.SL.s10220274742760427390x26
noncomputable abbrev y7:=PySem.W.SL.s4290257624100764138x5
noncomputable abbrev y8:=PySem.W.SL.s4860613602091757760x24
noncomputable abbrev y9:=PySem.W.SL.s5946037652744460706x9
noncomputable abbrev y10:=PySem.W.SL.s4278001404047624695x13
noncomputable abbrev y11:=PySem.W.SL.s2742458400755230247x6
noncomputable abbrev y12:=PySem.W.SL.s5160863994218179198x17
noncomputable abbrev y13:=PySem.W.SL.s9222952809800978799x4
noncomputable abbrev y14:=PySem.W.SL.s7097527257260152453x26
noncomputable abbrev y15:=PySem.W.SL.s2766695959194262286x5
noncomputable abbrev y16:=PySem.W.SL.s14018661285674007319x4
noncomputable abbrev y17:=PySem.W.SL.s658472552662922059x5
noncomputable abbrev y18:=PySem.W.SL.s5856160107412720595x4
noncomputable abbrev y19:=PySem.W.SL.s7174869446012820540x8
noncomputable def oT(l:List Value):Obj:=⟨(.type y15),none,.seq ⟨l⟩ 0,⟨[]⟩⟩
noncomputable def oF(l:List Value):Obj:=⟨.none,none,.fields ⟨l⟩,⟨[]⟩⟩
noncomputable def oG(s:String)(l:List Value):Obj:=⟨.type s,none,.fields ⟨l⟩,⟨[]⟩⟩
noncomputable def oD(n:Nat)(l:List DictEntry):Obj:=⟨(.type y16),none,.dict ⟨l⟩ n,⟨[]⟩⟩
noncomputable def oK(nm:Str)(a N t:Nat)(m:Str)(u:Nat):Obj:=excClassObj nm nm a N [.type "object"] [.type "object"] true [] [] false none none none none (some (.str nm t)) (some (.str m u)) (some (.bool true)) "object.__new__"
noncomputable def oR(a b:Nat)(s:Str)(t:Nat):Obj:=⟨(.type y17),none,.plain,⟨[some (.ref a),some (.ref 3),some (.ref b),none,some (.str s t),none,some (.ref 0)]⟩⟩
noncomputable def Hu:List (Str×Nat×Value):=[(EP,1144,(.ref 684)),(m3,1151,(.ref 685)),(Hq,1153,(.ref 686)),(E0,1159,(.ref 687)),(Hr,1165,(.ref 688)),(E1,1169,(.ref 689)),(xw,1172,(.ref 690)),(vf,1177,(.ref 691))]
noncomputable def nv:List Str→Nat→List Value
 | [],_=>[]
 | s::r,t=>.str s t::nv r (t + 1)
noncomputable def iV(n:Nat):Value:=.int (Int.ofNat n) 0
noncomputable def oQ(nm:Str)(t l b:Nat):Obj:=oG y18 [.str nm t,.str nm (t + 1),.str xn (t + 2),iV l,iV 0,iV 0,iV 0,iV 0,.ref b,.bool false,iV 181,.ref (b + 1),.none,.none,.none,.none,iV (t + 3),iV l,.str xn (t + 4)]
noncomputable def gG(b j t ln ac n:Nat)(x y pm:Value)(dV:Value)(st:Option Stmt)(nm q:Str)(r:List Obj):List Obj:=
 ⟨.none,none,.func (fd st nm q 0 .none .none .none .none .none .none 0),⟨[]⟩⟩::⟨(.type y18),none,.fields ⟨[.str nm t,.str q (t + 1),.str xn (t + 2),iV ln,iV ac,iV 0,iV 0,iV 3,.ref b,.bool true,iV 181,.ref (b + 1),.none,x,y,.ref j,iV (t + 3 + n),iV ln,.str xn (t + 4 + n)]⟩,⟨[]⟩⟩::
 ⟨(.type y19),none,.func (fd st nm q 3 dV .none .none pm (.ref (j + 1)) .none 0),⟨[]⟩⟩::r
noncomputable def gF(b t ln ac:Nat)(ns:List Str)(pm:Str)(pt:Nat)(dV:Value)(st:Option Stmt)(nm q:Str)(r:List Obj):List Obj:=oT []::oF []::oT (nv ns (t + 3))::oT []::gG b (b + 4) t ln ac ns.length (.ref (b + 2)) (.ref (b + 3)) (.str pm pt) dV st nm q r
noncomputable def gE(b t ln ac:Nat)(pm:Str)(pt:Nat)(dV:Value)(st:Option Stmt)(nm q:Str)(r:List Obj):List Obj:=oT []::oF []::gG b (b + 2) t ln ac 0 .none .none (.str pm pt) dV st nm q r
noncomputable def g3(e:Str→Nat→Value→DictEntry):List DictEntry:=[e z2 166 .none,e z3 167 .none,e z4 168 (.builtin y14),e z5 169 .none,e Jc 170 (.ref 6),e Jd 171 (.ref 4),e Je 173 (.str xn 172),e Jf 174 .none,e AA 193 (.ref 21),e GR 198 (.ref 23),e GS 200 (.ref 24),e AB 208 (.ref 33),e AC 216 (.ref 41),e AD 226 (.ref 48),e AE 234 (.ref 55),e AF 244 (.ref 62),e AG 250 (.ref 67),e AH 256 (.ref 72),e sD 264 (.ref 79),e AI 272 (.ref 86),e AJ 278 (.ref 91),e GT 282 (.int 64 281),e u8 349 (.ref 136),e qE 451 (.ref 207),e AK 457 (.ref 216),e AL 467 (.ref 223),e u9 477 (.ref 230),e AM 483 (.ref 235),e AN 489 (.ref 240),e AP 495 (.ref 245),e AQ 502 (.ref 252),e GU 507 (.ref 254),e GV 510 (.ref 256),e qF 645 (.ref 345),e AR 656 (.ref 356),e AS 666 (.ref 363),e AT 674 (.ref 370),e AU 680 (.ref 375),e AW 693 (.ref 383),e AX 702 (.ref 390),e AY 709 (.ref 396),e AZ 715 (.ref 401),e A5 724 (.ref 408),e A6 733 (.ref 415),e qG 780 (.ref 439),e qH 846 (.ref 484),e qI 879 (.ref 506),e qJ 895 (.ref 519),e GW 903 (.ref 522),e GX 908 (.ref 523),e GY 913 (.ref 524),e GZ 918 (.ref 525),e G3 921 (.ref 526),e qK 980 (.ref 562),e qL 1099 (.ref 649),e sE 1109 (.ref 661),e vb 1118 (.ref 668),e A7 1127 (.ref 675),e A8 1141 (.ref 682),e G6 1189 (.ref 683),e A9 1198 (.ref 698),e Ba 1207 (.ref 705),e Bb 1214 (.ref 712),e Bc 1223 (.ref 719),e Bd 1229 (.ref 724),e Be 1235 (.ref 729),e Bf 1241 (.ref 734),e Bg 1250 (.ref 741),e Bh 1256 (.ref 746),e Bi 1262 (.ref 751),e xq 1268 (.ref 756)]
noncomputable def tri:List (Nat×Nat×Nat)→List Value
 | []=>[]
 | a::r=>iV a.1::iV a.2.1::.ref a.2.2::tri r
noncomputable def g12:List Value:=tri [(1,0,20),(7,0,32),(9,0,40),(11,0,47),(24,0,54),(35,0,61),(47,0,66),(57,0,71),(70,0,78),(76,0,85),(79,0,90),(100,0,97),(120,0,146),(157,0,215),(172,0,222),(175,0,229),(178,0,234),(189,0,239),(197,0,244),(203,0,251),(208,0,262),(329,0,355),(335,0,362),(342,0,369),(344,0,374),(351,0,382),(359,0,389),(361,0,395),(379,0,400),(386,0,407),(388,0,414),(395,0,421),(407,0,449),(441,0,494),(447,0,515),(455,0,532),(473,0,572),(550,0,660),(552,0,667),(572,0,674),(582,0,681),(598,0,697),(601,0,704),(606,0,711),(608,0,718),(614,0,723),(616,0,728),(620,0,733),(623,0,740),(625,0,745),(633,0,750),(639,0,755)]
noncomputable def oL(e:Str→Nat→Value→DictEntry):List Obj:=
 .cons (oQ Jg 182 1 11)<|
 .cons (oR 13 3 El 164)<|
 gF 15 187 1 1 [G7] El 164 .none (top 0) AA AA <|
 .cons (oT [])<|
 .cons (oT [(.str dp 196),(.str m3 197),(.ref 22)])<|
 .cons (oT [(.str Jh 199)])<|
 .cons (oT [])<|
 .cons (oT [(.ref 25)])<|
 gF 27 201 7 2 [dp,xr] m7 194 (.ref 26) (top 4) AB AB <|
 .cons (oT [.none])<|
 gF 35 209 9 2 [j0,Ji] m7 194 (.ref 34) (top 5) AC AC <|
 gF 42 217 11 1 [j0,Bj,sF,Em] m7 194 .none (top 6) AD AD <|
 gF 49 227 24 1 [fT,xt] m7 194 .none (top 7) AE AE <|
 gF 56 235 35 2 [fT,Jj,xt,vc] m7 194 .none (top 8) AF AF <|
 gE 63 245 47 2 m7 194 .none (top 9) AG AG <|
 gE 68 251 57 1 m7 194 .none (top 10) AH AH <|
 gF 73 257 70 1 [fT,sF] m7 194 .none (top 11) sD sD <|
 gF 80 265 76 1 [fT,Jk] m7 194 .none (top 12) AI AI <|
 gE 87 273 79 1 m7 194 .none (top 13) AJ AJ <|
 .cons (oT [])<|
 .cons (oG y0 [(.builtin y1),(.type y2)])<|
 .cons (oD 9 [e gS 290 (.str dt 279),e pe 292 (.str u8 291),e gU 294 (.int 100 293),e eB 306 (.ref 105),e En 314 (.ref 112),e Eo 322 (.ref 119),e sG 329 (.ref 126),e vd 336 (.ref 133),e gV 342 (.ref 134)])<|
 .cons (oT [])<|
 .cons (oF [(.int 102 0),(.int 4 0),(.ref 104),(.int 109 0),(.int 4 0),(.ref 111),(.int 112 0),(.int 4 0),(.ref 118),(.int 115 0),(.int 4 0),(.ref 125),(.int 118 0),(.int 4 0),(.ref 132)])<|
 .cons (oQ u8 285 100 95)<|
 .cons (oR 97 94 dt 279)<|
 gF 99 295 102 6 [cj,ve,Ep,Er,Es,u9] dt 279 .none (stM (top 16) 0) eB Jl <|
 gF 106 307 109 2 [cj,fT] dt 279 .none (stM (top 16) 1) En Jm <|
 gF 113 315 112 2 [cj,fT] dt 279 .none (stM (top 16) 2) Eo Jn <|
 gF 120 323 115 1 [cj] dt 279 .none (stM (top 16) 3) sG Jo <|
 gF 127 330 118 1 [cj] dt 279 .none (stM (top 16) 4) vd Jp <|
 .cons (oT (nv [ve,u9,Er,Ep,Es] 337))<|
 .cons (oD 4 [e gS 290 (.str dt 279),e gU 294 (.int 100 293),e eB 306 (.ref 105),e En 314 (.ref 112),e Eo 322 (.ref 119),e sG 329 (.ref 126),e vd 336 (.ref 133),e gV 342 (.ref 134),e jB 344 (.ref 137),e iI 346 (.ref 138),e z2 347 .none])<|
 .cons (oK u8 136 135 283 u8 291)<|
 .cons (oG y3 [(.str jB 343),(.ref 136),(.builtin y4),(.builtin y5)])<|
 .cons (oG y3 [(.str iI 345),(.ref 136),(.builtin y6),.none])<|
 .cons (oG y7 [(.ref 136),(.ref 136),(.ref 136)])<|
 .cons (oG y0 [(.builtin y8),(.ref 136)])<|
 .cons (oT [])<|
 .cons (oG y0 [(.builtin y1),(.type y2)])<|
 .cons (oD 12 [e gS 357 (.str dt 279),e pe 359 (.str qE 358),e gU 361 (.int 120 360),e eB 371 (.ref 155),e Et 378 (.ref 162),e sD 395 (.ref 169),e Bk 403 (.ref 176),e ve 411 (.ref 183),e Eu 420 (.ref 190),e Ev 429 (.ref 197),e Ew 441 (.ref 204),e gV 444 (.ref 205)])<|
 .cons (oT [])<|
 .cons (oF [(.int 122 0),(.int 4 0),(.ref 154),(.int 126 0),(.int 4 0),(.ref 161),(.int 129 0),(.int 4 0),(.ref 168),(.int 138 0),(.int 4 0),(.ref 175),(.int 141 0),(.int 4 0),(.ref 182),(.int 144 0),(.int 4 0),(.ref 189),(.int 147 0),(.int 4 0),(.ref 196),(.int 150 0),(.int 4 0),(.ref 203)])<|
 .cons (oQ qE 352 120 144)<|
 .cons (oR 146 143 dt 279)<|
 .cons (oT [.none,(.int 0 362)])<|
 gF 149 363 122 3 [cj,Ex,vc] dt 279 (.ref 148) (stM (top 17) 0) eB Jq <|
 gF 156 372 126 1 [cj] dt 279 .none (stM (top 17) 1) Et Jr <|
 gF 163 379 129 3 [cj,fT,ve,xt,dp,sG,vd,G8,Js,Er,Es] dt 279 .none (stM (top 17) 2) sD Jt <|
 gF 170 396 138 2 [cj,dp] dt 279 .none (stM (top 17) 3) Bk Ju <|
 gF 177 404 141 2 [cj,fT] dt 279 .none (stM (top 17) 4) ve Jv <|
 gF 184 412 144 3 [cj,dp,fT] dt 279 .none (stM (top 17) 5) Eu Jw <|
 gF 191 421 147 3 [cj,dp,fT] dt 279 .none (stM (top 17) 6) Ev Jx <|
 gF 198 430 150 3 [cj,fT,dp,Ep,sF,qM] dt 279 .none (stM (top 17) 7) Ew Jy <|
 .cons (oT (nv [vc,Ex] 442))<|
 .cons (oD 4 [e gS 357 (.str dt 279),e gU 361 (.int 120 360),e eB 371 (.ref 155),e Et 378 (.ref 162),e sD 395 (.ref 169),e Bk 403 (.ref 176),e ve 411 (.ref 183),e Eu 420 (.ref 190),e Ev 429 (.ref 197),e Ew 441 (.ref 204),e gV 444 (.ref 205),e jB 446 (.ref 208),e iI 448 (.ref 209),e z2 449 .none])<|
 .cons (oK qE 207 206 350 qE 358)<|
 .cons (oG y3 [(.str jB 445),(.ref 207),(.builtin y4),(.builtin y5)])<|
 .cons (oG y3 [(.str iI 447),(.ref 207),(.builtin y6),.none])<|
 .cons (oG y7 [(.ref 207),(.ref 207),(.ref 207)])<|
 .cons (oG y0 [(.builtin y8),(.ref 207)])<|
 gE 212 452 157 2 dt 279 .none (top 18) AK AK <|
 gF 217 458 172 2 [fT,dp,vc,xu] dt 279 .none (top 19) AL AL <|
 gF 224 468 175 2 [G8,dp,vc,xu] dt 279 .none (top 20) u9 u9 <|
 gE 231 478 178 1 dt 279 .none (top 21) AM AM <|
 gE 236 484 189 1 dt 279 .none (top 22) AN AN <|
 gE 241 490 197 1 dt 279 .none (top 23) AP AP <|
 gF 246 496 203 1 [fT] dt 279 .none (top 24) AQ AQ <|
 .cons (oT [])<|
 .cons (oT [(.str dp 505),(.str Jz 506),(.ref 253)])<|
 .cons (oT [])<|
 .cons (oT [(.str dp 508),(.str JA 509),(.ref 255)])<|
 .cons (oT [])<|
 .cons (oG y0 [(.builtin y1),(.type y2)])<|
 .cons (oD 17 [e gS 518 (.str dX 503),e pe 520 (.str qF 519),e gU 522 (.int 208 521),e eB 531 (.ref 270),e Ey 544 (.ref 277),e Ez 556 (.ref 284),e EA 568 (.ref 291),e EB 579 (.ref 298),e EC 585 (.ref 303),e pf 591 (.ref 308),e ED 597 (.ref 313),e EE 603 (.ref 318),e EF 613 (.ref 325),e sE 619 (.ref 330),e EG 629 (.ref 337),e EH 635 (.ref 342),e gV 638 (.ref 343)])<|
 .cons (oT [])<|
 .cons (oF [(.int 210 0),(.int 4 0),(.ref 269),(.int 214 0),(.int 4 0),(.ref 276),(.int 223 0),(.int 4 0),(.ref 283),(.int 234 0),(.int 4 0),(.ref 290),(.int 250 0),(.int 4 0),(.ref 297),(.int 259 0),(.int 4 0),(.ref 302),(.int 266 0),(.int 4 0),(.ref 307),(.int 273 0),(.int 4 0),(.ref 312),(.int 292 0),(.int 4 0),(.ref 317),(.int 297 0),(.int 4 0),(.ref 324),(.int 309 0),(.int 4 0),(.ref 329),(.int 315 0),(.int 4 0),(.ref 336),(.int 322 0),(.int 4 0),(.ref 341)])<|
 .cons (oQ qF 513 208 260)<|
 .cons (oR 262 259 dX 503)<|
 gF 264 523 210 3 [cj,j0,EI] dX 503 .none (stM (top 28) 0) eB JB <|
 gF 271 532 214 3 [cj,JC,sH,G9,Bj,Em,sF] dX 503 .none (stM (top 28) 1) Ey JD <|
 gF 278 545 223 4 [cj,Bj,sH,G9,JE,JF] dX 503 .none (stM (top 28) 2) Ez JG <|
 gF 285 557 234 3 [cj,JH,sH,xt,sJ,qM] dX 503 .none (stM (top 28) 3) EA JI <|
 gF 292 569 250 5 [cj,xt,sJ,qM,sH] dX 503 .none (stM (top 28) 4) EB JJ <|
 gE 299 580 259 4 dX 503 .none (stM (top 28) 5) EC JK <|
 gE 304 586 266 4 dX 503 .none (stM (top 28) 6) pf JL <|
 gE 309 592 273 4 dX 503 .none (stM (top 28) 7) ED JM <|
 gE 314 598 292 4 dX 503 .none (stM (top 28) 8) EE JN <|
 gF 319 604 297 3 [cj,sJ,qM,JO] dX 503 .none (stM (top 28) 9) EF JP <|
 gE 326 614 309 3 dX 503 .none (stM (top 28) 10) sE JQ <|
 gF 331 620 315 2 [cj,sH,dp,Bk] dX 503 .none (stM (top 28) 11) EG JR <|
 gE 338 630 322 3 dX 503 .none (stM (top 28) 12) EH JS <|
 .cons (oT (nv [EI,j0] 636))<|
 .cons (oD 4 [e gS 518 (.str dX 503),e gU 522 (.int 208 521),e eB 531 (.ref 270),e Ey 544 (.ref 277),e Ez 556 (.ref 284),e EA 568 (.ref 291),e EB 579 (.ref 298),e EC 585 (.ref 303),e pf 591 (.ref 308),e ED 597 (.ref 313),e EE 603 (.ref 318),e EF 613 (.ref 325),e sE 619 (.ref 330),e EG 629 (.ref 337),e EH 635 (.ref 342),e gV 638 (.ref 343),e jB 640 (.ref 346),e iI 642 (.ref 347),e z2 643 .none])<|
 .cons (oK qF 345 344 511 qF 519)<|
 .cons (oG y3 [(.str jB 639),(.ref 345),(.builtin y4),(.builtin y5)])<|
 .cons (oG y3 [(.str iI 641),(.ref 345),(.builtin y6),.none])<|
 .cons (oG y7 [(.ref 345),(.ref 345),(.ref 345)])<|
 .cons (oG y0 [(.builtin y8),(.ref 345)])<|
 gF 350 646 329 3 [dp,fT,sH,Hd,sG] dX 503 .none (top 29) AR AR <|
 gF 357 657 335 3 [dp,fT,sH,Hd] dX 503 .none (top 30) AS AS <|
 gF 364 667 342 2 [dp,fT] dX 503 .none (top 31) AT AT <|
 gE 371 675 344 2 dX 503 .none (top 32) AU AU <|
 .cons (oT [(.int 4000 681)])<|
 gF 377 682 351 4 [j0,sJ,qM,EI,JT,JU] dX 503 (.ref 376) (top 33) AW AW <|
 gF 384 694 359 3 [j0,sJ,qM] dX 503 .none (top 34) AX AX <|
 .cons (oT [(.int 4000 703)])<|
 gE 392 704 361 4 dX 503 (.ref 391) (top 35) AY AY <|
 gE 397 710 379 3 dX 503 .none (top 36) AZ AZ <|
 gF 402 718 386 1 [EJ] Hf 716 .none (top 38) A5 A5 <|
 gF 409 725 388 3 [j0,sJ,qM] Hf 716 .none (top 39) A6 A6 <|
 .cons (oT [])<|
 .cons (oG y0 [(.builtin y1),(.type y2)])<|
 .cons (oD 6 [e gS 743 (.str i8 734),e pe 745 (.str qG 744),e gU 747 (.int 395 746),e eB 758 (.ref 429),e EK 766 (.ref 436),e gV 773 (.ref 437)])<|
 .cons (oT [])<|
 .cons (oF [(.int 397 0),(.int 4 0),(.ref 428),(.int 405 0),(.int 4 0),(.ref 435)])<|
 .cons (oQ qG 738 395 419)<|
 .cons (oR 421 418 i8 734)<|
 gF 423 748 397 5 [cj,EJ,Hg,Hh,Hi] i8 734 .none (stM (top 41) 0) eB JV <|
 gF 430 759 405 2 [cj,Bl] i8 734 .none (stM (top 41) 1) EK JW <|
 .cons (oT (nv [JX,JY,Hg,Hh,EJ,Hi] 767))<|
 .cons (oD 4 [e gS 743 (.str i8 734),e gU 747 (.int 395 746),e eB 758 (.ref 429),e EK 766 (.ref 436),e gV 773 (.ref 437),e jB 775 (.ref 440),e iI 777 (.ref 441),e z2 778 .none])<|
 .cons (oK qG 439 438 736 qG 744)<|
 .cons (oG y3 [(.str jB 774),(.ref 439),(.builtin y4),(.builtin y5)])<|
 .cons (oG y3 [(.str iI 776),(.ref 439),(.builtin y6),.none])<|
 .cons (oG y7 [(.ref 439),(.ref 439),(.ref 439)])<|
 .cons (oG y0 [(.builtin y8),(.ref 439)])<|
 .cons (oT [])<|
 .cons (oG y0 [(.builtin y1),(.type y2)])<|
 .cons (oD 9 [e gS 788 (.str i8 734),e pe 790 (.str qH 789),e gU 792 (.int 407 791),e eB 800 (.ref 457),e EL 810 (.ref 464),e EM 816 (.ref 469),e EN 829 (.ref 476),e EO 835 (.ref 481),e gV 839 (.ref 482)])<|
 .cons (oT [])<|
 .cons (oF [(.int 409 0),(.int 4 0),(.ref 456),(.int 414 0),(.int 4 0),(.ref 463),(.int 422 0),(.int 4 0),(.ref 468),(.int 425 0),(.int 4 0),(.ref 475),(.int 433 0),(.int 4 0),(.ref 480)])<|
 .cons (oQ qH 783 407 447)<|
 .cons (oR 449 446 i8 734)<|
 gF 451 793 409 2 [cj,j0] i8 734 .none (stM (top 42) 0) eB JZ <|
 gF 458 801 414 3 [cj,dp,Hj,J0] i8 734 .none (stM (top 42) 1) EL J1 <|
 gE 465 811 422 3 i8 734 .none (stM (top 42) 2) EM J2 <|
 gF 470 817 425 4 [cj,dp,fT,Bl,sF,Hj,J3] i8 734 .none (stM (top 42) 3) EN J4 <|
 gE 477 830 433 4 i8 734 .none (stM (top 42) 4) EO J5 <|
 .cons (oT (nv [j0,Ex,Bl] 836))<|
 .cons (oD 4 [e gS 788 (.str i8 734),e gU 792 (.int 407 791),e eB 800 (.ref 457),e EL 810 (.ref 464),e EM 816 (.ref 469),e EN 829 (.ref 476),e EO 835 (.ref 481),e gV 839 (.ref 482),e jB 841 (.ref 485),e iI 843 (.ref 486),e z2 844 .none])<|
 .cons (oK qH 484 483 781 qH 789)<|
 .cons (oG y3 [(.str jB 840),(.ref 484),(.builtin y4),(.builtin y5)])<|
 .cons (oG y3 [(.str iI 842),(.ref 484),(.builtin y6),.none])<|
 .cons (oG y7 [(.ref 484),(.ref 484),(.ref 484)])<|
 .cons (oG y0 [(.builtin y8),(.ref 484)])<|
 .cons (oT [(.type y9)])<|
 .cons (oG y0 [(.builtin y1),(.type y2)])<|
 .cons (oD 5 [e gS 856 (.str pg 847),e pe 858 (.str qI 857),e gU 860 (.int 441 859),e eB 869 (.ref 503),e gV 872 (.ref 504)])<|
 .cons (oT [])<|
 .cons (oF [(.int 443 0),(.int 4 0),(.ref 502)])<|
 .cons (oQ qI 851 441 492)<|
 .cons (oR 494 491 pg 847)<|
 .cons (oT [.none])<|
 gF 497 861 443 3 [cj,Hl,Hm] pg 847 (.ref 496) (stM (top 44) 0) eB J6 <|
 .cons (oT (nv [Hl,Hm] 870))<|
 .cons (oD 3 [e gS 856 (.str pg 847),e gU 860 (.int 441 859),e eB 869 (.ref 503),e gV 872 (.ref 504),e iI 874 (.ref 507),e z2 875 .none])<|
 .cons (⟨(.type y2),none,(.cls {name:=qI,bases:=[(.type y9)],mro:=[(.ref 506),(.type y9),(.type y10),(.type y11)],ns:=505,qualname:=qI,hasDict:=true,slotNames:=[],subclasses:=[(.ref 519)],abstract:=false,collection:=none,hasDel:=false}),⟨[(some (.ref 489)),none,(some (.str qI 849)),(some (.str qI 857)),(some (.builtin y12)),(some (.bool true))]⟩⟩)<|
 .cons (oG y3 [(.str iI 873),(.ref 506),(.builtin y6),.none])<|
 .cons (oG y7 [(.ref 506),(.ref 506),(.ref 506)])<|
 .cons (oG y0 [(.builtin y8),(.ref 506)])<|
 .cons (oT [(.ref 506)])<|
 .cons (oG y0 [(.builtin y1),(.type y2)])<|
 .cons (oD 4 [e gS 887 (.str pg 847),e pe 889 (.str qJ 888),e gU 891 (.int 447 890),e gV 892 (.ref 517)])<|
 .cons (oT [])<|
 .cons (oF [])<|
 .cons (oQ qJ 882 447 513)<|
 .cons (oR 515 512 pg 847)<|
 .cons (oT [])<|
 .cons (oD 2 [e gS 887 (.str pg 847),e gU 891 (.int 447 890),e gV 892 (.ref 517),e z2 893 .none])<|
 .cons (⟨(.type y2),none,(.cls {name:=qJ,bases:=[(.ref 506)],mro:=[(.ref 519),(.ref 506),(.type y9),(.type y10),(.type y11)],ns:=518,qualname:=qJ,hasDict:=true,slotNames:=[],subclasses:=[],abstract:=false,collection:=none,hasDel:=false}),⟨[(some (.ref 510)),none,(some (.str qJ 880)),(some (.str qJ 888)),(some (.builtin y12)),(some (.bool true))]⟩⟩)<|
 .cons (oG y7 [(.ref 519),(.ref 519),(.ref 519)])<|
 .cons (oG y0 [(.builtin y8),(.ref 519)])<|
 .cons (oT (nv [J7,J8,J9,EP,Ka] 898))<|
 .cons (oT (nv [Kc,Kd,Ke,Kf] 904))<|
 .cons (oT (nv [Kg,Kh,I8,Kj] 909))<|
 .cons (oT (nv [Kk,I9,Km,Kn] 914))<|
 .cons (oT (nv [Ko,Kp] 919))<|
 .cons (oT [])<|
 .cons (oG y0 [(.builtin y1),(.type y2)])<|
 .cons (oD 8 [e gS 929 (.str dF 896),e pe 931 (.str qK 930),e gU 933 (.int 455 932),e eB 946 (.ref 542),e EQ 952 (.ref 547),e sK 958 (.ref 552),e ER 966 (.ref 559),e gV 973 (.ref 560)])<|
 .cons (oT [])<|
 .cons (oF [(.int 457 0),(.int 4 0),(.ref 541),(.int 465 0),(.int 4 0),(.ref 546),(.int 468 0),(.int 4 0),(.ref 551),(.int 471 0),(.int 4 0),(.ref 558)])<|
 .cons (oQ qK 924 455 530)<|
 .cons (oR 532 529 dF 896)<|
 .cons (oT [])<|
 .cons (oT [(.bool false),(.ref 534)])<|
 gF 536 934 457 7 [cj,dp,xr,pf,ES,Hn,Hp] dF 896 (.ref 535) (stM (top 52) 0) eB Kq <|
 gE 543 947 465 2 dF 896 .none (stM (top 52) 1) EQ Ku <|
 gE 548 953 468 1 dF 896 .none (stM (top 52) 2) sK Kv <|
 gF 553 959 471 2 [cj,xr] dF 896 .none (stM (top 52) 3) ER Kw <|
 .cons (oT (nv [Hp,ES,Hn,dp,xr,z77] 967))<|
 .cons (oD 4 [e gS 929 (.str dF 896),e gU 933 (.int 455 932),e eB 946 (.ref 542),e EQ 952 (.ref 547),e sK 958 (.ref 552),e ER 966 (.ref 559),e gV 973 (.ref 560),e jB 975 (.ref 563),e iI 977 (.ref 564),e z2 978 .none])<|
 .cons (oK qK 562 561 922 qK 930)<|
 .cons (oG y3 [(.str jB 974),(.ref 562),(.builtin y4),(.builtin y5)])<|
 .cons (oG y3 [(.str iI 976),(.ref 562),(.builtin y6),.none])<|
 .cons (oG y7 [(.ref 562),(.ref 562),(.ref 562)])<|
 .cons (oG y0 [(.builtin y8),(.ref 562)])<|
 .cons (oT [])<|
 .cons (oG y0 [(.builtin y1),(.type y2)])<|
 .cons (oD 15 [e gS 988 (.str dF 896),e pe 990 (.str qL 989),e gU 992 (.int 473 991),e eB 999 (.ref 580),e ET 1005 (.ref 585),e EU 1013 (.ref 592),e xv 1021 (.ref 599),e EV 1030 (.ref 606),e EW 1039 (.ref 613),e EX 1052 (.ref 620),e EY 1061 (.ref 627),e xu 1071 (.ref 634),e sK 1084 (.ref 641),e EZ 1090 (.ref 646),e gV 1092 (.ref 647)])<|
 .cons (oT [])<|
 .cons (oF [(.int 475 0),(.int 4 0),(.ref 579),(.int 478 0),(.int 4 0),(.ref 584),(.int 494 0),(.int 4 0),(.ref 591),(.int 497 0),(.int 4 0),(.ref 598),(.int 502 0),(.int 4 0),(.ref 605),(.int 512 0),(.int 4 0),(.ref 612),(.int 518 0),(.int 4 0),(.ref 619),(.int 529 0),(.int 4 0),(.ref 626),(.int 532 0),(.int 4 0),(.ref 633),(.int 537 0),(.int 4 0),(.ref 640),(.int 544 0),(.int 4 0),(.ref 645)])<|
 .cons (oQ qL 983 473 570)<|
 .cons (oR 572 569 dF 896)<|
 gF 574 993 475 1 [cj] dF 896 .none (stM (top 53) 0) eB Kx <|
 gE 581 1000 478 2 dF 896 .none (stM (top 53) 1) ET Ky <|
 gF 586 1006 494 2 [cj,dp] dF 896 .none (stM (top 53) 2) EU Kz <|
 gF 593 1014 497 2 [cj,dp] dF 896 .none (stM (top 53) 3) xv KA <|
 gF 600 1022 502 2 [cj,fT,xv] dF 896 .none (stM (top 53) 4) EV KB <|
 gF 607 1031 512 2 [cj,fT,sF] dF 896 .none (stM (top 53) 5) EW KC <|
 gF 614 1040 518 2 [cj,dp,sF,Bj,Em,qM,pf] dF 896 .none (stM (top 53) 6) EX KD <|
 gF 621 1053 529 3 [cj,dp,xr] dF 896 .none (stM (top 53) 7) EY KE <|
 gF 628 1062 532 4 [cj,KF,sG,vd] dF 896 .none (stM (top 53) 8) xu KG <|
 gF 635 1072 537 2 [cj,dp,xv,fT,KH,sG,vd] dF 896 .none (stM (top 53) 9) sK KI <|
 gE 642 1085 544 2 dF 896 .none (stM (top 53) 10) EZ KJ <|
 .cons (oT [(.str KL 1091)])<|
 .cons (oD 4 [e gS 988 (.str dF 896),e gU 992 (.int 473 991),e eB 999 (.ref 580),e ET 1005 (.ref 585),e EU 1013 (.ref 592),e xv 1021 (.ref 599),e EV 1030 (.ref 606),e EW 1039 (.ref 613),e EX 1052 (.ref 620),e EY 1061 (.ref 627),e xu 1071 (.ref 634),e sK 1084 (.ref 641),e EZ 1090 (.ref 646),e gV 1092 (.ref 647),e jB 1094 (.ref 650),e iI 1096 (.ref 651),e z2 1097 .none])<|
 .cons (oK qL 649 648 981 qL 989)<|
 .cons (oG y3 [(.str jB 1093),(.ref 649),(.builtin y4),(.builtin y5)])<|
 .cons (oG y3 [(.str iI 1095),(.ref 649),(.builtin y6),.none])<|
 .cons (oG y7 [(.ref 649),(.ref 649),(.ref 649)])<|
 .cons (oG y0 [(.builtin y8),(.ref 649)])<|
 .cons (oT [(.bool false)])<|
 gF 655 1100 550 4 [j0,dp,pf,ES] dF 896 (.ref 654) (top 54) sE sE <|
 gF 662 1110 552 0 [j0,dp,pf] dF 896 .none (top 55) vb vb <|
 gF 669 1119 572 1 [j0,pf,dp] dF 896 .none (top 56) A7 A7 <|
 gF 676 1128 582 1 [j0,KM,KN,KO,dp,sJ,pf,sK] dF 896 .none (top 57) A8 A8 <|
 .cons (oD 8 (Hu.map fun k=>e k.1 k.2.1 k.2.2))<|
 .cons (⟨(.type y13),none,(.seq ⟨[(.str EP 1145),(.str E0 1146),(.str xw 1147),(.str vf 1148),(.str xx 1149),(.str m3 1150)]⟩ 0),⟨[]⟩⟩)<|
 .cons (⟨(.type y13),none,(.seq ⟨[(.str m3 1152)]⟩ 0),⟨[]⟩⟩)<|
 .cons (⟨(.type y13),none,(.seq ⟨[(.str Hq 1154),(.str xw 1155),(.str vf 1156),(.str xx 1157),(.str m3 1158)]⟩ 0),⟨[]⟩⟩)<|
 .cons (⟨(.type y13),none,(.seq ⟨[(.str E0 1160),(.str xw 1161),(.str vf 1162),(.str xx 1163),(.str m3 1164)]⟩ 0),⟨[]⟩⟩)<|
 .cons (⟨(.type y13),none,(.seq ⟨[(.str Hr 1166),(.str E1 1167),(.str m3 1168)]⟩ 0),⟨[]⟩⟩)<|
 .cons (⟨(.type y13),none,(.seq ⟨[(.str E1 1170),(.str m3 1171)]⟩ 0),⟨[]⟩⟩)<|
 .cons (⟨(.type y13),none,(.seq ⟨[(.str xw 1173),(.str vf 1174),(.str xx 1175),(.str m3 1176)]⟩ 0),⟨[]⟩⟩)<|
 .cons (⟨(.type y13),none,(.seq ⟨[(.str vf 1178),(.str xx 1179),(.str m3 1180)]⟩ 0),⟨[]⟩⟩)<|
 gF 692 1190 598 2 [KP,G7,KQ] iH 1142 .none (top 60) A9 A9 <|
 gF 699 1199 601 2 [Ht,vc,KR] iH 1142 .none (top 61) Ba Ba <|
 gF 706 1208 606 1 [dp] iH 1142 .none (top 62) Bb Bb <|
 gF 713 1215 608 1 [Ht,KS,KU] iH 1142 .none (top 63) Bc Bc <|
 gE 720 1224 614 2 iH 1142 .none (top 64) Bd Bd <|
 gE 725 1230 616 2 iH 1142 .none (top 65) Be Be <|
 gE 730 1236 620 1 iH 1142 .none (top 66) Bf Bf <|
 gF 735 1242 623 3 [KV,KW,Bl] iH 1142 .none (top 67) Bg Bg <|
 gE 742 1251 625 4 iH 1142 .none (top 68) Bh Bh <|
 gE 747 1257 633 4 iH 1142 .none (top 69) Bi Bi <|
 gE 752 1263 639 1 iH 1142 .none (top 70) xq xq <|
 []
noncomputable def alt(b:Bool):List Obj→List Obj
 | []=>[]
 | x::r=>cond b (x::alt false r) (alt true r)
noncomputable def mkT:Nat→List Obj→BT
 | 0,_=>.nil
 | _ + 1,[]=>.nil
 | n + 1,x::r=>.node x (mkT n (alt true r)) (mkT n (alt false r))
noncomputable def o2(e:Str→Nat→Value→DictEntry)(b:Bool):Obj:=⟨.none,none,cond b (.dict ⟨[e Ja 876 (.int 506 0),e Jb 877 (.int 1 0)]⟩ 2) (.dict ⟨[]⟩ 0),⟨[]⟩⟩
noncomputable def trL(P:Params)(e:Str→Nat→Value→DictEntry)(b:Bool)(s:Str)(t g h n:Nat):List Obj:=PySem.W.boot_o_0 P::PySem.W.boot_o_1 P::o2 e b::oD (g + 1) (e z0 165 (.str s t)::(g3 e).take g)::PySem.W.boot_o_4 P::PySem.W.boot_o_5 P::PySem.W.boot_o_6 P::PySem.W.boot_o_7 P::PySem.W.boot_o_8 P::PySem.W.boot_o_9 P::PySem.W.boot_o_10 P::oT []::oF (g12.take h)::(oL e).take n
noncomputable def trQ(P:Params)(b:Bool)(s:Str)(t g h n:Nat):BT:=mkT 11 (trL P (de P) b s t g h n)
noncomputable def tr0(P:Params):BT:=trQ P false El 164 8 0 2
noncomputable def st0(w:World)(os:OsState):SharedT:=⟨tr0 w.params,15,{},⟨[]⟩,{},187,os⟩
noncomputable def tr1(P:Params):BT:=trQ P false dt 279 22 33 79
noncomputable def st1(w:World)(os:OsState):SharedT:=⟨tr1 w.params,92,{},⟨[]⟩,{},283,os⟩
noncomputable def tr2(P:Params):BT:=trQ P false dt 279 23 36 128
noncomputable def st2(w:World)(os:OsState):SharedT:=⟨tr2 w.params,141,{},⟨[]⟩,{},350,os⟩
noncomputable def tr3(P:Params):BT:=trQ P false dt 279 24 39 199
noncomputable def st3(w:World)(os:OsState):SharedT:=⟨tr3 w.params,212,{},⟨[]⟩,{},452,os⟩
noncomputable def tr4(P:Params):BT:=trQ P false dX 503 33 60 244
noncomputable def st4(w:World)(os:OsState):SharedT:=⟨tr4 w.params,257,{},⟨[]⟩,{},511,os⟩
noncomputable def tr5(P:Params):BT:=trQ P false dX 503 34 63 337
noncomputable def st5(w:World)(os:OsState):SharedT:=⟨tr5 w.params,350,{},⟨[]⟩,{},646,os⟩
noncomputable def tr6(P:Params):BT:=trQ P false i8 734 44 93 403
noncomputable def st6(w:World)(os:OsState):SharedT:=⟨tr6 w.params,416,{},⟨[]⟩,{},736,os⟩
noncomputable def tr7(P:Params):BT:=trQ P false i8 734 45 96 431
noncomputable def st7(w:World)(os:OsState):SharedT:=⟨tr7 w.params,444,{},⟨[]⟩,{},781,os⟩
noncomputable def tr8(P:Params):BT:=trQ P false pg 847 46 99 476
noncomputable def st8(w:World)(os:OsState):SharedT:=⟨tr8 w.params,489,{},⟨[]⟩,{},849,os⟩
noncomputable def tr9(P:Params):BT:=trQ P true pg 847 48 105 509
noncomputable def st9(w:World)(os:OsState):SharedT:=⟨tr9 w.params,522,{},⟨[]⟩,{},896,os⟩
noncomputable def KX(P:Params):BT:=trQ P true dF 896 54 108 554
noncomputable def Hv(w:World)(os:OsState):SharedT:=⟨KX w.params,567,{},⟨[]⟩,{},981,os⟩
noncomputable def KY(P:Params):BT:=trQ P true dF 896 55 111 641
noncomputable def Hx(w:World)(os:OsState):SharedT:=⟨KY w.params,654,{},⟨[]⟩,{},1100,os⟩
noncomputable def KZ(P:Params):BT:=trQ P true iH 1142 59 123 670
noncomputable def E2(w:World)(os:OsState):SharedT:=⟨KZ w.params,683,{},⟨[]⟩,{},1144,os⟩
noncomputable def La(P:Params):BT:=trQ P true iH 1142 60 123 679
noncomputable def E3(w:World)(os:OsState):SharedT:=⟨La w.params,692,{},⟨[]⟩,{},1190,os⟩
noncomputable def E4(P:Params):BT:=trQ P true iH 1142 71 156 744
noncomputable def E5(w:World)(os:OsState):SharedT:=⟨E4 w.params,757,{},⟨[]⟩,{},1269,os⟩
noncomputable def Hy:Pos:=⟨0,0,0,0⟩
noncomputable def Hz:List Stmt:=((behindTheImports pq).drop 0).take 16
noncomputable def HA:Pos:=⟨99,0,99,10⟩
noncomputable def HB:List Stmt:=((behindTheImports pq).drop 16).take 1
noncomputable def HC:Pos:=⟨100,0,119,59⟩
noncomputable def HD:List Stmt:=((behindTheImports pq).drop 17).take 1
noncomputable def HF:Pos:=⟨120,0,156,20⟩
noncomputable def HG:List Stmt:=((behindTheImports pq).drop 18).take 10
noncomputable def HJ:Pos:=⟨207,0,207,8⟩
noncomputable def HK:List Stmt:=((behindTheImports pq).drop 28).take 1
noncomputable def HL:Pos:=⟨208,0,328,100⟩
noncomputable def HM:List Stmt:=((behindTheImports pq).drop 29).take 12
noncomputable def HN:Pos:=⟨394,0,394,8⟩
noncomputable def HO:List Stmt:=((behindTheImports pq).drop 41).take 1
noncomputable def HP:Pos:=⟨395,0,406,81⟩
noncomputable def HQ:List Stmt:=((behindTheImports pq).drop 42).take 2
noncomputable def HR:Pos:=⟨440,0,440,8⟩
noncomputable def HT:List Stmt:=((behindTheImports pq).drop 44).take 2
noncomputable def HV:Pos:=⟨447,0,448,8⟩
noncomputable def CP:List Stmt:=((behindTheImports pq).drop 46).take 7
noncomputable def CQ:Pos:=⟨455,0,472,16⟩
noncomputable def CR:List Stmt:=((behindTheImports pq).drop 53).take 1
noncomputable def CT:Pos:=⟨473,0,549,81⟩
noncomputable def CU:List Stmt:=((behindTheImports pq).drop 54).take 5
noncomputable def xy:Pos:=⟨596,0,596,8⟩
noncomputable def xz:List Stmt:=((behindTheImports pq).drop 59).take 1
noncomputable def xA:Pos:=⟨597,0,597,11⟩
noncomputable def CV:List Stmt:=((behindTheImports pq).drop 60).take 11
noncomputable def CW:Pos:=⟨639,0,664,15⟩
noncomputable def hW:Env:={scope:=pq.main.scope,locals:=mainNs,globals:=mainNs,cells:=[],code:=.ref 13,frame:=some 14}
noncomputable def cQ:Code:=.body (behindTheImports pq) hW
noncomputable def cZ:Pos:=⟨0,0,0,0⟩
end Mine
end
section
open PySem PySem.W PyProof.Rows
namespace Mine
theorem eQ{p:Program}{w:World}{n₀:Nat}{ann:Option Value}{b n:Nat}{s:SharedT}{t:Thread}{r:Option (Flow×SharedT×Code×Pos)}
  (h:PySem.W.Fast.tw10110043849684766642 PySem.W.Fast.tw14364793385576792824 p w n₀ ann b n s t=r):segRunT treeTable p w n₀ ann b n s t=r:=by
 rw[PySem.W.Fast.te10110043849684766642,PySem.W.Fast.te14364793385576792824];exact h
theorem HW{p:Program}{w:World}{n₀:Nat}{ann:Option Value}{n:Nat}{s:Shared}{t:Thread}{c:Code}{ps:Pos}{st:List Frame}{s':Shared}
  (h:PySem.W.Fast.tw15667345088766844465 PySem.W.Fast.tw14364793385576792824 p w n₀ ann n s t=some (s',⟨PySem.W.Fast.tw11892475500146522536 PySem.W.Fast.tw14364793385576792824 c,c,ps,st⟩)):
  topGo treeTable p w n₀ ann n s t=some (s',⟨denote treeTable c,c,ps,st⟩):=by
 rw[PySem.W.Fast.te15667345088766844465,PySem.W.Fast.te14364793385576792824,PySem.W.Fast.te11892475500146522536];exact h
theorem pre(w:World)(os:OsState):topGo treeTable pq w 11 (some (.ref 6)) 12 ⟨boot_heap w.params,⟨[]⟩,boot_drawn,boot_toks,os⟩ (topStub pq)=some ((st0 w os).abs,⟨denote treeTable cQ,cQ,cZ,[topFrame cZ]⟩):=HW (by kernel_rfl)
theorem blk(w:World)(os:OsState):segRun treeTable pq w 11 (some (.ref 6)) 1 1 (st0 w os).abs (blockOf (behindTheImports pq) hW cQ cZ [topFrame cZ])=some (.next,(st0 w os).abs,cQ,Hy):=by kernel_rfl
theorem p1(w:World)(os:OsState):segRunT treeTable pq w 11 (some (.ref 6)) 1 378 (st0 w os) (piecesOf Hz hW cQ Hy [topFrame cZ])=some (.next,st1 w os,cQ,HA):=eQ (by kernel_rfl)
theorem p2(w:World)(os:OsState):segRunT treeTable pq w 11 (some (.ref 6)) 1 357 (st1 w os) (piecesOf HB hW cQ HA [topFrame cZ])=some (.next,st2 w os,cQ,HC):=eQ (by kernel_rfl)
theorem p3(w:World)(os:OsState):segRunT treeTable pq w 11 (some (.ref 6)) 1 465 (st2 w os) (piecesOf HD hW cQ HC [topFrame cZ])=some (.next,st3 w os,cQ,HF):=eQ (by kernel_rfl)
theorem p4(w:World)(os:OsState):segRunT treeTable pq w 11 (some (.ref 6)) 1 235 (st3 w os) (piecesOf HG hW cQ HF [topFrame cZ])=some (.next,st4 w os,cQ,HJ):=eQ (by kernel_rfl)
theorem p5(w:World)(os:OsState):segRunT treeTable pq w 11 (some (.ref 6)) 1 605 (st4 w os) (piecesOf HK hW cQ HJ [topFrame cZ])=some (.next,st5 w os,cQ,HL):=eQ (by kernel_rfl)
theorem p6(w:World)(os:OsState):segRunT treeTable pq w 11 (some (.ref 6)) 1 321 (st5 w os) (piecesOf HM hW cQ HL [topFrame cZ])=some (.next,st6 w os,cQ,HN):=eQ (by kernel_rfl)
theorem p7(w:World)(os:OsState):segRunT treeTable pq w 11 (some (.ref 6)) 1 263 (st6 w os) (piecesOf HO hW cQ HN [topFrame cZ])=some (.next,st7 w os,cQ,HP):=eQ (by kernel_rfl)
theorem p8(w:World)(os:OsState):segRunT treeTable pq w 11 (some (.ref 6)) 1 361 (st7 w os) (piecesOf HQ hW cQ HP [topFrame cZ])=some (.next,st8 w os,cQ,HR):=eQ (by kernel_rfl)
theorem p9(w:World)(os:OsState):segRunT treeTable pq w 11 (some (.ref 6)) 1 445 (st8 w os) (piecesOf HT hW cQ HR [topFrame cZ])=some (.next,st9 w os,cQ,HV):=eQ (by kernel_rfl)
theorem p10(w:World)(os:OsState):segRunT treeTable pq w 11 (some (.ref 6)) 1 402 (st9 w os) (piecesOf CP hW cQ HV [topFrame cZ])=some (.next,Hv w os,cQ,CQ):=eQ (by kernel_rfl)
theorem p11(w:World)(os:OsState):segRunT treeTable pq w 11 (some (.ref 6)) 1 549 (Hv w os) (piecesOf CR hW cQ CQ [topFrame cZ])=some (.next,Hx w os,cQ,CT):=eQ (by kernel_rfl)
theorem p12(w:World)(os:OsState):segRunT treeTable pq w 11 (some (.ref 6)) 1 141 (Hx w os) (piecesOf CU hW cQ CT [topFrame cZ])=some (.next,E2 w os,cQ,xy):=eQ (by kernel_rfl)
theorem p13(w:World)(os:OsState):segRunT treeTable pq w 11 (some (.ref 6)) 1 168 (E2 w os) (piecesOf xz hW cQ xy [topFrame cZ])=some (.next,E3 w os,cQ,xA):=byRow2 "special-get-raises" (P:=fun w=>∀os,segRunT treeTable pq w 11 (some (.ref 6)) 1 168 (E2 w os) (piecesOf xz hW cQ xy [topFrame cZ])=some (.next,E3 w os,cQ,xA)) (fun w os=>eQ (by kernel_rfl)) (fun w os=>eQ (by kernel_rfl)) w os
theorem p14(w:World)(os:OsState):segRunT treeTable pq w 11 (some (.ref 6)) 1 310 (E3 w os) (piecesOf CV hW cQ xA [topFrame cZ])=some (.next,E5 w os,cQ,CW):=eQ (by kernel_rfl)
theorem fin(w:World)(os:OsState):topRun treeTable pq w 11 (some (.ref 6)) 2 (E5 w os).abs ⟨doneF .next,cQ,CW,[topFrame cZ]⟩=some (E5 w os).abs:=by kernel_rfl
end Mine
end
section
open PySem PySem.W PyProof.Rows
namespace Mine
noncomputable def qv:Program:=view pq [70]
noncomputable def j4:List Str:=[AA,GR,GS,AB,AC,AD,AE,AF,AG,AH,sD,AI,AJ,GT,u8,qE,AK,AL,u9,AM,AN,AP,AQ,GU,GV,qF,AR,AS,AT,AU,AW,AX,AY,AZ,A5,A6,qG,qH,qI,qJ,GW,GX,GY,GZ,G3,qK,qL,sE,vb,A7,A8,G6,A9,Ba,Bb,Bc,Bd,Be,Bf,Bg,Bh,Bi]
noncomputable def H0(P:Params):Heap:=boot_heap P
noncomputable def H1(P:Params):Heap:=absHeap (E4 P) 757 {}
theorem Bm:behindTheImports pq=Hz++(HB++(HD++(HG++(HK++(HM++(HO++(HQ++(HT++(CP++(CR++(CU++(xz++(CV++[]))))))))))))):=by kernel_rfl
theorem run(w:World)(os:OsState):topRun treeTable pq w 11 (some (.ref 6)) (12 +(1 +(378 +(357 +(465 +(235 +(605 +(321 +(263 +(361 +(445 +(402 +(549 +(141 +(168 +(310 + 2)))))))))))))))) ⟨H0 w.params,⟨[]⟩,boot_drawn,boot_toks,os⟩ (topStub pq)=some ⟨H1 w.params,⟨[]⟩,{},1269,os⟩:=by
 refine go_top (pre w os) (piece_block (blk w os) ?_)
 rw[Bm]
 refine piece_app (segRun_of (p1 w os)) ?_
 refine piece_app (segRun_of (p2 w os)) ?_
 refine piece_app (segRun_of (p3 w os)) ?_
 refine piece_app (segRun_of (p4 w os)) ?_
 refine piece_app (segRun_of (p5 w os)) ?_
 refine piece_app (segRun_of (p6 w os)) ?_
 refine piece_app (segRun_of (p7 w os)) ?_
 refine piece_app (segRun_of (p8 w os)) ?_
 refine piece_app (segRun_of (p9 w os)) ?_
 refine piece_app (segRun_of (p10 w os)) ?_
 refine piece_app (segRun_of (p11 w os)) ?_
 refine piece_app (segRun_of (p12 w os)) ?_
 refine piece_app (segRun_of (p13 w os)) ?_
 refine piece_app (segRun_of (p14 w os)) ?_
 exact piece_nil (fin w os)
theorem lk1(P:Params):staticsOk (importedModules pq.main.body) (H0 P) (H1 P)=true:=by
 rw[PySem.W.Fast.te5923862056798008813];kernel_rfl
theorem lk2(P:Params):namesBound pq (H1 P)=true:=by kernel_rfl
theorem lk3(P:Params)(os:OsState):gensDone ⟨H1 P,⟨[]⟩,{},1269,os⟩=true:=by kernel_rfl
theorem lk4(P:Params):laidKept (H0 P) (H1 P)=true:=by kernel_rfl
theorem lk5(P:Params)(os:OsState):openSeen qv j4 (importedModules pq.main.body) (fun s=>recOk [] s) true ⟨H1 P,⟨[]⟩,{},1269,os⟩=openGood qv j4:=by
 rw[PySem.W.Fast.te5923862056798008813,PySem.W.Fast.te4187177175401517315];kernel_rfl
theorem sz(P:Params):((H0 P).isNs mainGlobals&&(⟨[]⟩:Array GenState).size==0,(H0 P).objs.size,(H0 P).nsMap mainGlobals "__annotations__")=(true,11,some (.ref 6)):=by kernel_rfl
end Mine
end
section
open PySem PySem.W PyProof.Rows
namespace Mine
theorem left:LeftO pq qv j4 (fun s=>recOk [] s) (fun s=>s.heap) (fun w=>H1 w.params) 10100:=
 LeftO.of_pieces (H₀:=H0) (H₁:=H1) (m₀:=11) (boot_open (by kernel_rfl) (by kernel_rfl) (fun s=>by kernel_rfl)) (fun w=>sz w.params) run (by kernel_rfl)
  (fun w=>funext fun os=>by rw[lk1,lk2,lk3,lk4,lk5];rfl)
noncomputable def rwq:OpenLaw:={prog:=pq,name:=(PySem.Str.ofString "law"),about:=[(PySem.Str.ofString "PlainTables"),(PySem.Str.ofString "picked")],foot:=12,most:=some 63,bound:=none,writes:=false}
theorem HX:PySem.Challenge.rw_pq0714_01=rwq:=by
 unfold PySem.Challenge.rw_pq0714_01 rwq
 rfl
noncomputable def dQ:DefRec:={name:=Str.ofString "law",params:=stA (top 70),body:=stB (top 70),scope:=stS (top 70),pos:=⟨639,0,664,15⟩}
noncomputable def YH(w:World)(h:Heap):Prop:=∀b o,(H1 w.params).get? b=some o→h.get? b=some o
noncomputable def Bn:Prop:=WalkO qv j4 (fun _ _=>True) YH rwq.row.toRowW dQ [] (fun f vs=>PySem.call f vs)
theorem okQ:rwq.wellSaid=true:=by
 rw[PySem.W.Fast.te9446332074065402090]
 iterate 18 refine look_both ?_ ?_
 iterate 2 refine look_both ?_ ?_
 iterate 13 refine look_both ?_ ?_
 iterate 5 refine look_both ?_ ?_
 all_goals as_aux_lemma=>kernel_rfl
theorem Bo(hk:Bn):rwq.Holds:=by
 w_on
 refine holds_law okQ fun said=>?_
 refine PySem.W.holds_open (q:=qv) (loose:=j4) (Xt:=fun s=>recOk [] s) (XP:=fun _ _=>True) (Yf:=fun s=>s.heap) (Ya:=fun w=>H1 w.params) (YP:=YH) (N:=10100) (d:=dQ) (kwd:=[]) left
  (fun w s e b o h=>by rw[show s.heap=H1 w.params from e];exact h) (fun w h h' y k b o e=>k b o (y b o e)) (fun s e=>trivial) (fun mg h h' x k=>trivial) (by as_aux_lemma=>kernel_rfl) (by as_aux_lemma=>kernel_rfl) (by as_aux_lemma=>kernel_rfl) (fun s e=>recFacts_of e) (by as_aux_lemma=>rfl) said (look_both (look_both (by as_aux_lemma=>kernel_rfl) (by as_aux_lemma=>kernel_rfl)) (by as_aux_lemma=>kernel_rfl)) ⟨rfl,rfl,rfl,rfl,rfl,by as_aux_lemma=>decide +kernel⟩ ?wit hk
 exact⟨[.list []],by as_aux_lemma=>decide +kernel,by as_aux_lemma=>decide +kernel⟩
theorem xB(hw:Bn):PySem.Challenge.rw_pq0714_01.Holds:=by rw[HX];exact Bo hw
end Mine
end
section
open PySem PySem.W PySem.Calls PyProof.Rows
namespace Mine
noncomputable def faL:List Nat:=[21,33,41,48,55,62,67,72,79,86,91,105,112,119,126,133,155,162,169,176,183,190,197,204,216,223,230,235,240,245,252,270,277,284,291,298,303,308,313,318,325,330,337,342,356,363,370,375,383,390,396,401,408,415,429,436,457,464,469,476,481,503,542,547,552,559,580,585,592,599,606,613,620,627,634,641,646,661,668,675,682,698,705,712,719,724,729,734,741,746,751,756]
noncomputable def faQ(f:Nat):Addr:=faL.getD f 0
noncomputable def caL:List Nat:=[136,207,345,439,484,506,519,562,649]
noncomputable def caQ(k:Nat):Addr:=caL.getD k 0
noncomputable def fnL:List Nat:=[91,202,271,278,222,228,257,137,213,109,172,1000,1000,1000,1000,1000,1000,1000,1000,1000,1000,1000,1000,1000,211,114,159,179,270,160,265,1000,1000,1000,1000,1000,1000,1000,1000,1000,1000,1000,1000,1000,204,289,147,272,165,234,187,268,110,162,1000,1000,1000,1000,1000,1000,1000,1000,1000,1000,1000,1000,1000,1000,1000,1000,1000,1000,1000,1000,1000,1000,1000,207,251,250,252,88,81,85,86,83,87,89,84,82,90,176]
noncomputable def cnL:List Nat:=[52,53,51,44,45,49,35,21,36]
noncomputable def bnQ:BI→Nat
 | .list=>181
 | .tuple=>269
 | .len=>180
 | .sorted=>245
 | .dict=>127
 | .abs=>96
 | .max=>188
 | .min=>197
 | .isTuple=>167
noncomputable def Tq:Tb:={fnm:=fun f=>fnL.getD f 1000,cnm:=fun k=>cnL.getD k 1000,bnm:=bnQ,rng:=226,zp:=297,sor:=245,at_:=[107,125,129,133,139,140,143,155,163,173,186,201,219,231,243,259,283,295],fo:=fun f=>!Nat.beq (fnL.getD f 1000) 1000,co:=fun k=>(Cy k).isSome}
noncomputable def E6{β:Type}(v:Data)(k:(Array Value)→Nat→β)(z:β):β:=Data.casesOn (motive:=fun _=>β) v z (fun _=>z) k (fun _ _=>z) (fun _ _ _=>z) (fun _ _=>z) (fun _=>z) (fun _=>z) (fun _=>z) (fun _=>z) z
theorem xC{β:Type}{k:(Array Value)→Nat→β}{z r:β}{G:Prop}{v:Data}(e:E6 v k z=r)(nd:z≠r)(K:∀x0 x1,v=.seq x0 x1→k x0 x1=r→G):G:=by cases v<;>first | exact K _ _ rfl e | exact absurd e nd
noncomputable def xD{β:Type}(v:Data)(k:(Array DictEntry)→Nat→β)(z:β):β:=Data.casesOn (motive:=fun _=>β) v z (fun _=>z) (fun _ _=>z) k (fun _ _ _=>z) (fun _ _=>z) (fun _=>z) (fun _=>z) (fun _=>z) (fun _=>z) z
theorem Bp{β:Type}{k:(Array DictEntry)→Nat→β}{z r:β}{G:Prop}{v:Data}(e:xD v k z=r)(nd:z≠r)(K:∀x0 x1,v=.dict x0 x1→k x0 x1=r→G):G:=by cases v<;>first | exact K _ _ rfl e | exact absurd e nd
noncomputable def xE{β:Type}(v:Data)(k:FuncData→β)(z:β):β:=Data.casesOn (motive:=fun _=>β) v z (fun _=>z) (fun _ _=>z) (fun _ _=>z) (fun _ _ _=>z) (fun _ _=>z) (fun _=>z) k (fun _=>z) (fun _=>z) z
theorem tZ{β:Type}{k:FuncData→β}{z r:β}{G:Prop}{v:Data}(e:xE v k z=r)(nd:z≠r)(K:∀x0,v=.func x0→k x0=r→G):G:=by cases v<;>first | exact K _ rfl e | exact absurd e nd
noncomputable def t5{β:Type}(v:Data)(k:(Array Value)→β)(z:β):β:=Data.casesOn (motive:=fun _=>β) v z (fun _=>z) (fun _ _=>z) (fun _ _=>z) (fun _ _ _=>z) (fun _ _=>z) (fun _=>z) (fun _=>z) (fun _=>z) k z
theorem vg{β:Type}{k:(Array Value)→β}{z r:β}{G:Prop}{v:Data}(e:t5 v k z=r)(nd:z≠r)(K:∀x0,v=.fields x0→k x0=r→G):G:=by cases v<;>first | exact K _ rfl e | exact absurd e nd
noncomputable def xF{β:Type}(v:Value)(k:β)(z:β):β:=Value.casesOn (motive:=fun _=>β) v k z z (fun _=>z) (fun _ _=>z) (fun _ _=>z) (fun _ _=>z) (fun _ _=>z) (fun _=>z) (fun _=>z) (fun _=>z)
theorem t8{β:Type}{k:β}{z r:β}{G:Prop}{v:Value}(e:xF v k z=r)(nd:z≠r)(K:v=.none→k=r→G):G:=by cases v<;>first | exact K rfl e | exact absurd e nd
noncomputable def CX{β:Type}(v:Value)(k:Bool→β)(z:β):β:=Value.casesOn (motive:=fun _=>β) v z z z k (fun _ _=>z) (fun _ _=>z) (fun _ _=>z) (fun _ _=>z) (fun _=>z) (fun _=>z) (fun _=>z)
theorem Bq{β:Type}{k:Bool→β}{z r:β}{G:Prop}{v:Value}(e:CX v k z=r)(nd:z≠r)(K:∀x0,v=.bool x0→k x0=r→G):G:=by cases v<;>first | exact K _ rfl e | exact absurd e nd
noncomputable def HY{β:Type}(v:Value)(k:Int→Tok→β)(z:β):β:=Value.casesOn (motive:=fun _=>β) v z z z (fun _=>z) k (fun _ _=>z) (fun _ _=>z) (fun _ _=>z) (fun _=>z) (fun _=>z) (fun _=>z)
theorem E7{β:Type}{k:Int→Tok→β}{z r:β}{G:Prop}{v:Value}(e:HY v k z=r)(nd:z≠r)(K:∀x0 x1,v=.int x0 x1→k x0 x1=r→G):G:=by cases v<;>first | exact K _ _ rfl e | exact absurd e nd
noncomputable def Br{β:Type}(v:Value)(k:Str→Tok→β)(z:β):β:=Value.casesOn (motive:=fun _=>β) v z z z (fun _=>z) (fun _ _=>z) (fun _ _=>z) k (fun _ _=>z) (fun _=>z) (fun _=>z) (fun _=>z)
theorem sL{β:Type}{k:Str→Tok→β}{z r:β}{G:Prop}{v:Value}(e:Br v k z=r)(nd:z≠r)(K:∀x0 x1,v=.str x0 x1→k x0 x1=r→G):G:=by cases v<;>first | exact K _ _ rfl e | exact absurd e nd
noncomputable def xG{β:Type}(v:Value)(k:String→β)(z:β):β:=Value.casesOn (motive:=fun _=>β) v z z z (fun _=>z) (fun _ _=>z) (fun _ _=>z) (fun _ _=>z) (fun _ _=>z) k (fun _=>z) (fun _=>z)
theorem t9{β:Type}{k:String→β}{z r:β}{G:Prop}{v:Value}(e:xG v k z=r)(nd:z≠r)(K:∀x0,v=.type x0→k x0=r→G):G:=by cases v<;>first | exact K _ rfl e | exact absurd e nd
noncomputable def vh{β:Type}(v:Value)(k:Addr→β)(z:β):β:=Value.casesOn (motive:=fun _=>β) v z z z (fun _=>z) (fun _ _=>z) (fun _ _=>z) (fun _ _=>z) (fun _ _=>z) (fun _=>z) (fun _=>z) k
theorem md{β:Type}{k:Addr→β}{z r:β}{G:Prop}{v:Value}(e:vh v k z=r)(nd:z≠r)(K:∀x0,v=.ref x0→k x0=r→G):G:=by cases v<;>first | exact K _ rfl e | exact absurd e nd
noncomputable def xH{β:Type}(v:FuncBody)(k:(List Stmt)→β)(z:β):β:=FuncBody.casesOn (motive:=fun _=>β) v k (fun _=>z)
theorem xI{β:Type}{k:(List Stmt)→β}{z r:β}{G:Prop}{v:FuncBody}(e:xH v k z=r)(nd:z≠r)(K:∀x0,v=.stmts x0→k x0=r→G):G:=by cases v<;>first | exact K _ rfl e | exact absurd e nd
noncomputable def oA(P:Params)(a:Nat):Option Obj:=am (Nat.blt a 757) (ay ((E4 P).get a) alive none) none
theorem xJ{P:Params}{a:Nat}{o:Obj}(h:oA P a=some o):(H1 P).get? a=some o:=
 aC h nN fun q h=>ah h nN fun _ g h=>(abs_get (cK q) g).trans h
structure Laid1(X:Cx):Prop where
 prog:X.prog=pq
 fa:X.fa=faQ
 ca:X.ca=caQ
 at_:∀b o,(H1 X.w.params).get? b=some o→X.B b=some o
variable {X:Cx}
theorem Laid1.obj(L:Laid1 X){a:Nat}{o:Obj}(h:oA X.w.params a=some o):X.B a=some o:=L.at_ _ _ (xJ h)
noncomputable def E8(P:Params)(s:String)(a:Nat):Option (List Value×Nat):=ay (oA P a) (fun o=>xG o.cls (fun c=>E6 o.data (fun vs n=>am (decide (c=s)&&(o.dict.isNone&&o.slots.toList.isEmpty)) (some (vs.toList,n)) none) none) none) none
theorem xK{P:Params}{s:String}{a:Nat}{p:List Value×Nat}(h:E8 P s a=some p):oA P a=some ⟨.type s,none,.seq p.1.toArray p.2,#[]⟩:=
 ah h nN fun o g h=>t9 h nN fun c hc h=>xC h nN fun vs n hd h=>aC h nN fun q h=>aT q fun q1 q=>aT q fun q2 q3=>by
  cases h
  obtain⟨oc,od,dd,sl⟩:=o
  cases of_decide_eq_true q1
  cases hc;cases hd
  cases Option.isNone_iff_eq_none.mp q2
  rw[g,show sl=#[] from Array.toList_eq_nil_iff.mp (List.isEmpty_iff.mp q3)]
mutual
noncomputable def vB(P:Params):Nat→AV→Value→Bool
 | 0,_,_=>false
 | n + 1,a,v=>AV.casesOn (motive_1:=fun _=>Bool) a (xF v true false) (fun b=>CX v (fun c=>b==c) false) (fun i=>HY v (fun j _=>decide (i=j)) false) (fun c=>Br v (fun s _=>Nat.blt c nS&&decide (sT c=s)) false)
  (fun l=>vh v (fun a=>ay (E8 P "tuple" a) (fun p=>Nat.ble l.length lim&&vsB P n l p.1) false) false) (fun l=>vh v (fun a=>ay (E8 P "list" a) (fun p=>Nat.ble l.length lim&&vsB P n l p.1) false) false) (fun _=>false) (fun _ _=>false) (fun _=>false) fun _=>false
noncomputable def vsB(P:Params):Nat→List AV→List Value→Bool
 | 0,_,_=>false
 | n + 1,l,vs=>List.casesOn l vs.isEmpty fun a l=>c6 vs false fun v vs=>vB P n a v&&vsB P n l vs
end
theorem xM{ad:List au}{h:Heap}{S:aa}(L:Laid1 X)(R:Rep X ad h S):∀n:Nat,(∀a v,vB X.w.params n a v=true→VR X ad h a v)∧∀l vs,vsB X.w.params n l vs=true→VRs X ad h l vs:=by
 intro n
 induction n with
 | zero=>exact⟨fun _ _ e=>(nomatch e),fun _ _ e=>(nomatch e)⟩
 | succ n ih=>
  refine⟨fun a v e=>?_,fun l vs e=>?_⟩
  ·cases a with
   | none=>exact t8 e nF fun q _=>q▸.none
   | bool b=>exact Bq e nF fun c q e=>by rw[q,←eq_of_beq e];exact .bool _
   | int i=>exact E7 e nF fun j t q e=>by rw[q,←of_decide_eq_true e];exact .int _ _
   | str c=>exact sL e nF fun s t q e=>aT e fun e1 e2=>by rw[q,←of_decide_eq_true e2];exact .str _ _ (cK e1)
   | tup l=>exact md e nF fun a q e=>ah e nF fun p g e=>aT e fun e1 e2=>by rw[q];exact .tup (R.base _ _ (L.obj (xK g))) (d0 e1) (ih.2 _ _ e2)
   | lst l=>exact md e nF fun a q e=>ah e nF fun p g e=>aT e fun e1 e2=>by rw[q];exact .lst (L.obj (xK g)) (d0 e1) (ih.2 _ _ e2)
   | _=>exact nomatch e
  ·cases l with
   | nil=>rw[List.isEmpty_iff.mp e];exact .nil
   | cons a l=>exact bu (G:=fun vs=>VRs X ad h (a::l) vs) e (fun e=>nomatch e) fun v vs e=>aT e fun e1 e2=>.cons (ih.1 _ _ e1) (ih.2 _ _ e2)
noncomputable def H4(P:Params)(d:FuncData):Bool:=vh d.code (fun k=>ay (oA P k) (fun o=>t5 o.data (fun vs=>ay vs[1]? (fun v=>Br v (fun s _=>decide (s=d.qualname)) false) false) false) false) false
noncomputable def dfB(P:Params)(d:FuncData)(l:List AV):Bool:=am l.isEmpty (xF d.defaults true false) (vh d.defaults (fun a=>ay (oA P a) (fun o=>E6 o.data (fun vs _=>vsB P 9 l vs.toList) false) false) false)
noncomputable def scB(F:Fn)(s:Scope):Bool:=decide (s.kind=.function)&&(!s.isCoroutine&&(!s.isGenerator&&(F.ps.all (fun c=>Nat.blt c nS&&(decide (s.names.lookup (sT c)=some .local)||decide (s.names.lookup (sT c)=some .cell)))&&s.names.all fun p=>decide (s.names.lookup p.1=some p.2)&&!decide (p.2=.free))))
noncomputable def paB(F:Fn)(a:Arguments):Bool:=a.posonlyargs.isEmpty&&(decide (a.args.map (·.arg)=F.ps.map sT)&&(a.kwonlyargs.isEmpty&&(a.vararg.isNone&&(a.kwarg.isNone&&(jz F.ps&&Nat.ble F.dflt.length F.ps.length)))))
noncomputable def H5(P:Params)(F:Fn)(d:FuncData):Bool:=scB F d.scope&&(paB F d.params&&(H4 P d&&(dfB P d F.dflt&&(d.closure.isEmpty&&(Nat.beq d.globals mainGlobals&&Nat.beq d.builtins builtinsNs)))))
theorem nT{b:Bool}(h:(!b)=true):b=false:=by cases b;rfl;exact nomatch h
theorem mf(L:Laid1 X){f:Nat}{F:Fn}{d:FuncData}{b:List Stmt}{o:Obj}(ob:oA X.w.params (faQ f)=some o)(hd:o.data=.func d)(hb:d.body=.stmts b)(ch:H5 X.w.params F d=true):kC X f F d b:=
 aT ch fun sc ch=>aT ch fun pa ch=>aT ch fun co ch=>aT ch fun df ch=>aT ch fun cl ch=>aT ch fun gl bn=>aT sc fun s1 sc=>aT sc fun s2 sc=>aT sc fun s3 sc=>aT sc fun s4 s5=>
 aT pa fun p1 pa=>aT pa fun p2 pa=>aT pa fun p3 pa=>aT pa fun p4 pa=>aT pa fun p5 pa=>aT pa fun nd dl=>
 {obj:=⟨o,by rw[L.fa];exact L.obj ob,hd⟩,body:=hb,kind:=of_decide_eq_true s1,nco:=nT s2,ngen:=nT s3,clo:=List.isEmpty_iff.mp cl,glb:=Nat.eq_of_beq_eq_true gl,bns:=Nat.eq_of_beq_eq_true bn
  code:=md co nF fun k q h=>ah h nF fun o g h=>vg h nF fun vs hd h=>ah h nF fun v hv h=>sL h nF fun s t hs h=>fun _ H=>⟨k,o,vs,t,q,H _ _ (L.obj g),hd,by rw[hv,hs,of_decide_eq_true h]⟩
  p1:=List.isEmpty_iff.mp p1,p2:=of_decide_eq_true p2,p3:=List.isEmpty_iff.mp p3,p4:=Option.isNone_iff_eq_none.mp p4,p5:=Option.isNone_iff_eq_none.mp p5
  ps:=fun c hc=>aT (List.all_eq_true.mp s4 c hc) fun h1 h2=>⟨cK h1,(Bool.or_eq_true _ _▸h2:_∨_).elim (fun h=>.inl (of_decide_eq_true h)) fun h=>.inr (of_decide_eq_true h)⟩
  nd:=dW nd,uniq:=fun n k hm=>aT (List.all_eq_true.mp s5 _ hm) fun h _=>of_decide_eq_true h,nofree:=fun n hm=>aT (List.all_eq_true.mp s5 _ hm) fun _ h=>absurd rfl (of_decide_eq_false (nT h)),dl:=d0 dl
  df:=aE df (fun q h=>t8 h nF fun hn _=>⟨[],.inl ⟨hn,rfl⟩,fun _ _ _ _=>by rw[List.isEmpty_iff.mp q];exact .nil⟩) fun _ h=>md h nF fun a q h=>ah h nF fun o g h=>xC h nF fun vs n hd h=>⟨vs.toList,.inr ⟨a,o,n,q,L.obj g,by rw[hd]⟩,fun ad h' S R=>(xM L R 9).2 _ _ h⟩}
noncomputable def Lb(P:Params)(q:Nat×Fn):Bool:=ay (oA P (faQ q.1)) (fun o=>xE o.data (fun d=>xH d.body (fun b=>H5 P q.2 d&&mSs Tq (snk d.scope) q.2.body b) false) false) false
theorem xN(P:Params):fnT.all (Lb P)=true:=by kernel_rfl
theorem E9(L:Laid1 X){q:Nat×Fn}(h:q∈fnT):∃d b,kC X q.1 q.2 d b∧mSs Tq (snk d.scope) q.2.body b=true:=
 ah (List.all_eq_true.mp (xN X.w.params) q h) nF fun o g e=>tZ e nF fun d hd e=>xI e nF fun b hb e=>aT e fun e1 e2=>⟨d,b,mf L g hd hb e1,e2⟩
end Mine
end
section
open PySem PySem.W PySem.Calls PyProof.Rows
namespace Mine
variable {X:Cx}
noncomputable def eR(l:List DictEntry)(n:Str):Option Value:=(l.find? fun e=>e.key.isStr n).map (·.val)
theorem kI(l:List DictEntry)(n:Str):nsFind ⟨l⟩ n=eR l n:=by
 unfold nsFind findBy eR;rw[List.find?_toArray]
noncomputable def esL(o:Obj):List DictEntry:=xD o.data (fun es _=>es.toList) []
noncomputable def ua(l:List DictEntry):Bool:=l.all fun e=>Br e.key (fun _ _=>true) false
theorem ph{o:Obj}{es:Array DictEntry}{ep:Nat}(hd:o.data=.dict es ep):esL o=es.toList:=by unfold esL;rw[hd];rfl
theorem H6{h:Heap}{a:Addr}{o:Obj}{es:Array DictEntry}{ep:Nat}(g:h.get? a=some o)(hd:o.data=.dict es ep)(hk:ua (esL o)=true):h.Ns a (eR (esL o)):=by
 refine⟨o,es,ep,g,hd,fun e hm=>?_,fun n=>?_⟩
 ·exact sL (List.all_eq_true.mp hk e (by rw[ph hd];exact Array.mem_def.mp hm)) nF fun s t q _=>⟨s,t,q⟩
 ·rw[ph hd];exact kI es.toList n
noncomputable def jC(P:Params):Obj:=oD 72 (de P z0 165 (.str iH 1142)::(g3 (de P)).take 71)
structure aS(X:Cx):Prop extends Laid1 X where
 nolimit:∀h,X.On h→h.NoLimit
 gns:∀h,X.On h→h.Ns mainGlobals X.mg
 bns:∀h,X.On h→h.Ns builtinsNs X.mb
 mgf:∀n,X.mg n=eR (esL (jC X.w.params)) n
 boot:∀x:Str,x≠"__name__"→X.mb x=bootBuiltins x
noncomputable def qN(a:Addr)(v:Option Value):Bool:=ay v (fun v=>vh v (fun b=>Nat.beq b a) false) false
theorem jD{a:Addr}{v:Option Value}(h:qN a v=true):v=some (.ref a):=ah h nF fun _ q h=>md h nF fun _ r h=>by rw[q,r,Nat.eq_of_beq_eq_true h]
noncomputable def bD:Nat→(Nat→Bool)→Bool
 | 0,_=>true
 | n + 1,f=>f n&&bD n f
theorem aP{f:Nat→Bool}:∀{n:Nat},bD n f=true→∀{k},k < n→f k=true
 | 0,_,k,q=>absurd q (Nat.not_lt_zero _)
 | n + 1,h,k,q=>aT h fun h1 h2=>(Nat.lt_succ_iff_lt_or_eq.mp q).elim (fun q=>aP h2 q) fun e=>by rw[e];exact h1
theorem cg{α:Type}{x:Nat}{v:α}:∀{l:List (Nat×α)},fM x l=some v→(x,v)∈l
 | [],h=>nomatch h
 | (y,u)::r,h=>aE h (fun e h=>by rw[Nat.eq_of_beq_eq_true e,←Option.some.inj h];exact List.mem_cons_self) fun _ h=>List.mem_cons_of_mem _ (cg h)
noncomputable def foB(P:Params)(f:Nat):Bool:=am (Tq.fo f) (qN (faQ f) (eR (esL (jC P)) (sT (Tq.fnm f)))) true
theorem Fa(P:Params):bD 92 (foB P)=true:=by kernel_rfl
theorem Bs{α:Type}{l:List α}{n:Nat}{d:α}(h:l.length≤n):l.getD n d=d:=by
 rw[List.getD_eq_getElem?_getD,List.getElem?_eq_none h];rfl
theorem CY{f:Nat}(h:Tq.fo f=true):f < 92:=by
 rcases Nat.lt_or_ge f 92 with q | q
 ·exact q
 ·exact absurd (h.symm.trans (show(!Nat.beq (fnL.getD f 1000) 1000)=false by rw[Bs q];rfl)) nofun
theorem ub(L:aS X)(f:Nat)(h:Tq.fo f=true):X.mg (sT (Tq.fnm f))=some (.ref (X.fa f)):=
 aE (aP (Fa X.w.params) (CY h)) (fun _ q=>by rw[L.mgf,L.fa];exact jD q) fun q=>(nomatch h.symm.trans q)
noncomputable def Lc(P:Params)(f:Nat):Bool:=ay (oA P (faQ f)) (fun o=>xG o.cls (fun s=>xE o.data (fun _=>decide (s="function")) false) false) false
theorem Bt(P:Params):bD 92 (Lc P)=true:=by kernel_rfl
theorem xO(L:aS X){f:Nat}(h:f < 92):∃o,X.B (X.fa f)=some o∧o.cls=.type "function"∧∃fd,o.data=.func fd:=
 ah (aP (Bt X.w.params) h) nF fun o g e=>t9 e nF fun s hs e=>tZ e nF fun d hd e=>⟨o,by rw[L.fa];exact L.obj g,by rw[hs,of_decide_eq_true e],d,hd⟩
noncomputable def Ld(P:Params)(k N:Nat):Bool:=ay (oA P N) (fun o=>xD o.data (fun es _=>ua es.toList&&((Tq.at_.all fun c=>(eR es.toList (sT c)).isNone)&&((["__getattribute__","__getattr__","__setattr__","__eq__","__ne__"].all fun c=>(eR es.toList c).isNone)
 &&(ay (fM k we) (fun l=>l.all fun p=>qN (faQ p.2) (eR es.toList (sT p.1))) true&&ay (fM k nh) (fun f=>qN (faQ f) (eR es.toList "__init__")) true)))) false) false
theorem j5(L:aS X)(k a N t:Nat)(nm m:Str)(u:Nat)(hc:caQ k=a)(g:oA X.w.params a=some (oK nm a N t m u))(ch:Ld X.w.params k N=true):Cls X PQ Tq.at_ k:=
 ah ch nF fun o hN ch=>Bp ch nF fun es ep hd ch=>aT ch fun hk ch=>aT ch fun na ch=>aT ch fun ns ch=>aT ch fun me it=>by
 have E:=ph hd
 rw[←E] at hk na ns me it
 have no:=fun c h=>Option.isNone_iff_eq_none.mp (List.all_eq_true.mp ns c h)
 refine⟨nm,nm,N,[.type "object"],[],[],none,none,none,none,some (.str nm t),some (.str m u),some (.bool true),eR (esL o),⟨?_,fun h H=>H6 (H _ _ (L.obj hN)) hd hk,no _ (.head _),no _ (.tail _ (.head _)),no _ (.tail _ (.tail _ (.head _))),no _ (.tail _ (.tail _ (.tail _ (.head _)))),no _ (.tail _ (.tail _ (.tail _ (.tail _ (.head _))))),fun c hc=>Option.isNone_iff_eq_none.mp (List.all_eq_true.mp na c hc),fun m f h=>?_,fun f h=>?_⟩⟩
 ·rw[L.ca,hc];exact L.obj g
 ·rw[L.fa]
  exact ah h nN fun l q h=>by rw[q] at me;exact jD (List.all_eq_true.mp me _ (cg h))
 ·rw[L.fa]
  rw[show fM k nh=some f from h] at it
  exact jD it
theorem Bu(L:aS X):∀q∈nh,Cls X PQ Tq.at_ q.1:=
 List.forall_mem_cons.mpr ⟨j5 L 1 207 206 350 qE qE 358 (by kernel_rfl) (by kernel_rfl) (by kernel_rfl),
 List.forall_mem_cons.mpr ⟨j5 L 2 345 344 511 qF qF 519 (by kernel_rfl) (by kernel_rfl) (by kernel_rfl),
 List.forall_mem_cons.mpr ⟨j5 L 3 439 438 736 qG qG 744 (by kernel_rfl) (by kernel_rfl) (by kernel_rfl),
 List.forall_mem_cons.mpr ⟨j5 L 4 484 483 781 qH qH 789 (by kernel_rfl) (by kernel_rfl) (by kernel_rfl),
 List.forall_mem_cons.mpr ⟨j5 L 7 562 561 922 qK qK 930 (by kernel_rfl) (by kernel_rfl) (by kernel_rfl),
 List.forall_mem_cons.mpr ⟨j5 L 8 649 648 981 qL qL 989 (by kernel_rfl) (by kernel_rfl) (by kernel_rfl),
 fun _ h=>nomatch h⟩⟩⟩⟩⟩⟩
theorem Le(L:aS X)(k:Nat)(h:(PQ.init k).isSome=true):Cls X PQ Tq.at_ k:=
 (Option.isSome_iff_exists.mp h).elim fun _ e=>Bu L _ (cg e)
theorem Bv:Tq.at_.all (fun c=>Nat.blt c nS&&ay (fastLookup "object" (sT c)) Option.isNone false)=true:=by kernel_rfl
theorem xP:we.all (fun q=>q.2.all fun p=>(Nat.blt p.1 nS&&(fastLookup "object" (sT p.1)).isSome)&&Nat.blt p.2 92)=true:=by kernel_rfl
theorem xQ:nh.all (fun q=>Nat.blt q.2 92)=true:=by kernel_rfl
theorem Fb(L:aS X):cD X PQ Tq.at_:=by
 have hm:∀k m f,PQ.meth k m=some f→(Nat.blt m nS&&(fastLookup "object" (sT m)).isSome)=true∧Nat.blt f 92=true:=fun k m f h=>
  ah h nN fun l q h=>aT (List.all_eq_true.mp (List.all_eq_true.mp xP _ (cg q)) _ (cg h)) fun a b=>⟨a,b⟩
 refine⟨L.nolimit,fun h H=>Heap.lt_size (H _ _ (L.obj (a:=sysModules) (o:=boot_o_1 X.w.params) (by kernel_rfl))),L.gns,L.bns,Le L,fun c hc=>?_,fun k m f h=>?_,fun k f h=>?_,⟨by decide,by kernel_rfl⟩,by kernel_rfl,by kernel_rfl,by kernel_rfl,by kernel_rfl,by kernel_rfl,by kernel_rfl,fun a b r h=>(nomatch h)⟩
 ·refine aT (List.all_eq_true.mp Bv c hc) fun h1 h2=>⟨cK h1,?_⟩
  rw[typeLookup_type,builtinLookup_eq_fast]
  exact ah h2 nF fun v q h=>by rw[q,Option.isNone_iff_eq_none.mp h]
 ·refine aT (hm k m f h).1 fun h1 h2=>⟨cK h1,?_⟩
  rw[typeLookup_type,builtinLookup_eq_fast]
  exact(Option.isSome_iff_exists.mp h2).elim fun y e=>by rw[e];exact⟨y,rfl⟩
 ·exact xO L (h.elim (fun h=>cK (List.all_eq_true.mp xQ _ (cg h))) fun h=>h.elim fun m h=>cK (hm k m f h).2)
noncomputable def dB(P:Params):List (Nat×AV)→List (Str×Nat×Value)→Bool
 | [],ks=>ks.isEmpty
 | p::l,ks=>c6 ks false fun k ks=>Nat.blt p.1 nS&&(decide (sT p.1=k.1)&&(vB P 30 p.2 k.2.2&&dB P l ks))
noncomputable abbrev deK(P:Params)(k:Str×Nat×Value):DictEntry:=de P k.1 k.2.1 k.2.2
theorem H7(L:aS X){l:List (Nat×AV)}:∀{ks:List (Str×Nat×Value)},dB X.w.params l ks=true→
  ∃kvs,Pairs (strKind X.prog X.w) (ks.map (deK X.w.params)) kvs∧kvs.map (·.1)=(l.map (·.1)).map sT∧(∀c∈l.map (·.1),c < nS)∧∀ad h S,Rep X ad h S→VRd X ad h l kvs:=by
 induction l with
 | nil=>exact fun {ks} e=>⟨[],by rw[List.isEmpty_iff.mp e];exact .nil,rfl,fun _ q=>(nomatch q),fun _ _ _ _=>.nil⟩
 | cons p l ih=>
  intro ks e
  refine bu (G:=fun ks=>∃kvs,Pairs (strKind X.prog X.w) (ks.map (deK X.w.params)) kvs∧kvs.map (·.1)=((p::l).map (·.1)).map sT∧(∀c∈(p::l).map (·.1),c < nS)∧∀ad h S,Rep X ad h S→VRd X ad h (p::l) kvs) e (fun e=>nomatch e) fun k ks e=>aT e fun e1 e=>aT e fun e2 e=>aT e fun e3 e=>?_
  obtain⟨kvs,q,m,b,r⟩:=ih e
  refine⟨(sT p.1,k.2.2)::kvs,.cons ?_ rfl q,by rw[List.map_cons,m];rfl,fun c hc=>?_,fun ad h S R=>.cons (cK e1) ((xM L.toLaid1 R _).1 _ _ e3) (r ad h S R)⟩
  ·rw[of_decide_eq_true e2];simp[PySem.strKind,de,Value.isStrOf]
  ·rcases List.mem_cons.mp hc with rfl | hc
   ·exact cK e1
   ·exact b c hc
theorem Fd(L:aS X){l:List (Nat×AV)}{a:Addr}{ks:List (Str×Nat×Value)}{n:Nat}(g:X.B a=some ⟨.type "dict",none,.dict ⟨ks.map (deK X.w.params)⟩ n,⟨[]⟩⟩)(e:dB X.w.params l ks=true)(hn:jz (l.map (·.1))=true)(ha:a≠sysModules)(hl:l.length≤lim)
  {ad:List au}{h:Heap}{S:aa}(R:Rep X ad h S):VR X ad h (.dct l) (.ref a):=by
 obtain⟨kvs,p,m,b,r⟩:=H7 L e
 refine .dct (fun h H=>⟨_,_,_,H _ _ g,⟨rfl,rfl,rfl⟩,rfl,fun e he=>?_,p,?_⟩) ha hl (r ad h S R)
 ·obtain⟨k,_,rfl⟩:=List.mem_map.mp (show e∈ks.map (deK X.w.params) by simpa using he)
  exact⟨k.1,by simp[PySem.strKind,de,Value.isStrOf],rfl⟩
 ·rw[m];exact qx (dW hn) b
noncomputable def glB(P:Params):Bool:=pW.all fun q=>am (Nat.beq q.1 80) true (ay (eR (esL (jC P)) (sT q.1)) (vB P 10 q.2) false)
theorem Fe(P:Params):glB P=true:=by kernel_rfl
theorem Lf(P:Params):eR (esL (jC P)) (sT 80)=some (.ref 683):=by kernel_rfl
noncomputable def l80:List (Nat×AV):=ay (fM 80 pW) (fun v=>rM v id []) []
theorem uc:fM 80 pW=some (.dct l80):=by kernel_rfl
theorem xR(L:aS X)(c:Nat)(v:AV)(h:PQ.glob c=some v):∃val,X.mg (sT c)=some val∧∀ad h S,Rep X ad h S→VR X ad h v val:=
 aE (List.all_eq_true.mp (Fe X.w.params) _ (cg h)) (fun q _=>by
  cases Nat.eq_of_beq_eq_true q
  rw[←Option.some.inj (uc.symm.trans h)]
  exact⟨_,(L.mgf _).trans (Lf _),fun ad h S R=>Fd (n:=8) (ks:=Hu) L (L.obj (by kernel_rfl)) (by kernel_rfl) (by kernel_rfl) (by decide) (by decide) R⟩)
  fun _ q=>ah q nF fun u e q=>⟨u,(L.mgf _).trans e,fun ad h S R=>(xM L.toLaid1 R _).1 _ _ q⟩
theorem Ff(P:Params):nh.all (fun q=>qN (caQ q.1) (eR (esL (jC P)) (sT (Tq.cnm q.1))))=true:=by kernel_rfl
theorem Bw(P:Params):[181,269,180,245,127,96,188,197,167,226,297].all (fun c=>(eR (esL (jC P)) (sT c)).isNone)=true:=by kernel_rfl
theorem names(L:aS X):hM X PQ Tq.fnm Tq.cnm Tq.bnm Tq.rng Tq.zp Tq.sor:=by
 have nb:∀c,c∈[181,269,180,245,127,96,188,197,167,226,297]→X.mg (sT c)=none:=fun c hc=>by
  have:=List.all_eq_true.mp (Bw X.w.params) c hc
  rw[L.mgf];exact Option.isNone_iff_eq_none.mp this
 refine⟨xR L,fun k h=>?_,fun b=>?_,⟨nb _ (by decide),(L.boot _ (by decide +kernel)).trans (by kernel_rfl)⟩,⟨nb _ (by decide),(L.boot _ (by decide +kernel)).trans (by kernel_rfl)⟩⟩
 ·obtain⟨f,hf⟩:=Option.isSome_iff_exists.mp h
  rw[L.mgf,L.ca]
  exact jD (List.all_eq_true.mp (Ff X.w.params) _ (cg hf))
 ·cases b<;>exact⟨nb _ (by decide),(L.boot _ (by decide +kernel)).trans (by kernel_rfl)⟩
end Mine
end
section
open PySem PySem.W PySem.Calls PyProof.Rows
namespace Mine
variable {X:Cx} {wf:Nat} {tq:AV→AV→Option Bool}
noncomputable def PT(tq:AV→AV→Option Bool):Pg:={PQ with eqt:=tq}
theorem ud(L:aS X)(E:dG X tq):cD X (PT tq) Tq.at_:=
 have G:=Fb L
 ⟨G.nolimit,G.sysm,G.gns,G.bns,fun k h=>(G.cls k h).rec fun nm q N bs sn sub col dd k0 k1 k2 k3 k5 mN C=>⟨nm,q,N,bs,sn,sub,col,dd,k0,k1,k2,k3,k5,mN,⟨C.obj,C.ns,C.ga,C.gh,C.sa,C.eq,C.ne,C.atn,C.met,C.ini⟩⟩,G.atl,G.metl,G.fnc,G.emp,G.nmPop,G.nmAppend,G.nmExtend,G.nmIndex,G.nmGet,G.nmSetdefault,E⟩
theorem xS(L:aS X):hM X (PT tq) Tq.fnm Tq.cnm Tq.bnm Tq.rng Tq.zp Tq.sor:=have N:=names L;⟨N.gl,N.cl,N.bi,N.rng,N.zp⟩
theorem H8(L:aS X)(E:dG X tq):Ctx X (PT tq) Tq:=⟨ud L E,xS L,I7 (Fb L).sysm,fun f h=>⟨ub L f h,let⟨o,e,_,fd,d⟩:=xO L (CY h);⟨o,fd,e,d⟩⟩,fun k h=>h⟩
theorem CZ(L:aS X)(E:dG X tq){n:Nat}{cf:CF}(C:Snd X n cf):gP X (PT tq) cf n Tq:=sortK (ud L E) (xS L) (ub L) rfl C
noncomputable def Lg(X:Cx)(tq:AV→AV→Option Bool)(wf:Nat)(q:Nat×Fn):Prop:=∃fd body,kC X q.1 q.2 fd body∧∀n cf,Snd X n cf→i5 X (PT tq) cf wf n q.2.body body (fun c=>fd.scope.names.lookup (sT c))
theorem H9(L:aS X)(E:dG X tq){q:Nat×Fn}(h:q∈fnT):Lg X tq wf q:=
 (E9 L.toLaid1 h).elim fun d ⟨b,D,m⟩=>⟨d,b,D,fun n cf C=>i7 (H8 L E) C (CZ L E C) (snk d.scope) _ _ m⟩
theorem qO:dG X (fun _ _=>none):=fun a b r h=>by cases h
theorem ctx(L:aS X):Ctx X PQ Tq:=H8 (tq:=fun _ _=>none) L qO
theorem xT(L:aS X){n:Nat}{cf:CF}(C:Snd X n cf):gP X PQ cf n Tq:=CZ (tq:=fun _ _=>none) L qO C
noncomputable def evO(P:Pg)(wf:Nat)(O:CF):Nat→CF
 | 0=>O
 | d + 1=>fun f args S=>ay (O f args S) some (Cw P wf (evO P wf O d) f args S)
theorem bo.up{n m:Nat}{f:Nat}{args:List AV}{S S':aa}{v:AV}(h:bo X n f args S v S')(le:n≤m):bo X m f args S v S':=fun A ad s xs Q ho R ra K=>h A ad s xs Q ⟨by have:=ho.depth;omega,by have:=ho.units;omega,ho.handled⟩ R ra K
theorem kT(L:aS X)(E:dG X tq){n:Nat}{O:CF}(H:Snd X n O):∀d,Snd X (n + 2 * d) (evO (PT tq) wf O d)
 | 0=>H
 | d + 1=>fun f args S v S' e=>
  c9 e (fun r q e=>(H _ _ _ _ _ (q.trans e)).up (Nat.le_add_right _ _)) fun _ e=>ah e nN fun F hF e=>(H9 L E (cg hF)).elim fun fd ⟨body,D,B⟩=>CL (P:=PT tq) (n:=n + 2 * d) (ud L E) D (B _ _ (kT L E H d)) e
theorem xU(L:aS X)(d:Nat):Snd X (2 * d) (dZ PQ wf d):=qy (ud (tq:=fun _ _=>none) L qO) (fun f F h=>H9 (tq:=fun _ _=>none) L qO (cg h)) d
end Mine
end
section
open PySem PySem.W PySem.Calls PyProof.Rows
namespace Mine
noncomputable def Cx.wth(X:Cx)(B:rY)(td:Nat→AV):Cx:={X with B:=B,td:=td}
variable {X:Cx} {A:Around} {n:Nat} {ad ad':List au} {h h':Heap} {S S':aa} {s:Shared} {B:rY} {td:Nat→AV}
theorem Cx.On.of(hB:∀b o,X.B b=some o→B b=some o){h:Heap}(H:(X.wth B td).On h):X.On h:=fun b o e=>H b o (hB b o e)
theorem aS.wth(L:aS X)(hB:∀b o,X.B b=some o→B b=some o):aS (X.wth B td):=
 ⟨⟨L.prog,L.fa,L.ca,fun b o e=>hB b o (L.at_ b o e)⟩,fun h H=>L.nolimit h (H.of hB),fun h H=>L.gns h (H.of hB),fun h H=>L.bns h (H.of hB),L.mgf,L.boot⟩
mutual
noncomputable def fzV(S:aa)(q:Nat→Option Nat)(θ:Nat→AV):Nat→AV→Option AV
 | 0,_=>none
 | n + 1,v=>AV.casesOn (motive_1:=fun _=>Option AV) v (some .none) (fun b=>some (.bool b)) (fun i=>some (.int i)) (fun c=>some (.str c)) (fun l=>ay (fzL S q θ n l) (fun l=>some (.tup l)) none) (fun l=>ay (fzL S q θ n l) (fun l=>some (.lst l)) none)
  (fun l=>ay (fzD S q θ n l) (fun l=>some (.dct l)) none) (fun k l=>ay (fzD S q θ n l) (fun l=>some (.ins k l)) none)
  (fun i=>ay (q i) (fun j=>some (.ref j)) (ay S[i]? (fun o=>AO.casesOn (motive:=fun _=>Option AV) o (fun l=>ay (fzL S q θ n l) (fun l=>some (.lst l)) none) (fun l=>ay (fzD S q θ n l) (fun l=>some (.dct l)) none) (fun k l=>ay (fzD S q θ n l) (fun l=>some (.ins k l)) none)) none)) (fun i=>some (θ i))
noncomputable def fzL(S:aa)(q:Nat→Option Nat)(θ:Nat→AV):Nat→List AV→Option (List AV)
 | 0,_=>none
 | n + 1,l=>List.casesOn l (some []) fun v r=>ay (fzV S q θ n v) (fun v=>ay (fzL S q θ n r) (fun r=>some (v::r)) none) none
noncomputable def fzD(S:aa)(q:Nat→Option Nat)(θ:Nat→AV):Nat→List (Nat×AV)→Option (List (Nat×AV))
 | 0,_=>none
 | n + 1,l=>List.casesOn l (some []) fun p r=>ay (fzV S q θ n p.2) (fun v=>ay (fzD S q θ n r) (fun r=>some ((p.1,v)::r)) none) none
end
theorem cq{α:Type}{G:α→Prop}{a b:α}(e:some a=some b)(K:G a):G b:=Option.some.inj e▸K
section
variable {q:Nat→Option Nat} {θ:Nat→AV} (hO:∀(i:Nat) (c:au) (o:AO),ad[i]?=some c→S[i]?=some o→OR X ad h c o) (hB:∀b o,X.B b=some o→B b=some o) (hq:∀i j c,q i=some j→ad[i]?=some c→ad'[j]?=some c)
 (hn:∀(i:Nat) (c:au) (o:AO),q i=none→ad[i]?=some c→S[i]?=some o→B c.a=h.get? c.a∧B c.d=h.get? c.d) (hθ:∀i x,VR X ad h (X.td i) x→VR (X.wth B td) ad' h (θ i) x)
include hO hB hq hn hθ
theorem xV(n:Nat):(∀v v' x,fzV S q θ n v=some v'→VR X ad h v x→VR (X.wth B td) ad' h v' x)∧(∀l l' xs,fzL S q θ n l=some l'→VRs X ad h l xs→l'.length=l.length∧VRs (X.wth B td) ad' h l' xs)∧
  (∀l l' xs,fzD S q θ n l=some l'→VRd X ad h l xs→l'.length=l.length∧VRd (X.wth B td) ad' h l' xs):=by
 induction n with
 | zero=>exact⟨fun v v' x e=>(nomatch e),fun v v' x e=>(nomatch e),fun v v' x e=>(nomatch e)⟩
 | succ n ih=>
  obtain⟨iv,il,id⟩:=ih
  refine⟨fun v v' x e r=>?_,fun l l' xs e r=>?_,fun l l' xs e r=>?_⟩
  ·cases v with
   | none=>exact cq (G:=fun v=>VR (X.wth B td) ad' h v x) e (VR.onNone (G:=fun x=>VR (X.wth B td) ad' h .none x) r .none)
   | bool b=>exact cq (G:=fun v=>VR (X.wth B td) ad' h v x) e (VR.onBool (G:=fun x=>VR (X.wth B td) ad' h (.bool b) x) r (.bool b))
   | int i=>exact cq (G:=fun v=>VR (X.wth B td) ad' h v x) e (VR.onInt (G:=fun x=>VR (X.wth B td) ad' h (.int i) x) r fun t=>.int i t)
   | str c=>exact cq (G:=fun v=>VR (X.wth B td) ad' h v x) e (VR.onStr (G:=fun x=>VR (X.wth B td) ad' h (.str c) x) r fun t q=>.str c t q)
   | tok i=>exact cq (G:=fun v=>VR (X.wth B td) ad' h v x) e (hθ _ _ r.ofTok)
   | tup l=>exact ah e nN fun l' q e=>cq (G:=fun v=>VR (X.wth B td) ad' h v x) e (VR.onTup (G:=fun x=>VR (X.wth B td) ad' h (.tup l') x) r fun _ _ _ g hl r=>have z:=il _ _ _ q r;.tup g (z.1▸hl) z.2)
   | lst l=>exact ah e nN fun l' q e=>cq (G:=fun v=>VR (X.wth B td) ad' h v x) e (VR.onLst (G:=fun x=>VR (X.wth B td) ad' h (.lst l') x) r fun _ _ _ g hl r=>have z:=il _ _ _ q r;.lst (hB _ _ g) (z.1▸hl) z.2)
   | dct l=>exact ah e nN fun l' q e=>cq (G:=fun v=>VR (X.wth B td) ad' h v x) e (VR.onDct (G:=fun x=>VR (X.wth B td) ad' h (.dct l') x) r fun _ _ g hs hl r=>have z:=id _ _ _ q r;.dct (fun h H=>g h (H.of hB)) hs (z.1▸hl) z.2)
   | ins k l=>exact ah e nN fun l' q e=>cq (G:=fun v=>VR (X.wth B td) ad' h v x) e (VR.onIns (G:=fun x=>VR (X.wth B td) ad' h (.ins k l') x) r fun _ _ g hl r=>have z:=id _ _ _ q r;.ins (fun h H=>g h (H.of hB)) (z.1▸hl) z.2)
   | ref i=>
    refine VR.onRef (G:=fun x=>VR (X.wth B td) ad' h v' x) r fun c g=>c9 e (fun j q e=>cq (G:=fun v=>VR (X.wth B td) ad' h v _) e (.ref (hq _ _ _ q g))) fun hqn e=>ah e nN fun o e1 e=>?_
    obtain⟨ba,bd⟩:=hn _ _ _ hqn g e1
    have ro:=hO _ _ _ g e1
    cases o with
    | list l=>exact ah e nN fun l' q e=>cq (G:=fun v=>VR (X.wth B td) ad' h v _) e (ro.onList fun _ _ cd g1 hl r1=>have z:=il _ _ _ q r1;.lst (ba.trans g1) (z.1▸hl) z.2)
    | dict l=>exact ah e nN fun l' q e=>cq (G:=fun v=>VR (X.wth B td) ad' h v _) e (ro.onDict fun _ cd g1 hs hl r1=>have z:=id _ _ _ q r1;.dct (fun h1 H=>g1.at fun o e=>H _ _ (ba.trans e)) hs (z.1▸hl) z.2)
    | inst k l=>exact ah e nN fun l' q e=>cq (G:=fun v=>VR (X.wth B td) ad' h v _) e (ro.onInst fun _ g1 dq hl r1=>have z:=id _ _ _ q r1;.ins (fun h1 H=>g1.at dq (fun o e=>H _ _ (ba.trans e)) fun o e=>H _ _ (bd.trans e)) (z.1▸hl) z.2)
  ·cases l with
   | nil=>exact cq (G:=fun l=>l.length=0∧VRs (X.wth B td) ad' h l xs) e ⟨rfl,VRs.onNil (G:=fun xs=>VRs (X.wth B td) ad' h [] xs) r .nil⟩
   | cons a l=>exact ah e nN fun v q1 e=>ah e nN fun l' q2 e=>cq (G:=fun l'=>l'.length=l.length + 1∧VRs (X.wth B td) ad' h l' xs) e (VRs.onCons (G:=fun xs=>(v::l').length=l.length + 1∧VRs (X.wth B td) ad' h (v::l') xs) r fun _ _ r rs=>have z:=il _ _ _ q2 rs;⟨congrArg Nat.succ z.1,.cons (iv _ _ _ q1 r) z.2⟩)
  ·cases l with
   | nil=>exact cq (G:=fun l=>l.length=0∧VRd (X.wth B td) ad' h l xs) e ⟨rfl,VRd.onNil (G:=fun xs=>VRd (X.wth B td) ad' h [] xs) r .nil⟩
   | cons p l=>exact ah e nN fun v q1 e=>ah e nN fun l' q2 e=>cq (G:=fun l'=>l'.length=l.length + 1∧VRd (X.wth B td) ad' h l' xs) e (VRd.onCons (k:=p.1) (v:=p.2) (G:=fun xs=>((p.1,v)::l').length=l.length + 1∧VRd (X.wth B td) ad' h ((p.1,v)::l') xs) r fun _ _ hk r rs=>have z:=id _ _ _ q2 rs;⟨congrArg Nat.succ z.1,.cons hk (iv _ _ _ q1 r) z.2⟩)
noncomputable def fzO(S:aa)(q:Nat→Option Nat)(θ:Nat→AV)(n:Nat)(o:AO):Option AO:=AO.casesOn (motive:=fun _=>Option AO) o (fun l=>ay (fzL S q θ n l) (fun l=>some (.list l)) none) (fun l=>ay (fzD S q θ n l) (fun l=>some (.dict l)) none) (fun k l=>ay (fzD S q θ n l) (fun l=>some (.inst k l)) none)
theorem Fg{n:Nat}{c:au}{o o':AO}(e:fzO S q θ n o=some o')(r:OR X ad h c o):OR (X.wth B td) ad' h c o':=by
 obtain⟨iv,il,id⟩:=xV hO hB hq hn hθ n
 cases o with
 | list l=>exact ah e nN fun l' q e=>cq (G:=fun o=>OR (X.wth B td) ad' h c o) e (r.onList fun _ _ cd g hl r=>have z:=il _ _ _ q r;.list cd g (z.1▸hl) z.2)
 | dict l=>exact ah e nN fun l' q e=>cq (G:=fun o=>OR (X.wth B td) ad' h c o) e (r.onDict fun _ cd g hs hl r=>have z:=id _ _ _ q r;.dict cd g hs (z.1▸hl) z.2)
 | inst k l=>exact ah e nN fun l' q e=>cq (G:=fun o=>OR (X.wth B td) ad' h c o) e (r.onInst fun _ g dq hl r=>have z:=id _ _ _ q r;.inst g dq (z.1▸hl) z.2)
end
noncomputable def sel(σ:List Nat)(ad:List au):List au:=σ.map fun i=>(ad[i]?).getD ⟨0,0⟩
noncomputable def e6(i:Nat):List Nat→Option Nat
 | []=>none
 | x::r=>am (Nat.beq i x) (some 0) (ay (e6 i r) (fun k=>some (k + 1)) none)
theorem qP{i:Nat}:∀{σ:List Nat} {j:Nat},e6 i σ=some j→σ[j]?=some i
 | [],_,e=>nomatch e
 | x::r,j,e=>aE e (fun z e=>cq (G:=fun j=>(x::r)[j]?=some i) e (by rw[Nat.eq_of_beq_eq_true z];rfl)) fun _ e=>ah e nN fun k z e=>cq (G:=fun j=>(x::r)[j]?=some i) e (qP (σ:=r) z)
theorem mh{i:Nat}:∀{σ:List Nat},e6 i σ=none→i∉σ
 | [],_,h=>(nomatch h)
 | x::r,e,h=>aE e (fun _ e=>nomatch e) fun z e=>c9 e (fun _ _ e=>nomatch e) fun w _=>(List.mem_cons.mp h).elim (fun q=>by rw[q,Nat.beq_refl] at z;exact nomatch z) (mh w)
theorem gz{σ:List Nat}{j i:Nat}(e:σ[j]?=some i):(sel σ ad)[j]?=some ((ad[i]?).getD ⟨0,0⟩):=by
 unfold sel;rw[List.getElem?_map,e];rfl
noncomputable def fzS(S:aa)(q:Nat→Option Nat)(θ:Nat→AV)(n:Nat):List Nat→Option aa
 | []=>some []
 | i::r=>ay S[i]? (fun o=>ay (fzO S q θ n o) (fun o=>ay (fzS S q θ n r) (fun t=>some (o::t)) none) none) none
theorem sM{q:Nat→Option Nat}{θ:Nat→AV}{n:Nat}:∀{σ:List Nat} {N:aa},fzS S q θ n σ=some N→N.length=σ.length∧∀(j i:Nat),σ[j]?=some i→∃(o o':AO),S[i]?=some o∧fzO S q θ n o=some o'∧N[j]?=some o'
 | [],N,e=>cq (G:=fun N=>N.length=0∧∀(j i:Nat),[][j]?=some i→∃(o o':AO),S[i]?=some o∧fzO S q θ n o=some o'∧N[j]?=some o') e ⟨rfl,fun j i h=>nomatch h⟩
 | x::r,N,e=>ah e nN fun o e1 e=>ah e nN fun o' e2 e=>ah e nN fun t e3 e=>
  cq (G:=fun N=>N.length=r.length + 1∧∀(j i:Nat),(x::r)[j]?=some i→∃(o o':AO),S[i]?=some o∧fzO S q θ n o=some o'∧N[j]?=some o') e ⟨congrArg Nat.succ (sM e3).1,fun j i h=>by
   cases j with
   | zero=>exact⟨o,o',Option.some.inj (h:some x=some i)▸e1,e2,rfl⟩
   | succ j=>exact(sM e3).2 j i h⟩
noncomputable def fzE(S:aa)(q:Nat→Option Nat)(θ:Nat→AV)(n:Nat)(loc:Loc):List Nat→Option Loc
 | []=>some []
 | x::r=>ay (get? x loc) (fun v=>ay (fzV S q θ n v) (fun v=>ay (fzE S q θ n loc r) (fun t=>some ((x,v)::t)) none) none) none
theorem xW{q:Nat→Option Nat}{θ:Nat→AV}{n:Nat}{loc:Loc}{x:Nat}{v:AV}:∀{xs:List Nat} {loc':Loc},fzE S q θ n loc xs=some loc'→get? x loc'=some v→∃u,get? x loc=some u∧fzV S q θ n u=some v
 | [],_,e,g=>by rw[←Option.some.inj (e:some []=some _)] at g;exact nomatch g
 | y::r,loc',e,g=>ah e nN fun u e1 e=>ah e nN fun u' e2 e=>ah e nN fun t e3 e=>by
  rw[←Option.some.inj e] at g
  exact aE g (fun z g=>by rw[Nat.eq_of_beq_eq_true z,←Option.some.inj g];exact⟨u,e1,e2⟩) fun _ g=>xW e3 g
open Classical in
noncomputable def cr(X:Cx)(h0 h:Heap)(but:Addr→Prop):rY:=fun b=>if(h0.get? b).isSome=true∨but b then X.B b else h.get? b
theorem iz(R:X.On h){h0:Heap}{but:Addr→Prop}:∀b o,X.B b=some o→cr X h0 h but b=some o:=fun b o e=>by
 unfold cr;split
 ·exact e
 ·exact R b o e
theorem qQ(R:X.On h){h0:Heap}{but:Addr→Prop}:(X.wth (cr X h0 h but) td).On h:=fun b o e=>by
 change cr X h0 h but b=some o at e
 unfold cr at e;split at e
 ·exact R b o e
 ·exact e
theorem iA{h0:Heap}{but:Addr→Prop}{b:Addr}(q:but b):cr X h0 h but b=X.B b:=by unfold cr;rw[if_pos (.inr q)]
theorem fU{h0:Heap}{but:Addr→Prop}{b:Addr}(q:h0.get? b=none)(p:¬but b):cr X h0 h but b=h.get? b:=by unfold cr;rw[if_neg];rintro (z | z);rw[q] at z;cases z;exact p z
theorem vj{h0:Heap}{but:Addr→Prop}{b:Addr}(q:cr X h0 h but b≠X.B b):h0.get? b=none:=by
 unfold cr at q;split at q
 ·exact absurd rfl q
 ·rename_i z
  cases e:h0.get? b with
  | none=>rfl
  | some o=>rw[e] at z;exact absurd (.inl rfl) z
end Mine
end
section
open PySem PySem.W PySem.Calls PyProof.Rows
namespace Mine
variable {X:Cx} {A:Around} {n:Nat} {ad ad':List au} {h h' h0:Heap} {S S' S1 N:aa} {s:Shared} {B:rY} {td:Nat→AV} {env:Env} {ex:Addr→Prop} {loc loc1 loc':Loc} {σ xs:List Nat} {m:Nat} {nk:NK} {Q:Flow→Shared→Prop}
noncomputable def mi(env:Env)(cs:List au)(b:Addr):Prop:=Env.has env b∨∃c∈cs,b=c.a∨b=c.d
theorem pi{c:au}(hσ:∀i∈σ,i < ad.length)(hc:c∈sel σ ad):∃i∈σ,ad[i]?=some c:=by
 obtain⟨i,hi,e⟩:=List.mem_map.mp hc
 refine⟨i,hi,?_⟩
 have:=List.getElem?_eq_getElem (hσ i hi)
 rw[this] at e ⊢
 exact congrArg some e
theorem mj{σ:List Nat}(nd:σ.Nodup){j k:Nat}(hj:j < σ.length)(hk:k < σ.length)(ne:j≠k):σ[j]≠σ[k]:=by
 have p:=List.pairwise_iff_getElem.mp nd
 rcases Nat.lt_or_gt_of_ne ne with q | q
 ·exact p j k hj hk q
 ·exact fun e=>p k j hk hj q e.symm
theorem Ia(htd:∀i,X.td i=.none)(R:Rep X ad h S)(F:Frm X ad h env ex loc)(fr:∀c∈ad,h0.get? c.a=none∧h0.get? c.d=none)(hs:fzS S (fun i=>e6 i σ) .tok m σ=some N)(hl:fzE S (fun i=>e6 i σ) .tok m loc xs=some loc')(hd:jz σ=true):
  Rep (X.wth (cr X h0 h (mi env (sel σ ad))) X.td) (sel σ ad) h N∧Frm (X.wth (cr X h0 h (mi env (sel σ ad))) X.td) (sel σ ad) h env ex loc'∧∀c∈sel σ ad,c∈ad:=by
 obtain⟨hNl,hNat⟩:=sM hs
 have hσ:∀i∈σ,i < ad.length:=fun i hi=>by
  obtain⟨j,hj,rfl⟩:=List.getElem_of_mem hi
  obtain⟨o,o',e,_⟩:=hNat j _ (List.getElem?_eq_getElem hj)
  rw[R.len];exact ae e
 have mem:=fun c (hc:c∈sel σ ad)=>pi hσ hc
 have nd:=dW hd
 have hB:=iz (h0:=h0) (but:=mi env (sel σ ad)) R.base
 have hq:∀i j c,e6 i σ=some j→ad[i]?=some c→(sel σ ad)[j]?=some c:=fun i j c e g=>by
  rw[gz (qP e),g];rfl
 have sepd:∀i c,i∉σ→ad[i]?=some c→∀e∈sel σ ad,(c.a≠e.a∧c.a≠e.d)∧c.d≠e.a∧c.d≠e.d:=fun i c hi g e he=>by
  obtain⟨k,hk,gk⟩:=mem e he
  have:=R.sep i k c e (fun z=>hi (z▸hk)) g gk
  exact⟨⟨this.1,this.2.1⟩,this.2.2.1,this.2.2.2⟩
 have hn:∀(i:Nat) (c:au) (o:AO),e6 i σ=none→ad[i]?=some c→S[i]?=some o→cr X h0 h (mi env (sel σ ad)) c.a=h.get? c.a∧cr X h0 h (mi env (sel σ ad)) c.d=h.get? c.d:=fun i c _ e g _=>by
  have hc:=List.mem_of_getElem? g
  have sp:=sepd i c (mh e) g
  refine⟨fU (fr c hc).1 ?_,fU (fr c hc).2 ?_⟩
  ·rintro (z | ⟨e,he,z | z⟩)
   ·exact((F.off z).1 c hc).1 rfl
   ·exact(sp e he).1.1 z
   ·exact(sp e he).1.2 z
  ·rintro (z | ⟨e,he,z | z⟩)
   ·exact((F.off z).1 c hc).2 rfl
   ·exact(sp e he).2.1 z
   ·exact(sp e he).2.2 z
 have hθ:∀i x,VR X ad h (X.td i) x→VR (X.wth (cr X h0 h (mi env (sel σ ad))) X.td) (sel σ ad) h (.tok i) x:=fun i x r=>by
  refine .tok ?_
  show VR _ _ _ (X.td i) x
  rw[htd] at r ⊢
  cases r;exact .none
 refine⟨⟨qQ R.base,by rw[hNl];exact List.length_map _,fun j c o' e e'=>?_,fun j k c e ne e1 e2=>?_,fun c hc=>?_⟩,⟨F.kind,F.glb,F.bns,?_,fun n c e=>?_,F.inj,F.exL,fun x v e hx k hk vk=>?_⟩,fun c hc=>let⟨i,_,g⟩:=mem c hc;List.mem_of_getElem? g⟩
 ·have hj:j < σ.length:=by have:=ae e;unfold sel at this;rwa [List.length_map] at this
  have ej:=List.getElem?_eq_getElem hj
  obtain⟨o,o2,g1,g2,g3⟩:=hNat j _ ej
  rw[e'] at g3;cases g3
  rw[gz ej,List.getElem?_eq_getElem (hσ _ (List.getElem_mem hj))] at e
  cases e
  exact Fg R.objs hB hq hn hθ g2 (R.objs _ _ _ (List.getElem?_eq_getElem (hσ _ (List.getElem_mem hj))) g1)
 ·have hj:j < σ.length:=by have:=ae e1;unfold sel at this;rwa [List.length_map] at this
  have hk:k < σ.length:=by have:=ae e2;unfold sel at this;rwa [List.length_map] at this
  rw[gz (List.getElem?_eq_getElem hj),List.getElem?_eq_getElem (hσ _ (List.getElem_mem hj))] at e1
  rw[gz (List.getElem?_eq_getElem hk),List.getElem?_eq_getElem (hσ _ (List.getElem_mem hk))] at e2
  cases e1;cases e2
  exact R.sep _ _ _ _ (mj nd hj hk ne) (List.getElem?_eq_getElem _) (List.getElem?_eq_getElem _)
 ·obtain⟨i,_,g⟩:=mem c hc
  have:=R.new c (List.mem_of_getElem? g)
  exact⟨(iA (.inr ⟨c,hc,.inl rfl⟩)).trans this.1,(iA (.inr ⟨c,hc,.inr rfl⟩)).trans this.2⟩
 ·obtain⟨f,nb,xl,N⟩:=F.L
  exact⟨fun c hc=>let⟨i,_,g⟩:=mem c hc;f c (List.mem_of_getElem? g),(iA (.inl (.inl rfl))).trans nb,xl,N⟩
 ·obtain⟨f,nb,r⟩:=F.cells n c e
  exact⟨fun c hc=>let⟨i,_,g⟩:=mem c hc;f c (List.mem_of_getElem? g),(iA (.inl (.inr ⟨n,e⟩))).trans nb,r⟩
 ·obtain⟨u,e1,e2⟩:=xW hl e
  obtain⟨val,r,w⟩:=F.vars x u e1 hx k hk vk
  exact⟨val,(xV R.objs hB hq hn hθ m).1 _ _ _ e2 r,w⟩
inductive AtS(X:Cx)(h0:Heap)(env:Env)(ex:Addr→Prop)(loc:Loc)(S:aa)(h:Heap):Prop
 | mk (B:rY) (ad:List au):(∀b o,X.B b=some o→B b=some o)→(∀b,B b≠X.B b→h0.get? b=none)→Rep (X.wth B X.td) ad h S→Frm (X.wth B X.td) ad h env ex loc→(∀c∈ad,h0.get? c.a=none∧h0.get? c.d=none)→
   (∀b o,h0.get? b=some o→h.get? b=some o)→AtS X h0 env ex loc S h
theorem qR{T:Heap}(keep:∀b o,h0.get? b=some o→h.get? b=some o){b:Addr}(e:h.get? b=none):h0.get? b=none:=by
 cases q:h0.get? b with
 | none=>rfl
 | some o=>rw[keep b o q] at e;cases e
theorem ml(T:ai X ex ad h ad' S' h')(fr:∀c∈ad,h0.get? c.a=none∧h0.get? c.d=none)(keep:∀b o,h0.get? b=some o→h.get? b=some o)(fx:∀b,ex b→h0.get? b=none):
  (∀c∈ad',h0.get? c.a=none∧h0.get? c.d=none)∧(∀b o,h0.get? b=some o→h'.get? b=some o):=by
 refine⟨fun c hc=>?_,fun b o e=>T.ext b o (keep b o e) (fun c hc=>?_) fun z=>?_⟩
 ·obtain⟨i,hi,rfl⟩:=List.getElem_of_mem hc
  have e:=List.getElem?_eq_getElem hi
  rcases Nat.lt_or_ge i ad.length with q | q
  ·have:=T.pre i _ (List.getElem?_eq_getElem q)
   rw[e] at this;injection this with this
   rw[this];exact fr _ (List.getElem_mem q)
  ·have:=(T.fresh i _ q e).1
   exact⟨qR (T:=h) keep this.1,qR (T:=h) keep this.2⟩
 ·have:=fr c hc
  exact⟨fun z=>(by rw[z,this.1] at e;cases e),fun z=>(by rw[z,this.2] at e;cases e)⟩
 ·rw[fx b z] at e;cases e
theorem AtS.stage(L:aS X)(htd:∀i,X.td i=.none){cf:CF}(C:∀X',aS X'→Snd X' n cf){i:IS}{st:Stmt}(hm:mS Tq nk i st=true)(he:evS PQ cf 1000 i loc S=some (.next loc1,S1))
  (hs:fzS S1 (fun i=>e6 i σ) .tok m σ=some N)(hl:fzE S1 (fun i=>e6 i σ) .tok m loc1 xs=some loc')(hd:jz σ=true)(ho:aQ A (n + 1))(Z:Scp env ex nk)(fx:∀b,ex b→h0.get? b=none)
  (a:AtS X h0 env ex loc S s.heap)(K:∀h' tk,AtS X h0 env ex loc' N h'→Q .next {s with heap:=h',toks:=tk}):wpAny (MX X) A (exec st env) Q NoE s:=by
 obtain⟨B,ad,hB,hnew,R,F,fr,keep⟩:=a
 have L':aS (X.wth B X.td):=L.wth hB
 refine xi (ctx L') (C _ L') (xT L' (C _ L')) nk i st hm A ad s S loc env ex (.next loc1) S1 Q ho R F Z he fun ad1 h1 tk1 fw T r=>?_
 obtain⟨rfl,F1⟩:=r
 obtain⟨fr1,keep1⟩:=ml T fr keep fx
 obtain⟨R2,F2,sub⟩:=Ia (X:=X.wth B X.td) (h0:=h0) htd T.rep F1 fr1 hs hl hd
 refine K h1 tk1 ⟨_,sel σ ad1,fun b o e=>iz T.rep.base b o (hB b o e),fun b q=>?_,R2,F2,fun c hc=>fr1 c (sub c hc),keep1⟩
 by_cases z:cr (X.wth B X.td) h0 h1 (mi env (sel σ ad1)) b=(X.wth B X.td).B b
 ·exact hnew b fun w=>q (z.trans w)
 ·exact vj z
end Mine
end
section
open PySem PySem.W PySem.Calls PyProof.Rows
namespace Mine
noncomputable def cz(i:IS)(σ:List Nat)(loc:Loc)(S:aa):Option (Loc×aa):=match evS PQ (dZ PQ 1000 50) 1000 i loc S with
 | some (.next loc1,S1)=>(match fzS S1 (fun i=>e6 i σ) .tok 100 σ with
  | some N=>(match fzE S1 (fun i=>e6 i σ) .tok 100 loc1 [173] with | some loc'=>some (loc',N) | none=>none)
  | none=>none)
 | _=>none
theorem vm{i:IS}{σ:List Nat}{loc loc':Loc}{S N:aa}(h:cz i σ loc S=some (loc',N)):∃loc1 S1,evS PQ (dZ PQ 1000 50) 1000 i loc S=some (.next loc1,S1)∧fzS S1 (fun i=>e6 i σ) .tok 100 σ=some N∧fzE S1 (fun i=>e6 i σ) .tok 100 loc1 [173]=some loc':=by
 unfold cz at h
 split at h
 ·rename_i loc1 S1 e
  split at h
  ·rename_i N' e1
   split at h
   ·rename_i l' e2;cases h;exact⟨loc1,S1,e,e1,e2⟩
   ·cases h
  ·cases h
 ·cases h
noncomputable def lc0:Loc:=[(173,.ref 0)]
noncomputable def en0:Nat×AV:=(12,.ins 7 [(201,.str 12),(219,.lst []),(259,.none),(155,.bool true),(163,.bool false),(133,.lst [])])
noncomputable def en1:Nat×AV:=(64,.ins 7 [(201,.str 64),(219,.lst []),(259,.tup [.str 201,.str 12,.tup []]),(155,.bool true),(163,.bool false),(133,.lst [])])
noncomputable def en2:Nat×AV:=(28,.ins 7 [(201,.str 28),(219,.lst []),(259,.tup [.str 201,.str 12,.tup []]),(155,.bool true),(163,.bool false),(133,.lst [])])
noncomputable def en3:Nat×AV:=(41,.ins 7 [(201,.str 41),(219,.lst []),(259,.tup [.str 201,.str 12,.tup []]),(155,.bool true),(163,.bool false),(133,.lst [])])
noncomputable def en4:Nat×AV:=(8,.ins 7 [(201,.str 8),(219,.lst []),(259,.tup [.str 201,.str 12,.tup []]),(155,.bool true),(163,.bool false),(133,.lst [])])
noncomputable def en5:Nat×AV:=(10,.ins 7 [(201,.str 10),(219,.lst []),(259,.tup [.str 201,.str 12,.tup []]),(155,.bool true),(163,.bool false),(133,.lst [])])
noncomputable def en6:Nat×AV:=(25,.ins 7 [(201,.str 25),(219,.lst []),(259,.tup [.str 201,.str 12,.tup []]),(155,.bool true),(163,.bool false),(133,.lst [])])
noncomputable def en7:Nat×AV:=(47,.ins 7 [(201,.str 47),(219,.lst []),(259,.tup [.str 201,.str 41,.tup []]),(155,.bool true),(163,.bool false),(133,.lst [])])
noncomputable def en8:Nat×AV:=(34,.ins 7 [(201,.str 34),(219,.lst []),(259,.tup [.str 201,.str 47,.tup []]),(155,.bool true),(163,.bool false),(133,.lst [])])
noncomputable def en9:Nat×AV:=(54,.ins 7 [(201,.str 54),(219,.lst []),(259,.tup [.str 201,.str 34,.tup []]),(155,.bool true),(163,.bool false),(133,.lst [])])
noncomputable def pn:Nat×AV:=(76,.ins 7 [(201,.str 76),(219,.lst []),(259,.tup [.str 201,.str 34,.tup []]),(155,.bool true),(163,.bool false),(133,.lst [])])
noncomputable def qS:Nat×AV:=(33,.ins 7 [(201,.str 33),(219,.lst []),(259,.tup [.str 201,.str 54,.tup []]),(155,.bool false),(163,.bool false),(133,.lst [])])
noncomputable def qT:Nat×AV:=(30,.ins 7 [(201,.str 30),(219,.lst []),(259,.tup [.str 201,.str 54,.tup []]),(155,.bool false),(163,.bool false),(133,.lst [])])
noncomputable def qU:Nat×AV:=(31,.ins 7 [(201,.str 31),(219,.lst []),(259,.tup [.str 201,.str 54,.tup []]),(155,.bool false),(163,.bool false),(133,.lst [])])
noncomputable def qV:Nat×AV:=(32,.ins 7 [(201,.str 32),(219,.lst []),(259,.tup [.str 201,.str 54,.tup []]),(155,.bool false),(163,.bool false),(133,.lst [])])
noncomputable def qW:Nat×AV:=(16,.ins 7 [(201,.str 16),(219,.lst []),(259,.tup [.str 201,.str 54,.tup []]),(155,.bool false),(163,.bool false),(133,.lst [])])
noncomputable def sN:Nat×AV:=(70,.ins 7 [(201,.str 70),(219,.lst []),(259,.tup [.str 201,.str 76,.tup []]),(155,.bool false),(163,.bool false),(133,.lst [])])
noncomputable def sO:Nat×AV:=(67,.ins 7 [(201,.str 67),(219,.lst []),(259,.tup [.str 201,.str 76,.tup []]),(155,.bool false),(163,.bool false),(133,.lst [])])
noncomputable def sP:Nat×AV:=(68,.ins 7 [(201,.str 68),(219,.lst []),(259,.tup [.str 201,.str 76,.tup []]),(155,.bool false),(163,.bool false),(133,.lst [])])
noncomputable def sQ:Nat×AV:=(69,.ins 7 [(201,.str 69),(219,.lst []),(259,.tup [.str 201,.str 76,.tup []]),(155,.bool false),(163,.bool false),(133,.lst [])])
noncomputable def vn:Nat×AV:=(17,.ins 7 [(201,.str 17),(219,.lst []),(259,.tup [.str 201,.str 34,.tup []]),(155,.bool false),(163,.bool false),(133,.lst [])])
noncomputable def vo:Nat×AV:=(20,.ins 7 [(201,.str 20),(219,.lst []),(259,.tup [.str 201,.str 8,.tup []]),(155,.bool false),(163,.bool false),(133,.lst [])])
noncomputable def vq:Nat×AV:=(57,.ins 7 [(201,.str 57),(219,.lst []),(259,.tup [.str 201,.str 10,.tup []]),(155,.bool false),(163,.bool false),(133,.lst [])])
noncomputable def xX:Nat×AV:=(59,.ins 7 [(201,.str 59),(219,.lst []),(259,.tup [.str 201,.str 12,.tup []]),(155,.bool false),(163,.bool false),(133,.lst [])])
noncomputable def Bx:Nat×AV:=(40,.ins 7 [(201,.str 40),(219,.lst []),(259,.tup [.str 201,.str 12,.tup []]),(155,.bool false),(163,.bool false),(133,.lst [])])
noncomputable def Fh:Nat×AV:=(26,.ins 7 [(201,.str 26),(219,.lst []),(259,.tup [.str 201,.str 12,.tup []]),(155,.bool false),(163,.bool true),(133,.lst [.tup [.str 148,.tup [.str 201,.str 59,.tup []]],.tup [.str 105,.tup [.str 201,.str 12,.tup []]]])])
noncomputable def Ib:Nat×AV:=(23,.ins 7 [(201,.str 23),(219,.lst []),(259,.tup [.str 201,.str 25,.tup []]),(155,.bool false),(163,.bool false),(133,.lst [])])
noncomputable def Ic:Nat×AV:=(29,.ins 7 [(201,.str 29),(219,.lst []),(259,.tup [.str 201,.str 25,.tup []]),(155,.bool false),(163,.bool false),(133,.lst [])])
noncomputable def Id:Nat×AV:=(65,.ins 7 [(201,.str 65),(219,.lst []),(259,.tup [.str 201,.str 25,.tup []]),(155,.bool false),(163,.bool false),(133,.lst [])])
noncomputable def Ie:Nat×AV:=(55,.ins 7 [(201,.str 55),(219,.lst []),(259,.tup [.str 201,.str 25,.tup []]),(155,.bool false),(163,.bool false),(133,.lst [])])
noncomputable def Ig:Nat×AV:=(13,.ins 7 [(201,.str 13),(219,.lst []),(259,.tup [.str 201,.str 25,.tup []]),(155,.bool false),(163,.bool false),(133,.lst [.tup [.str 199,.tup [.str 201,.str 12,.tup []]]])])
noncomputable def Ih:Nat×AV:=(42,.ins 7 [(201,.str 42),(219,.lst []),(259,.tup [.str 201,.str 25,.tup []]),(155,.bool false),(163,.bool false),(133,.lst [.tup [.str 199,.tup [.str 201,.str 12,.tup []]]])])
noncomputable def Ii:Nat×AV:=(22,.ins 7 [(201,.str 22),(219,.lst []),(259,.tup [.str 201,.str 25,.tup []]),(155,.bool false),(163,.bool false),(133,.lst [.tup [.str 199,.tup [.str 201,.str 12,.tup []]]])])
noncomputable def Ij:Nat×AV:=(24,.ins 7 [(201,.str 24),(219,.lst []),(259,.tup [.str 201,.str 25,.tup []]),(155,.bool false),(163,.bool false),(133,.lst [.tup [.str 199,.tup [.str 201,.str 12,.tup []]]])])
noncomputable def Ik:Nat×AV:=(38,.ins 7 [(201,.str 38),(219,.lst []),(259,.tup [.str 201,.str 25,.tup []]),(155,.bool false),(163,.bool false),(133,.lst [.tup [.str 131,.tup [.str 201,.str 12,.tup []]],.tup [.str 105,.tup [.str 201,.str 12,.tup []]]])])
noncomputable def Il:Nat×AV:=(11,.ins 7 [(201,.str 11),(219,.lst []),(259,.tup [.str 201,.str 25,.tup []]),(155,.bool false),(163,.bool false),(133,.lst [.tup [.str 131,.tup [.str 201,.str 12,.tup []]],.tup [.str 105,.tup [.str 201,.str 12,.tup []]]])])
noncomputable def Im:Nat×AV:=(72,.ins 7 [(201,.str 72),(219,.lst []),(259,.tup [.str 201,.str 25,.tup []]),(155,.bool false),(163,.bool false),(133,.lst [.tup [.str 281,.tup [.str 201,.str 12,.tup []]]])])
noncomputable def Io:Nat×AV:=(18,.ins 7 [(201,.str 18),(219,.lst []),(259,.tup [.str 201,.str 25,.tup []]),(155,.bool false),(163,.bool false),(133,.lst [.tup [.str 92,.tup [.str 201,.str 12,.tup []]],.tup [.str 151,.tup [.str 201,.str 12,.tup []]]])])
noncomputable def Lh:Nat×AV:=(7,.ins 7 [(201,.str 7),(219,.lst [.tup [.str 60,.tup [.str 112],.tup [.str 201,.str 12,.tup []]],.tup [.str 39,.tup [.str 112],.tup [.str 201,.str 12,.tup []]]]),(259,.tup [.str 201,.str 12,.tup []]),(155,.bool true),(163,.bool false),(133,.lst [])])
noncomputable def Li:Nat×AV:=(14,.ins 7 [(201,.str 14),(219,.lst [.tup [.str 60,.tup [.str 112],.tup [.str 201,.str 12,.tup []]],.tup [.str 39,.tup [.str 112],.tup [.str 201,.str 12,.tup []]]]),(259,.tup [.str 201,.str 7,.tup [.tup [.str 281,.str 60],.tup [.str 281,.str 39]]]),(155,.bool false),(163,.bool true),(133,.lst [])])
noncomputable def Lj:Nat×AV:=(58,.ins 7 [(201,.str 58),(219,.lst [.tup [.str 60,.tup [.str 112],.tup [.str 201,.str 12,.tup []]],.tup [.str 39,.tup [.str 112],.tup [.str 201,.str 12,.tup []]]]),(259,.tup [.str 201,.str 7,.tup [.tup [.str 281,.str 60],.tup [.str 281,.str 39]]]),(155,.bool false),(163,.bool true),(133,.lst [])])
noncomputable def Lk:Nat×AV:=(9,.ins 7 [(201,.str 9),(219,.lst [.tup [.str 60,.tup [.str 112],.tup [.str 201,.str 12,.tup []]]]),(259,.tup [.str 201,.str 7,.tup [.tup [.str 281,.str 60],.tup [.str 200,.int (1)]]]),(155,.bool true),(163,.bool false),(133,.lst [])])
noncomputable def Ll:Nat×AV:=(75,.ins 7 [(201,.str 75),(219,.lst [.tup [.str 60,.tup [.str 112],.tup [.str 201,.str 12,.tup []]]]),(259,.tup [.str 201,.str 9,.tup [.tup [.str 281,.str 60]]]),(155,.bool false),(163,.bool false),(133,.lst [.tup [.str 249,.tup [.str 281,.str 60]],.tup [.str 254,.tup [.str 281,.str 60]]])])
noncomputable def Lm:Nat×AV:=(56,.ins 7 [(201,.str 56),(219,.lst [.tup [.str 60,.tup [.str 112],.tup [.str 201,.str 12,.tup []]]]),(259,.tup [.str 201,.str 9,.tup [.tup [.str 281,.str 60]]]),(155,.bool false),(163,.bool false),(133,.lst [.tup [.str 249,.tup [.str 281,.str 60]],.tup [.str 253,.tup [.str 281,.str 60]],.tup [.str 254,.tup [.str 281,.str 60]]])])
noncomputable def Ln:Nat×AV:=(48,.ins 7 [(201,.str 48),(219,.lst [.tup [.str 60,.tup [.str 112],.tup [.str 201,.str 12,.tup []]]]),(259,.tup [.str 201,.str 12,.tup []]),(155,.bool false),(163,.bool true),(133,.lst [.tup [.str 296,.tup [.str 281,.str 60]]])])
noncomputable def Lo:Nat×AV:=(46,.ins 7 [(201,.str 46),(219,.lst [.tup [.str 60,.tup [.str 112],.tup [.str 201,.str 34,.tup []]]]),(259,.tup [.str 201,.str 47,.tup []]),(155,.bool false),(163,.bool false),(133,.lst [.tup [.str 208,.tup [.str 281,.str 60]],.tup [.str 126,.tup [.str 281,.str 60]]])])
noncomputable def dk0:List (Nat×AV):=[en0]
noncomputable def dk1:List (Nat×AV):=[en0,en1,en2,en3,en4,en5,en6]
noncomputable def dk2:List (Nat×AV):=[en0,en1,en2,en3,en4,en5,en6,en7]
noncomputable def dk3:List (Nat×AV):=[en0,en1,en2,en3,en4,en5,en6,en7,en8]
noncomputable def dk4:List (Nat×AV):=[en0,en1,en2,en3,en4,en5,en6,en7,en8,en9]
noncomputable def dk5:List (Nat×AV):=[en0,en1,en2,en3,en4,en5,en6,en7,en8,en9,pn]
noncomputable def dk6:List (Nat×AV):=[en0,en1,en2,en3,en4,en5,en6,en7,en8,en9,pn,qS,qT,qU,qV,qW]
noncomputable def dk7:List (Nat×AV):=[en0,en1,en2,en3,en4,en5,en6,en7,en8,en9,pn,qS,qT,qU,qV,qW,sN,sO,sP,sQ]
noncomputable def dk8:List (Nat×AV):=[en0,en1,en2,en3,en4,en5,en6,en7,en8,en9,pn,qS,qT,qU,qV,qW,sN,sO,sP,sQ,vn,vo,vq]
noncomputable def dk9:List (Nat×AV):=[en0,en1,en2,en3,en4,en5,en6,en7,en8,en9,pn,qS,qT,qU,qV,qW,sN,sO,sP,sQ,vn,vo,vq,xX]
noncomputable def Ip:List (Nat×AV):=[en0,en1,en2,en3,en4,en5,en6,en7,en8,en9,pn,qS,qT,qU,qV,qW,sN,sO,sP,sQ,vn,vo,vq,xX,Bx]
noncomputable def Iq:List (Nat×AV):=[en0,en1,en2,en3,en4,en5,en6,en7,en8,en9,pn,qS,qT,qU,qV,qW,sN,sO,sP,sQ,vn,vo,vq,xX,Bx,Fh]
noncomputable def Ir:List (Nat×AV):=[en0,en1,en2,en3,en4,en5,en6,en7,en8,en9,pn,qS,qT,qU,qV,qW,sN,sO,sP,sQ,vn,vo,vq,xX,Bx,Fh,Ib,Ic,Id,Ie,Ig,Ih,Ii,Ij,Ik,Il,Im,Io]
noncomputable def xY:List (Nat×AV):=[en0,en1,en2,en3,en4,en5,en6,en7,en8,en9,pn,qS,qT,qU,qV,qW,sN,sO,sP,sQ,vn,vo,vq,xX,Bx,Fh,Ib,Ic,Id,Ie,Ig,Ih,Ii,Ij,Ik,Il,Im,Io,Lh,Li,Lj,Lk,Ll,Lm,Ln,Lo]
noncomputable def nk(l:List (Nat×AV)):aa:=[.inst 8 [(125,.ref 1)],.dict l]
noncomputable def sk(i:Nat):IS:=(f78.body[i]?).getD .bad
theorem sg0:cz (sk 0) [0,5] [] []=some (lc0,nk dk0):=by kernel_rfl
theorem sg1:cz (sk 1) [0,1] lc0 (nk dk0)=some (lc0,nk dk1):=by kernel_rfl
theorem sg2:cz (sk 2) [0,1] lc0 (nk dk1)=some (lc0,nk dk2):=by kernel_rfl
theorem sg3:cz (sk 3) [0,1] lc0 (nk dk2)=some (lc0,nk dk3):=by kernel_rfl
theorem sg4:cz (sk 4) [0,1] lc0 (nk dk3)=some (lc0,nk dk4):=by kernel_rfl
theorem sg5:cz (sk 5) [0,1] lc0 (nk dk4)=some (lc0,nk dk5):=by kernel_rfl
theorem sg6:cz (sk 6) [0,1] lc0 (nk dk5)=some (lc0,nk dk6):=by kernel_rfl
theorem sg7:cz (sk 7) [0,1] lc0 (nk dk6)=some (lc0,nk dk7):=by kernel_rfl
theorem sg8:cz (sk 8) [0,1] lc0 (nk dk7)=some (lc0,nk dk8):=by kernel_rfl
theorem sg9:cz (sk 9) [0,1] lc0 (nk dk8)=some (lc0,nk dk9):=by kernel_rfl
theorem Lp:cz (sk 10) [0,1] lc0 (nk dk9)=some (lc0,nk Ip):=by kernel_rfl
theorem Lq:cz (sk 11) [0,1] lc0 (nk Ip)=some (lc0,nk Iq):=by kernel_rfl
theorem Lr:cz (sk 12) [0,1] lc0 (nk Iq)=some (lc0,nk Ir):=by kernel_rfl
theorem Ls:cz (sk 13) [0,1] lc0 (nk Ir)=some (lc0,nk xY):=by kernel_rfl
end Mine
end
section
open PySem PySem.W PySem.Calls PyProof.Rows
namespace Mine
variable {X:Cx} {A:Around} {n:Nat} {ad ad':List au} {h h' h0:Heap} {S S' S1 N:aa} {s:Shared} {env:Env} {ex:Addr→Prop} {loc loc1 loc':Loc}
theorem i9{M:Model}{A:Around}{E:Value→Shared→Prop}{env:Env}{Q:Flow→Shared→Prop}{x:Stmt}{r:List Stmt}{s:Shared}(h:wpAny M A (exec x env) (fun f s'=>match f with
  | .next=>wpAny M A (execs r env) Q E s'
  | f=>Q f s') E s):wpAny M A (execs (x::r) env) Q E s:=by
 show wpAny M A (exec x env >>= fun r'=>match r' with
  | .next=>execs r env
  | f=>pure f) Q E s
 refine wpAny_bind (wpAny_mono h (fun f s' q=>?_) fun _ _ z=>z)
 cases f<;>first | exact q | exact wpAny_pure q
noncomputable def By:FuncData:=fd (top 55) vb vb 3 .none .none .none (.str dF 896) (.ref 667) .none 0
theorem d78(L:Laid1 X):kC X 78 f78 By (stB (top 55)):=mf L (o:=⟨.type "function",none,.func By,⟨[]⟩⟩) (by kernel_rfl) rfl rfl (by kernel_rfl)
noncomputable def KK:AV:=.ins 8 [(125,.dct xY)]
noncomputable def gW(i:Nat):Stmt:=((stB (top 55))[i]?).getD (.Pass default)
theorem xZ:stB (top 55)=[gW 0,gW 1,gW 2,gW 3,gW 4,gW 5,gW 6,gW 7,gW 8,gW 9,gW 10,gW 11,gW 12,gW 13,gW 14]:=by kernel_rfl
theorem Iu:∀i,i < 15→mS Tq (snk (stS (top 55))) (sk i) (gW i)=true:=by
 have:bD 15 (fun i=>mS Tq (snk (stS (top 55))) (sk i) (gW i))=true:=by kernel_rfl
 exact fun i hi=>aP this hi
theorem Bz(L:aS X)(htd:∀i,X.td i=.none)(ho:aQ A (100 + 2))(H:X.On s.heap){Q:Value→Shared→Prop}
  (K:∀h' tk x,(∀b o,s.heap.get? b=some o→h'.get? b=some o)→VR (X.wth (cr X s.heap h' fun _=>False) X.td) [] h' KK x→Q x {s with heap:=h',toks:=tk}):wpAny (MX X) A (call (.ref (X.fa 78)) []) Q NoE s:=by
 have R0:Rep X [] s.heap []:=⟨H,rfl,fun i c o e=>by simp at e,fun i j c e _ q=>by simp at q,fun c hc=>(nomatch hc)⟩
 refine lX (n:=100) (d78 L.toLaid1) L.nolimit (args:=[]) (by decide) ho R0 .nil fun env h1 tk1 keep fr F Z=>?_
 have fx:=fun b hb=>(fr b hb).1
 have ho1:aQ (A.deeper env) (100 + 1):=ho.deeper
 have C:∀X',aS X'→Snd X' 100 (dZ PQ 1000 50):=fun X' L'=>xU L' 50
 have a0:AtS X s.heap env _ [] [] h1:=⟨X.B,[],fun _ _ e=>e,fun b q=>absurd rfl q,⟨fun b o e=>keep b o (H b o e),rfl,fun i c o e=>by simp at e,fun i j c e _ q=>by simp at q,fun c hc=>(nomatch hc)⟩,F,fun c hc=>(nomatch hc),keep⟩
 have go:∀{i:Nat} {σ:List Nat} {loc loc':Loc} {S N:aa} {r:List Stmt} {s':Shared} {Q':Flow→Shared→Prop},i < 15→cz (sk i) σ loc S=some (loc',N)→jz σ=true→AtS X s.heap env (iP By s.heap.objs.size) loc S s'.heap→
   (∀h' tk,AtS X s.heap env (iP By s.heap.objs.size) loc' N h'→wpAny (MX X) (A.deeper env) (execs r env) Q' NoE {s' with heap:=h',toks:=tk})→wpAny (MX X) (A.deeper env) (execs (gW i::r) env) Q' NoE s':=by
  intro i σ loc loc' S N r s' Q' hi hs hd a K
  obtain⟨loc1,S1,e1,e2,e3⟩:=vm hs
  exact i9 (AtS.stage L htd C (Iu i hi) e1 e2 e3 hd ho1 Z fx a fun h' tk a'=>K h' tk a')
 rw[xZ]
 refine go (by decide) sg0 (by decide) a0 fun h1 tk1 a1=>?_
 refine go (by decide) sg1 (by decide) a1 fun h2 tk2 a2=>?_
 refine go (by decide) sg2 (by decide) a2 fun h3 tk3 a3=>?_
 refine go (by decide) sg3 (by decide) a3 fun h4 tk4 a4=>?_
 refine go (by decide) sg4 (by decide) a4 fun h5 tk5 a5=>?_
 refine go (by decide) sg5 (by decide) a5 fun h6 tk6 a6=>?_
 refine go (by decide) sg6 (by decide) a6 fun h7 tk7 a7=>?_
 refine go (by decide) sg7 (by decide) a7 fun h8 tk8 a8=>?_
 refine go (by decide) sg8 (by decide) a8 fun h9 tk9 a9=>?_
 refine go (by decide) sg9 (by decide) a9 fun h10 tk10 a10=>?_
 refine go (by decide) Lp (by decide) a10 fun h11 tk11 a11=>?_
 refine go (by decide) Lq (by decide) a11 fun h12 tk12 a12=>?_
 refine go (by decide) Lr (by decide) a12 fun h13 tk13 a13=>?_
 refine go (by decide) Ls (by decide) a13 fun h14 tk14 a14=>?_
 obtain⟨B,ad,hB,hnew,R,F,fr,keep⟩:=a14
 have L':aS (X.wth B X.td):=L.wth hB
 have e:evS PQ (dZ PQ 1000 50) 1000 (sk 14) lc0 (nk xY)=some (.ret (.ref 0),nk xY):=by kernel_rfl
 refine i9 (xi (ctx L') (C _ L') (xT L' (C _ L')) _ _ _ (Iu 14 (by decide)) (A.deeper env) ad _ (nk xY) lc0 env _ _ _ _ ho1 R F Z e fun ad1 h15 tk15 fw T r=>?_)
 obtain⟨x,rfl,r⟩:=r
 obtain⟨fr1,keep1⟩:=ml T fr keep fx
 refine K h15 tk15 x keep1 ?_
 refine(xV (q:=fun _=>none) (θ:=.tok) (ad':=[]) (B:=cr X s.heap h15 fun _=>False) (td:=X.td) T.rep.objs (fun b o e=>?_) (fun i j c e=>by cases e) (fun i c _ _ g _=>⟨fU (fr1 c (List.mem_of_getElem? g)).1 id,fU (fr1 c (List.mem_of_getElem? g)).2 id⟩) (fun i x r=>.tok ?_) 100).1 (.ref 0) KK x (by kernel_rfl) r
 ·change B b=some o at e
  by_cases q:s.heap.get? b=none
  ·rw[fU q id];exact T.rep.base b o e
  ·have:B b=X.B b:=Classical.byContradiction fun z=>q (hnew b z)
   rw[this] at e
   exact iz (fun b o e=>T.rep.base b o (hB b o e)) b o e
 ·change VR _ _ _ (X.td i) x at r
  change VR _ _ _ (X.td i) x
  rw[htd] at r ⊢
  cases r;exact .none
end Mine
end
section
open PySem PySem.W PySem.Calls PyProof.Rows
namespace Mine
variable {X:Cx} {A:Around} {n:Nat} {s:Shared}
theorem BA{args:List WData}(hp:rwq.row.toRowW.claim.pre args=true):∃ns:List Int,args=[.list (ns.map .int)]∧ns.length≤63:=by
 obtain⟨h1,h2⟩:=pre_splitW hp
 obtain⟨ns,rfl⟩:∃ns:List Int,args=[.list (ns.map .int)]:=by
  match args,h1 with
  | [d],h1=>
   have h2:WShape.has rwq.row.toRowW.records d (.list .int)=true:=by
    change(WShape.has _ d (.list .int)&&true)=true at h1
    rwa [Bool.and_true] at h1
   obtain⟨xs,rfl,h3⟩:=hasW_list h2
   obtain⟨ns,rfl⟩:=items_int h3
   exact⟨ns,rfl⟩
  | [],h1=>cases h1
  | d::d2::r,h1=>
   change(WShape.has _ d (.list .int)&&false)=true at h1
   rw[Bool.and_false] at h1;cases h1
 refine⟨ns,rfl,?_⟩
 change WTm.holds _ (.and (.not (.lt (.lit (.int 63)) (.len (.arg 0)))) (.lit (.bool true))) {args:=[.list (ns.map .int)]}=true at h2
 have h3:=(holds_andW h2).1
 rw[holdsW_of_value (w_not (w_lt (R:=rwq.row.toRowW.records) (e:={args:=[.list (ns.map .int)]}) (a:=.lit (.int 63)) (b:=.len (.arg 0)) (x:=63) (y:=ns.length) rfl (congrArg (fun n:Nat=>some (WData.int n)) (List.length_map _))))] at h3
 exact Decidable.byContradiction fun q=>by rw[decide_eq_true (show(63:Int) < ns.length by omega)] at h3;exact nomatch h3
theorem C0{P:Params}{h:Heap}{vs:List Value}{G:List Value→Prop}(w:WellAll P h vs [])(K:G []):G vs:=by cases w;exact K
theorem x5{P:Params}{h:Heap}{vs:List Value}{d:WData}{ds:List WData}{G:List Value→Prop}(w:WellAll P h vs (d::ds))(K:∀v vs,Well P h v d→WellAll P h vs ds→G (v::vs)):G vs:=by cases w with | cons a b=>exact K _ _ a b
theorem Iv{P:Params}{h:Heap}{v:Value}{i:Int}{G:Value→Prop}(w:Well P h v (.int i))(K:∀t,G (.int i t)):G v:=by cases w;exact K _
theorem Fi{P:Params}{h:Heap}{v:Value}{xs:List WData}{G:Value→Prop}(w:Well P h v (.list xs))(K:∀a vs,h.get? a=some (aA (List.toArray vs) 0)→WellAll P h vs xs→G (.ref a)):G v:=by cases w with | list g r=>exact K _ _ g r
theorem ue{P:Params}{h h':Heap}{ad:List au}:∀(ns:List Int) {vs:List Value},WellAll P h vs (ns.map .int)→VRs X ad h' (ns.map .int) vs
 | [],_,w=>C0 w .nil
 | i::ns,_,w=>x5 w fun _ _ a r=>Iv (G:=fun v=>VRs X ad h' (.int i::ns.map .int) (v::_)) a fun t=>.cons (.int i t) (ue ns r)
theorem BB{P:Params}{h:Heap}{ns:List Int}{vals:List Value}(w:WellAll P h vals [.list (ns.map .int)]):∃p xs,vals=[.ref p]∧h.get? p=some (aA xs.toArray 0)∧WellAll P h xs (ns.map .int):=
 x5 (G:=fun vals=>∃p xs,vals=[Value.ref p]∧h.get? p=some (aA (List.toArray xs) 0)∧WellAll P h xs (ns.map .int)) w fun v _ a b=>C0 (G:=fun l=>∃p xs,v::l=[Value.ref p]∧h.get? p=some (aA (List.toArray xs) 0)∧WellAll P h xs (ns.map .int)) b
  (Fi (G:=fun v=>∃p xs,[v]=[Value.ref p]∧h.get? p=some (aA (List.toArray xs) 0)∧WellAll P h xs (ns.map .int)) a fun p xs g r=>⟨p,xs,rfl,g,r⟩)
noncomputable def X0(w:World)(mg mb:Str→Option Value)(h:Heap):Cx:=⟨pq,w,caQ,faQ,mg,mb,h.get?,fun _=>.none⟩
theorem Iw{w:World}{s₀ s₁:Shared}{mg mb:Str→Option Value}(G:Ground qv j4 rwq.row.toRowW.records (fun _ _=>True) w s₀ mg mb s₁.heap)(Y:YH w s₁.heap):aS (X0 w mg mb s₁.heap):=by
 have g3:s₁.heap.get? 3=some (jC w.params):=Y _ _ (xJ (by kernel_rfl))
 refine⟨⟨rfl,rfl,rfl,Y⟩,fun h H=>G.T.nolimit.keeps H,fun h H=>G.T.g.keeps H,fun h H=>G.T.b.keeps H,fun n=>?_,G.T.builtins⟩
 obtain⟨o,es,ep,e,hd,_,hf⟩:=G.T.g
 change s₁.heap.get? 3=some o at e
 rw[g3] at e;cases e
 have:esL (jC w.params)=es.toList:=ph hd
 show mg n=eR (esL (jC w.params)) n
 rw[this,←kI]
 exact(hf n).symm
theorem Ix:aQ callerA (118 + 2):=⟨by decide +kernel,by decide +kernel,rfl⟩
theorem aQ.le{m:Nat}(ho:aQ A n)(h:m≤n):aQ A m:=⟨by have:=ho.depth;omega,by have:=ho.units;omega,ho.handled⟩
noncomputable def Fj:FuncData:=fd (top 70) xq xq 3 .none .none .none (.str iH 1142) (.ref 755) .none 0
theorem d91(L:Laid1 X):kC X 91 f91 Fj (stB (top 70)):=mf L (o:=⟨.type "function",none,.func Fj,⟨[]⟩⟩) (by kernel_rfl) rfl rfl (by kernel_rfl)
noncomputable def BC(i:Nat):Stmt:=((stB (top 70))[i]?).getD (.Pass default)
theorem x6:stB (top 70)=[.Assign [.Name (sT 173) ⟨640,4,640,9⟩] (.Call (.Name (sT 251) ⟨640,12,640,23⟩) [] [] ⟨640,12,640,25⟩) ⟨640,4,640,25⟩,BC 1,BC 2]:=by kernel_rfl
theorem Lu:mSs Tq (snk (stS (top 70))) (f91.body.drop 1) [BC 1,BC 2]=true:=by kernel_rfl
theorem x7{X:Cx}{B:rY}{ad:List au}{h h':Heap}{env:Env}{ex:Addr→Prop}{loc loc':Loc}(F:Frm X ad h env ex loc)(keep:∀b o,h.get? b=some o→h'.get? b=some o)(hB:∀b,Env.has env b→B b=none)(hv:∀x v,get? x loc'=some v→∃u,get? x loc=some u∧∀val,VR X ad h u val→VR (X.wth B X.td) [] h' v val):
  Frm (X.wth B X.td) [] h' env ex loc':=by
 obtain⟨fL,nbL,xL,mL,NL⟩:=F.L
 refine⟨F.kind,F.glb,F.bns,⟨fun c hc=>(nomatch hc),hB _ (.inl rfl),xL,mL,lL NL (keep _)⟩,fun n c e=>?_,F.inj,F.exL,fun x v e hx k hk vk=>?_⟩
 ·obtain⟨f,nb,ne,v,C⟩:=F.cells n c e
  exact⟨fun c hc=>(nomatch hc),hB _ (.inr ⟨n,e⟩),ne,v,et C (keep _)⟩
 ·obtain⟨u,e1,q⟩:=hv x v e
  obtain⟨val,r,w⟩:=F.vars x u e1 hx k hk vk
  refine⟨val,q val r,?_⟩
  cases k with
  | «local»=>exact w.elim fun m w=>⟨m,lL w.1 (keep _),w.2⟩
  | _=>exact w.elim fun q w=>⟨q,w.1,et w.2 (keep _)⟩
noncomputable def x8(ns:List Int):Loc:=[(235,.lst (ns.map .int)),(173,KK)]
theorem nZ{X X':Cx}{ad ad':List au}{h h':Heap}:∀(ns:List Int) {vs:List Value},VRs X ad h (ns.map .int) vs→VRs X' ad' h' (ns.map .int) vs
 | [],_,r=>VRs.onNil r .nil
 | _::ns,_,r=>VRs.onCons r fun _ _ a b=>VR.onInt (G:=fun v=>VRs X' ad' h' _ (v::_)) a fun t=>.cons (.int _ t) (nZ ns b)
theorem x9{cf:CF}(C:∀X',aS X'→(∀i,X'.td i=.none)→Snd X' 118 cf){ns:List Int}(hl:ns.length≤63){S':aa}(e:cC PQ cf 1000 (f91.body.drop 1) (x8 ns) []=some (.ret (.bool true),S'))
  (L:aS X)(htd:∀i,X.td i=.none)(H:X.On s.heap){p:Addr}{xs:List Value}{m:Nat}(g:X.B p=some (aA xs.toArray m))(r:∀X' h',VRs X' [] h' (ns.map .int) xs)(ho:aQ A (118 + 2)){Q:Value→Shared→Prop}
  (K:∀h' tk,(∀b o,s.heap.get? b=some o→h'.get? b=some o)→Q (.bool true) {s with heap:=h',toks:=tk}):wpAny (MX X) A (call (.ref (X.fa 91)) [.ref p]) Q NoE s:=by
 have R0:Rep X [] s.heap []:=⟨H,rfl,fun i c o e=>by simp at e,fun i j c e _ q=>by simp at q,fun c hc=>(nomatch hc)⟩
 have hlim:(ns.map AV.int).length≤lim:=by rw[List.length_map];exact Nat.le_trans hl (by decide)
 refine lX (n:=118) (d91 L.toLaid1) L.nolimit (args:=[.lst (ns.map .int)]) ⟨Nat.le_of_ble_eq_true rfl,Nat.le_of_ble_eq_true rfl⟩ ho R0 (.cons (.lst g hlim (r _ _)) .nil) fun env h1 tk1 keep fr F Z=>?_
 have fx:=fun b hb=>(fr b hb).1
 have ho1:aQ (A.deeper env) (118 + 1):=ho.deeper
 rw[x6]
 have R1:Rep X [] h1 []:=⟨fun b o e=>keep b o (H b o e),rfl,fun i c o e=>by simp at e,fun i j c e _ q=>by simp at q,fun c hc=>(nomatch hc)⟩
 obtain⟨o,hfo,_,fd0,hfd⟩:=xO L (f:=78) (by decide)
 refine i9 (wpAny_Assign_Name (wpAny_Call_NameR (dT (Fb L) R1 F (c:=251) (x:=.ref (X.fa 78)) (by kernel_rfl) Z (ub L 78 (by kernel_rfl)) ?_)) rfl)
 refine hP (es:=[]) (first:=[]) (o:=o) (fd:=fd0) rfl (PySem.Calls.spliced_nil ⟨⟨R1.base _ _ hfo,hfd⟩,?_⟩)
 refine Bz (s:={s with heap:=h1,toks:=tk1}) L htd (ho1.le (by decide)) R1.base fun h2 tk2 x k2 rx=>?_
 have hB:∀b o,X.B b=some o→cr X h1 h2 (fun _=>False) b=some o:=iz fun b o e=>k2 b o (R1.base b o e)
 have L2:aS (X.wth (cr X h1 h2 fun _=>False) X.td):=L.wth hB
 have R2:Rep (X.wth (cr X h1 h2 fun _=>False) X.td) [] h2 []:=⟨qQ fun b o e=>k2 b o (R1.base b o e),rfl,fun i c o e=>by simp at e,fun i j c e _ q=>by simp at q,fun c hc=>(nomatch hc)⟩
 have F2:Frm (X.wth (cr X h1 h2 fun _=>False) X.td) [] h2 env _ [(235,.lst (ns.map .int))]:=x7 (loc':=[(235,.lst (ns.map .int))]) F k2 (fun b hb=>by
   have fo:=F.off hb
   obtain⟨o,e⟩:=fo.2
   have:X.B b=none:=by
    rcases hb with rfl | ⟨n,hn⟩
    ·exact F.L.2.1
    ·exact(F.cells n b hn).2.1
   unfold cr
   rw[if_pos (.inl (by rw[e];rfl))];exact this) fun x v e=>⟨v,e,fun val rv=>by
  refine aC e nN fun _ e=>?_
  rw[←Option.some.inj e] at rv ⊢
  exact VR.onLst (G:=fun val=>VR _ [] h2 (.lst (ns.map .int)) val) rv fun _ _ _ g hl q=>.lst (hB _ _ g) hl (nZ _ q)⟩
 obtain⟨hc,st⟩:=cF (c:=173) (by kernel_rfl) Z
 refine fP (s:={s with heap:=h2,toks:=tk2}) R2 F2 hc st rx fun h3 tk3 T3 F3=>?_
 refine i7 (ctx L2) (C _ L2 htd) (xT L2 (C _ L2 htd)) _ _ _ Lu (A.deeper env) [] {s with heap:=h3,toks:=tk3} [] (x8 ns) env _ _ S' _ ho1 T3.rep F3 Z e fun ad4 h4 tk4 fw T4 r4=>?_
 obtain⟨y,rfl,r4⟩:=r4
 cases r4
 refine K h4 tk4 fun b o e=>?_
 have nx:¬iP Fj s.heap.objs.size b:=fun z=>by rw[fx b z] at e;cases e
 exact T4.ext b o (T3.ext b o (k2 b o (keep b o e)) (fun c hc=>(nomatch hc)) nx) (fun c hc=>(nomatch hc)) nx
theorem BD{cf:CF}(C:∀X',aS X'→(∀i,X'.td i=.none)→Snd X' 118 cf)(pure:∀ns:List Int,∃S',cC PQ cf 1000 (f91.body.drop 1) (x8 ns) []=some (.ret (.bool true),S')):Bn:=by
 intro w s₀ s₁ mg mb G Y a o pm cd doc dV kV ha hd hcd hdf hmg hgens args vals as hpre hlay hr hw low
 obtain⟨ns,rfl,hl⟩:=BA hpre
 obtain⟨p,xs,rfl,g,wx⟩:=BB hw
 obtain⟨S',e⟩:=pure ns
 have L:=Iw G Y
 have h91:=ub L 91 (by kernel_rfl)
 have hn:sT (Tq.fnm 91)=dQ.name:=by kernel_rfl
 rw[hn] at h91
 have ea:mg dQ.name=some (.ref (faQ 91)):=h91
 rw[hmg] at ea
 cases ea
 refine wpAny_mono (x9 (s:=s₁) C hl e L (fun i=>rfl) (fun b o e=>e) g (fun X' h'=>ue ns wx) Ix (Q:=fun v s'=>GoodWG rwq.row.toRowW.claim (classAt s₀.heap) (ExcName.means s₀.heap) _ s₁ (.ok (.ret v)) s') fun h' tk keep=>?_) (fun _ _ z=>z) fun _ _ z=>z.elim
 refine⟨.inl ⟨.bool true,.bool true,[],rfl,fun cls=>rfl,.bool true,by kernel_rfl,fun _=>⟨List.nodup_nil,fun a ha=>(nomatch ha)⟩⟩,.of_keep keep,rfl,.of_eq hgens⟩
end Mine
end
section
open PySem PySem.W PySem.Calls PyProof.Rows
namespace Mine
variable {X:Cx} {n:Nat} {td:Nat→AV}
theorem emb{f:Nat}{args args0:List AV}{T T' S0 S1:aa}{v v0:AV}{ρ σ:List Nat}(run:bo (X.wth X.B td) n f args0 S0 v0 S1)(hρ:ρ.Nodup)(hρT:∀i∈ρ,i < T.length)(hlen:S0.length=ρ.length)(hσ:σ.Nodup)(hσ0:∀i∈σ,ρ.length≤i∧i < S1.length)
  (hT:T'.length=T.length + σ.length)(hsame:∀i,i∉ρ→i < T.length→T'[i]?=T[i]?)
  (hI:∀ad h,Rep X ad h T→∀xs,VRs X ad h args xs→(∀(k:Nat) (c:au) (o:AO),(sel ρ ad)[k]?=some c→S0[k]?=some o→OR (X.wth X.B td) (sel ρ ad) h c o)∧VRs (X.wth X.B td) (sel ρ ad) h args0 xs)
  (hO:∀(ad ad1 adB:List au) (h:Heap),(∀(k:Nat) (c:au) (o:AO),ad1[k]?=some c→S1[k]?=some o→OR (X.wth X.B td) ad1 h c o)→(∀(k i:Nat) (c:au),ρ[k]?=some i→ad1[k]?=some c→adB[i]?=some c)→(∀(j k:Nat) (c:au),σ[j]?=some k→ad1[k]?=some c→adB[T.length + j]?=some c)→(∀i∈σ,i < ad1.length)→ρ.length≤ad1.length→
   (∀(k i:Nat) (c:au),ρ[k]?=some i→ad1[k]?=some c→∃o,T'[i]?=some o∧OR X adB h c o)∧(∀(j k:Nat) (c:au),σ[j]?=some k→ad1[k]?=some c→∃o,T'[T.length + j]?=some o∧OR X adB h c o)∧∀x,VR (X.wth X.B td) ad1 h v0 x→VR X adB h v x):
  bo X n f args T v T':=by
 intro A ad s xs Q ho R ra K
 obtain⟨hI1,hI2⟩:=hI ad s.heap R xs ra
 have hin:∀i∈ρ,i < ad.length:=fun i hi=>by rw[R.len];exact hρT i hi
 have mem:=fun c (hc:c∈sel ρ ad)=>pi hin hc
 have sl:(sel ρ ad).length=ρ.length:=List.length_map _
 have selat:∀(k i:Nat),ρ[k]?=some i→∃c,ad[i]?=some c∧(sel ρ ad)[k]?=some c:=fun k i e=>by
  have hi:=hin i (List.mem_of_getElem? e)
  exact⟨ad[i],List.getElem?_eq_getElem hi,by rw[gz e,List.getElem?_eq_getElem hi];rfl⟩
 have R0:Rep (X.wth X.B td) (sel ρ ad) s.heap S0:=by
  refine⟨R.base,by rw[sl,hlen],fun k c o e e'=>hI1 k c o e e',fun j k c e ne e1 e2=>?_,fun c hc=>let⟨i,_,g⟩:=mem c hc;R.new c (List.mem_of_getElem? g)⟩
  have hj:j < ρ.length:=by have:=ae e1;rwa [sl] at this
  have hk:k < ρ.length:=by have:=ae e2;rwa [sl] at this
  obtain⟨c1,g1,q1⟩:=selat j _ (List.getElem?_eq_getElem hj)
  obtain⟨c2,g2,q2⟩:=selat k _ (List.getElem?_eq_getElem hk)
  rw[q1] at e1;cases e1
  rw[q2] at e2;cases e2
  exact R.sep _ _ _ _ (mj hρ hj hk ne) g1 g2
 refine run A (sel ρ ad) s xs Q ho R0 hI2 fun ad1 h1 tk x T1 rv=>?_
 have hlen1:ad1.length=S1.length:=T1.rep.len
 have hσ1:∀i∈σ,i < ad1.length:=fun i hi=>by rw[hlen1];exact(hσ0 i hi).2
 have oldB:∀(i:Nat) (c:au),ad[i]?=some c→(ad++sel σ ad1)[i]?=some c:=fun i c e=>by rw[List.getElem?_append_left (ae e)];exact e
 have newB:∀(j k:Nat) (c:au),σ[j]?=some k→ad1[k]?=some c→(ad++sel σ ad1)[T.length + j]?=some c:=fun j k c e g=>by
  rw[←R.len,List.getElem?_append_right (Nat.le_add_right _ _),Nat.add_sub_cancel_left,gz e,g];rfl
 have preB:∀(k i:Nat) (c:au),ρ[k]?=some i→ad1[k]?=some c→ad[i]?=some c:=fun k i c e g=>by
  obtain⟨c',g1,g2⟩:=selat k i e
  have:=T1.pre k c' g2
  rw[g] at this;cases this;exact g1
 obtain⟨o1,o2,o3⟩:=hO ad ad1 (ad++sel σ ad1) h1 (fun k c o e e'=>T1.rep.objs k c o e e') (fun k i c e g=>oldB i c (preB k i c e g)) newB hσ1 (by have:=T1.le;rw[sl] at this;exact this)
 have newc:∀c∈sel σ ad1,∃k,k∈σ∧ad1[k]?=some c∧s.heap.get? c.a=none∧s.heap.get? c.d=none:=fun c hc=>by
  obtain⟨k,hk,g⟩:=pi hσ1 hc
  have:=(T1.fresh k c (by rw[sl];exact(hσ0 k hk).1) g).1
  exact⟨k,hk,g,this⟩
 have offS:∀(i:Nat) (c:au),i∉ρ→ad[i]?=some c→Off (sel ρ ad) c.a∧Off (sel ρ ad) c.d:=fun i c hi e=>by
  constructor<;>intro e' he'<;>obtain⟨k,hk,gk⟩:=mem e' he'<;>have:=R.sep i k c e' (fun z=>hi (z▸hk)) e gk
  ·exact⟨this.1,this.2.1⟩
  ·exact⟨this.2.2.1,this.2.2.2⟩
 have offs:∀b,Off ad b→Off (sel ρ ad) b:=fun b f c hc=>let⟨i,_,g⟩:=mem c hc;f c (List.mem_of_getElem? g)
 have split:∀(i:Nat) (c:au),(ad++sel σ ad1)[i]?=some c→ad[i]?=some c∨∃j k,i=T.length + j∧σ[j]?=some k∧ad1[k]?=some c:=fun i c e=>by
  rcases Nat.lt_or_ge i ad.length with q | q
  ·rw[List.getElem?_append_left q] at e;exact .inl e
  ·rw[List.getElem?_append_right q] at e
   have hj:i - ad.length < σ.length:=by have:=ae e;unfold sel at this;rwa [List.length_map] at this
   have ej:=List.getElem?_eq_getElem hj
   rw[gz ej,List.getElem?_eq_getElem (hσ1 _ (List.getElem_mem hj))] at e
   cases e
   exact .inr ⟨i - ad.length,_,by rw[←R.len];omega,ej,List.getElem?_eq_getElem _⟩
 refine K _ h1 tk x ⟨⟨T1.rep.base,by rw[List.length_append,hT,R.len];unfold sel;rw[List.length_map],fun i c o e e'=>?_,fun i j c e ne g1 g2=>?_,fun c hc=>?_⟩,oldB,by rw[List.length_append];exact Nat.le_add_right _ _,
  fun b o e f q=>T1.ext b o e (offs b f) q,fun b o e f q=>T1.seq b o e (offs b f) q,T1.there,fun i c q e=>?_⟩ (o3 x rv)
 ·rcases split i c e with g | ⟨j,k,rfl,g1,g2⟩
  ·by_cases hi:i∈ρ
   ·obtain⟨k,hk,rfl⟩:=List.getElem_of_mem hi
    have ek:=List.getElem?_eq_getElem hk
    obtain⟨c',g',q'⟩:=selat k _ ek
    rw[g] at g';cases g'
    obtain⟨o',e1,r⟩:=o1 k _ c ek (T1.pre k c q')
    rw[e'] at e1;cases e1;exact r
   ·have hiT:i < T.length:=by rw[←R.len];exact ae g
    rw[hsame i hi hiT] at e'
    have of:=offS i c hi g
    exact(R.objs i c o g e').move (T1.tups R0) oldB (fun y q=>T1.ext _ _ q of.1 id) fun y q=>T1.ext _ _ q of.2 id
  ·obtain⟨o',e1,r⟩:=o2 j k c g1 g2
   rw[e'] at e1;cases e1;exact r
 ·have away:∀(i:Nat) (c e:au),ad[i]?=some c→e∈sel σ ad1→c.a≠e.a∧c.a≠e.d∧c.d≠e.a∧c.d≠e.d:=fun i c e g he=>by
   obtain⟨⟨u1,w1⟩,u2,w2⟩:=R.cell_there g
   obtain⟨k,_,_,na,nd⟩:=newc e he
   refine⟨fun q=>?_,fun q=>?_,fun q=>?_,fun q=>?_⟩
   ·rw[q,na] at w1;cases w1
   ·rw[q,nd] at w1;cases w1
   ·rw[q,na] at w2;cases w2
   ·rw[q,nd] at w2;cases w2
  have inNew:∀(j k:Nat) (c:au),σ[j]?=some k→ad1[k]?=some c→c∈sel σ ad1:=fun j k c g1 g2=>List.mem_of_getElem? (i:=j) (by rw[gz g1,g2];rfl)
  rcases split i c g1 with p | ⟨j1,k1,rfl,p1,p2⟩<;>rcases split j e g2 with q | ⟨j2,k2,rfl,q1,q2⟩
  ·exact R.sep i j c e ne p q
  ·exact away i c e p (inNew _ _ _ q1 q2)
  ·have:=away j e c q (inNew _ _ _ p1 p2);exact⟨this.1.symm,this.2.2.1.symm,this.2.1.symm,this.2.2.2.symm⟩
  ·refine T1.rep.sep k1 k2 c e (fun z=>ne ?_) p2 q2
   subst z
   have h1:=ae p1
   have h2:=ae q1
   rw[List.getElem?_eq_getElem h1] at p1
   rw[List.getElem?_eq_getElem h2] at q1
   by_cases w:j1=j2
   ·rw[w]
   ·exact absurd ((Option.some.inj p1).trans (Option.some.inj q1).symm) (mj hσ h1 h2 w)
 ·rcases List.mem_append.mp hc with hc | hc
  ·exact R.new c hc
  ·obtain⟨k,_,g,_⟩:=newc c hc;exact T1.rep.new c (List.mem_of_getElem? g)
 ·rcases split i c e with g | ⟨j,k,rfl,g1,g2⟩
  ·exact absurd (ae g) (Nat.not_lt.mpr q)
  ·have hk:=hσ0 k (List.mem_of_getElem? g1)
   exact T1.fresh k c (by rw[sl];exact hk.1) g2
end Mine
end
section
open PySem PySem.W PySem.Calls PyProof.Rows
namespace Mine
variable {X:Cx} {n:Nat} {td:Nat→AV} {ad:List au} {h:Heap} {S:aa}
mutual
noncomputable def det(td:Nat→AV):AV→AV
 | .tup l=>.tup (dJ td l)
 | .lst l=>.lst (dJ td l)
 | .dct l=>.dct (gX td l)
 | .ins k l=>.ins k (gX td l)
 | .tok i=>td i
 | .none=>.none
 | .bool b=>.bool b
 | .int i=>.int i
 | .str c=>.str c
 | .ref i=>.ref i
noncomputable def dJ(td:Nat→AV):List AV→List AV
 | []=>[]
 | v::r=>det td v::dJ td r
noncomputable def gX(td:Nat→AV):List (Nat×AV)→List (Nat×AV)
 | []=>[]
 | (k,v)::r=>(k,det td v)::gX td r
end
noncomputable def vr(td:Nat→AV):AO→AO
 | .list l=>.list (dJ td l)
 | .dict l=>.dict (gX td l)
 | .inst k l=>.inst k (gX td l)
mutual
noncomputable def noT:AV→Bool
 | .tup l=>c7 l
 | .lst l=>c7 l
 | .dct l=>sR l
 | .ins _ l=>sR l
 | .tok _=>false
 | .ref _=>false
 | .none=>true
 | .bool _=>true
 | .int _=>true
 | .str _=>true
noncomputable def c7:List AV→Bool
 | []=>true
 | v::r=>noT v&&c7 r
noncomputable def sR:List (Nat×AV)→Bool
 | []=>true
 | (_,v)::r=>noT v&&sR r
end
theorem eS:∀l:List AV,(dJ td l).length=l.length
 | []=>rfl
 | _::r=>congrArg Nat.succ (eS r)
theorem du:∀l:List (Nat×AV),(gX td l).length=l.length
 | []=>rfl
 | (_,_)::r=>congrArg Nat.succ (du r)
theorem AV.ind{M:AV→Prop}{ML:List AV→Prop}{MD:List (Nat×AV)→Prop}(h0:M .none)(h1:∀b,M (.bool b))(h2:∀i,M (.int i))(h3:∀c,M (.str c))(h4:∀l,ML l→M (.tup l))(h5:∀l,ML l→M (.lst l))(h6:∀l,MD l→M (.dct l))
  (h7:∀k l,MD l→M (.ins k l))(h8:∀i,M (.ref i))(h9:∀i,M (.tok i))(n1:ML [])(c1:∀a l,M a→ML l→ML (a::l))(n2:MD [])(c2:∀k a l,M a→MD l→MD ((k,a)::l)):(∀v,M v)∧(∀l,ML l)∧∀l,MD l:=
 have m:∀v,M v:=AV.rec (motive_1:=M) (motive_2:=ML) (motive_3:=MD) (motive_4:=fun p=>M p.2) h0 h1 h2 h3 h4 h5 h6 h7 h8 h9 n1 c1 n2 (fun p l a q=>c2 p.1 p.2 l a q) fun _ _ a=>a
 ⟨m,List.rec n1 fun a l q=>c1 a l (m a) q,List.rec n2 fun p l q=>c2 p.1 p.2 l (m p.2) q⟩
section
variable {td':Nat→AV} {ad':List au}
theorem VR.retds:(∀{v:AV} {x:Value},VR (X.wth X.B td) ad h v x→noT v=true→VR (X.wth X.B td') ad' h v x)∧(∀{v:List AV} {x:List Value},VRs (X.wth X.B td) ad h v x→c7 v=true→VRs (X.wth X.B td') ad' h v x)∧∀{v:List (Nat×AV)} {x:List (Str×Value)},VRd (X.wth X.B td) ad h v x→sR v=true→VRd (X.wth X.B td') ad' h v x:=
 VR.ind (X:=X.wth X.B td) (M:=fun v x=>noT v=true→VR (X.wth X.B td') ad' h v x) (ML:=fun v x=>c7 v=true→VRs (X.wth X.B td') ad' h v x) (MD:=fun v x=>sR v=true→VRd (X.wth X.B td') ad' h v x)
  (fun _=>.none) (fun b _=>.bool b) (fun i t _=>.int i t) (fun c t q _=>.str c t q) (fun g l r e=>.tup g l (r e)) (fun g l r e=>.lst g l (r e)) (fun g q l r e=>.dct g q l (r e)) (fun g l r e=>.ins g l (r e)) (fun _ e=>nomatch e) (fun _ _ e=>nomatch e)
  (fun _=>.nil) (fun a r e=>aT e fun e1 e2=>.cons (a e1) (r e2)) (fun _=>.nil) fun q a r e=>aT e fun e1 e2=>.cons q (a e1) (r e2)
theorem VR.retd{v:AV}{x:Value}(e:noT v=true)(r:VR (X.wth X.B td) ad h v x):VR (X.wth X.B td') ad' h v x:=VR.retds.1 r e
theorem VRs.retd{v:List AV}{x:List Value}(e:c7 v=true)(r:VRs (X.wth X.B td) ad h v x):VRs (X.wth X.B td') ad' h v x:=VR.retds.2.1 r e
end
section
variable (hc:∀i,noT (td i)=true)
include hc
theorem VR.dets:(∀{v:AV} {x:Value},VR (X.wth X.B td) ad h v x→VR X ad h (det td v) x)∧(∀{v:List AV} {x:List Value},VRs (X.wth X.B td) ad h v x→VRs X ad h (dJ td v) x)∧∀{v:List (Nat×AV)} {x:List (Str×Value)},VRd (X.wth X.B td) ad h v x→VRd X ad h (gX td v) x:=
 VR.ind (X:=X.wth X.B td) (M:=fun v x=>VR X ad h (det td v) x) (ML:=fun v x=>VRs X ad h (dJ td v) x) (MD:=fun v x=>VRd X ad h (gX td v) x)
  .none .bool .int .str (fun g l r=>.tup g ((eS _).symm▸l) r) (fun g l r=>.lst g ((eS _).symm▸l) r) (fun g q l r=>.dct g q ((du _).symm▸l) r) (fun g l r=>.ins g ((du _).symm▸l) r) .ref (fun r _=>VR.retd (td':=X.td) (hc _) r)
  .nil .cons .nil .cons
theorem VR.det{v:AV}{x:Value}(r:VR (X.wth X.B td) ad h v x):VR X ad h (det td v) x:=(VR.dets hc).1 r
theorem VRs.det{v:List AV}{x:List Value}(r:VRs (X.wth X.B td) ad h v x):VRs X ad h (dJ td v) x:=(VR.dets hc).2.1 r
theorem VRd.det{v:List (Nat×AV)}{x:List (Str×Value)}(r:VRd (X.wth X.B td) ad h v x):VRd X ad h (gX td v) x:=(VR.dets hc).2.2 r
theorem VR.untoks:(∀v {x:Value},VR X ad h (Mine.det td v) x→VR (X.wth X.B td) ad h v x)∧(∀v {x:List Value},VRs X ad h (dJ td v) x→VRs (X.wth X.B td) ad h v x)∧∀v {x:List (Str×Value)},VRd X ad h (gX td v) x→VRd (X.wth X.B td) ad h v x:=
 AV.ind (M:=fun v=>∀{x:Value},VR X ad h (Mine.det td v) x→VR (X.wth X.B td) ad h v x) (ML:=fun v=>∀{x:List Value},VRs X ad h (dJ td v) x→VRs (X.wth X.B td) ad h v x) (MD:=fun v=>∀{x:List (Str×Value)},VRd X ad h (gX td v) x→VRd (X.wth X.B td) ad h v x)
  (fun r=>VR.onNone r .none) (fun b _ r=>VR.onBool r (.bool b)) (fun _ _ r=>VR.onInt r fun t=>.int _ t) (fun _ _ r=>VR.onStr r fun t q=>.str _ t q)
  (fun l ih _ r=>VR.onTup (G:=fun x=>VR (X.wth X.B td) ad h (.tup l) x) (l:=dJ td l) r fun _ _ _ g hl q=>.tup g (eS (td:=td) l▸hl) (ih q)) (fun l ih _ r=>VR.onLst (G:=fun x=>VR (X.wth X.B td) ad h (.lst l) x) (l:=dJ td l) r fun _ _ _ g hl q=>.lst g (eS (td:=td) l▸hl) (ih q))
  (fun l ih _ r=>VR.onDct (G:=fun x=>VR (X.wth X.B td) ad h (.dct l) x) (l:=gX td l) r fun _ _ g s hl q=>.dct g s (du (td:=td) l▸hl) (ih q)) (fun k l ih _ r=>VR.onIns (G:=fun x=>VR (X.wth X.B td) ad h (.ins k l) x) (l:=gX td l) r fun _ _ g hl q=>.ins g (du (td:=td) l▸hl) (ih q))
  (fun _ _ r=>VR.onRef r fun _ g=>.ref g) (fun i _ r=>.tok (VR.retd (td:=X.td) (td':=td) (hc i) r))
  (fun r=>VRs.onNil r .nil) (fun _ _ ia il _ r=>VRs.onCons r fun _ _ a b=>.cons (ia a) (il b)) (fun r=>VRd.onNil r .nil) (fun _ _ _ ia il _ r=>VRd.onCons r fun _ _ q a b=>.cons q (ia a) (il b))
theorem VR.untok(v:AV){x:Value}(r:VR X ad h (Mine.det td v) x):VR (X.wth X.B td) ad h v x:=(VR.untoks hc).1 v r
theorem VRs.untok(v:List AV){x:List Value}(r:VRs X ad h (dJ td v) x):VRs (X.wth X.B td) ad h v x:=(VR.untoks hc).2.1 v r
theorem VRd.untok(v:List (Nat×AV)){x:List (Str×Value)}(r:VRd X ad h (gX td v) x):VRd (X.wth X.B td) ad h v x:=(VR.untoks hc).2.2 v r
theorem OR.det{c:au}{o:AO}(r:OR (X.wth X.B td) ad h c o):OR X ad h c (vr td o):=by
 cases o with
 | list l=>exact r.onList fun _ _ cd g hl q=>.list cd g ((eS (td:=td) l).symm▸hl) (q.det hc)
 | dict l=>exact r.onDict fun _ cd g hs hl q=>.dict cd g hs ((du (td:=td) l).symm▸hl) (q.det hc)
 | inst k l=>exact r.onInst fun _ g dq hl q=>.inst g dq ((du (td:=td) l).symm▸hl) (q.det hc)
theorem OR.untok{c:au}(o:AO)(r:OR X ad h c (vr td o)):OR (X.wth X.B td) ad h c o:=by
 cases o with
 | list l=>exact OR.onList (l:=dJ td l) r fun _ _ cd g hl q=>.list cd g (eS (td:=td) l▸hl) (VRs.untok hc l q)
 | dict l=>exact OR.onDict (l:=gX td l) r fun _ cd g hs hl q=>.dict cd g hs (du (td:=td) l▸hl) (VRd.untok hc l q)
 | inst k l=>exact OR.onInst (l:=gX td l) r fun _ g dq hl q=>.inst g dq (du (td:=td) l▸hl) (VRd.untok hc l q)
end
theorem VR.cv{td':Nat→AV}{ad':List au}(hc:∀i,noT (td i)=true)(hc':∀i,noT (td' i)=true){v v':AV}{x:Value}(e:Mine.det td v=Mine.det td' v')(q:noT (Mine.det td v)=true)(r:VR (X.wth X.B td) ad h v x):VR (X.wth X.B td') ad' h v' x:=
 VR.untok hc' v' (e▸VR.retd (td:=X.td) (td':=X.td) q (VR.det hc r))
theorem VRs.cv{td':Nat→AV}{ad':List au}(hc:∀i,noT (td i)=true)(hc':∀i,noT (td' i)=true){v v':List AV}{x:List Value}(e:dJ td v=dJ td' v')(q:c7 (dJ td v)=true)(r:VRs (X.wth X.B td) ad h v x):VRs (X.wth X.B td') ad' h v' x:=
 VRs.untok hc' v' (e▸VRs.retd (td:=X.td) (td':=X.td) q (VRs.det hc r))
theorem dL{f:Nat}{args:List AV}{S':aa}{v:AV}(hc:∀i,noT (td i)=true)(run:bo (X.wth X.B td) n f args S v S'):bo X n f (dJ td args) (S.map (vr td)) (Mine.det td v) (S'.map (vr td)):=by
 intro A ad s xs Q ho R ra K
 have R0:Rep (X.wth X.B td) ad s.heap S:=⟨R.base,by rw[R.len,List.length_map],fun i c o e e'=>OR.untok hc o (R.objs i c _ e (by rw[List.getElem?_map,e'];rfl)),R.sep,R.new⟩
 refine run A ad s xs Q ho R0 (VRs.untok hc args ra) fun ad1 h1 tk x T r=>?_
 refine K ad1 h1 tk x ⟨⟨T.rep.base,by rw[T.rep.len,List.length_map],fun i c o e e'=>?_,T.rep.sep,T.rep.new⟩,T.pre,T.le,T.ext,T.seq,T.there,T.fresh⟩ (VR.det hc r)
 rw[List.getElem?_map] at e'
 exact(Option.map_eq_some_iff.mp e').elim fun o' q=>q.2▸OR.det hc (T.rep.objs i c o' e q.1)
end Mine
end
section
open PySem PySem.W PySem.Calls PyProof.Rows
namespace Mine
noncomputable def nmC:List Nat:=[10,12,17,32,34,47,54,57]
noncomputable def KT:List (List Nat):=[[10],[12],[17],[32],[34],[47],[54],[57],[10,17],[10,32],[10,34],[10,47],[10,54],[10,57],[17,32],[17,34],[17,47],[17,54],[17,57],[32,34],[32,47],[32,54],[32,57],[34,47],[34,54],[34,57],[47,54],[47,57],[54,57]]
noncomputable def ak(c:Nat):AV:=.tup [.str 201,.str c,.tup []]
noncomputable def kdL:List Nat→AV
 | [a]=>ak a
 | [a,b]=>.tup [.str 277,.tup [ak a,ak b]]
 | _=>.none
noncomputable def kd(k:Nat):AV:=kdL (KT.getD k [])
noncomputable def nm(i:Nat):Nat:=nmC.getD i 0
noncomputable def e8(c:Nat):List Nat:=match fM 80 pW with
 | some (.dct l)=>(match cx c l with
  | some (.lst vs)=>(match oE vs with | some l=>l | none=>[])
  | _=>[])
 | _=>[]
noncomputable def ja(a:Nat):List Nat→Bool
 | []=>false
 | b::r=>Nat.beq a b||ja a r
noncomputable def qX(c a:Nat):Bool:=ja a (e8 c)
inductive Beh where
 | yes
 | no
 | two (x y:Bool)
noncomputable def beh(c:Nat):List Nat→Beh
 | [a]=>match qX c a with | true=>.yes | false=>.no
 | [a,b]=>.two (qX c a) (qX c b)
 | _=>.no
mutual
noncomputable def eqX:Nat→AV→AV→Bool
 | 0,_,_=>false
 | n + 1,a,b=>AV.casesOn (motive_1:=fun _=>Bool) a (iN b true false) (fun x=>gN b (fun y=>x==y) false) (fun x=>fs b (fun y=>decide (x=y)) false) (fun x=>gY b (fun y=>Nat.beq x y) false)
  (fun x=>fy b (fun y=>j6 n x y) false) (fun x=>rL b (fun y=>j6 n x y) false) (fun x=>rM b (fun y=>vt n x y) false) (fun k x=>vZ b (fun l y=>Nat.beq k l&&vt n x y) false) (fun x=>dH b (fun y=>Nat.beq x y) false) (fun x=>zw b (fun y=>Nat.beq x y) false)
noncomputable def j6:Nat→List AV→List AV→Bool
 | 0,_,_=>false
 | n + 1,x,y=>List.casesOn x (List.casesOn y true fun _ _=>false) fun a r=>List.casesOn y false fun b t=>eqX n a b&&j6 n r t
noncomputable def vt:Nat→List (Nat×AV)→List (Nat×AV)→Bool
 | 0,_,_=>false
 | n + 1,x,y=>List.casesOn x (List.casesOn y true fun _ _=>false) fun a r=>List.casesOn y false fun b t=>(Nat.beq a.1 b.1&&eqX n a.2 b.2)&&vt n r t
end
theorem d5{a b:Nat}(h:Nat.beq a b=true):a=b:=Nat.eq_of_beq_eq_true h
theorem bE(n:Nat):(∀a b,eqX n a b=true→a=b)∧(∀a b,j6 n a b=true→a=b)∧(∀a b,vt n a b=true→a=b):=by
 induction n with
 | zero=>exact⟨fun _ _ h=>(nomatch h),fun _ _ h=>(nomatch h),fun _ _ h=>(nomatch h)⟩
 | succ n ih=>
  have iv:=ih.1
  have il:=ih.2.1
  have id:=ih.2.2
  refine⟨fun a b h=>?_,fun a b h=>?_,fun a b h=>?_⟩
  ·cases a with
   | none=>exact jk (G:=fun b=>_=b) h nF fun _=>rfl
   | bool=>exact ou (G:=fun b=>_=b) h nF fun _ h=>congrArg _ (eq_of_beq h)
   | int=>exact vY (G:=fun b=>_=b) h nF fun _ h=>congrArg _ (of_decide_eq_true h)
   | str=>exact rJ (G:=fun b=>_=b) h nF fun _ h=>congrArg _ (d5 h)
   | tup=>exact rK (G:=fun b=>_=b) h nF fun _ h=>congrArg _ (il _ _ h)
   | lst=>exact Dg (G:=fun b=>_=b) h nF fun _ h=>congrArg _ (il _ _ h)
   | dct=>exact Dh (G:=fun b=>_=b) h nF fun _ h=>congrArg _ (id _ _ h)
   | ins=>exact Di (G:=fun b=>_=b) h nF fun _ _ h=>aT h fun h1 h2=>congr (congrArg AV.ins (d5 h1)) (id _ _ h2)
   | ref=>exact ov (G:=fun b=>_=b) h nF fun _ h=>congrArg _ (d5 h)
   | tok=>exact Dj (G:=fun b=>_=b) h nF fun _ h=>congrArg _ (d5 h)
  ·cases a with
   | nil=>cases b with | nil=>rfl | cons=>exact nomatch h
   | cons x r=>cases b with | nil=>exact nomatch h | cons y t=>exact aT h fun h1 h2=>congr (congrArg List.cons (iv _ _ h1)) (il _ _ h2)
  ·cases a with
   | nil=>cases b with | nil=>rfl | cons=>exact nomatch h
   | cons x r=>cases b with | nil=>exact nomatch h | cons y t=>exact aT h fun h1 h2=>aT h1 fun h0 h1=>congr (congrArg List.cons (Prod.ext (d5 h0) (iv _ _ h1))) (id _ _ h2)
noncomputable def eqO(a b:AO):Bool:=AO.casesOn (motive:=fun _=>Bool) a (fun x=>v3 b (fun y=>j6 200 x y) false) (fun x=>v4 b (fun y=>vt 200 x y) false) fun k x=>v5 b (fun l y=>Nat.beq k l&&vt 200 x y) false
theorem ya{a b:AO}(h:eqO a b=true):a=b:=by
 cases a with
 | list=>exact tx (G:=fun b=>_=b) h nF fun _ h=>congrArg _ ((bE 200).2.1 _ _ h)
 | dict=>exact ty (G:=fun b=>_=b) h nF fun _ h=>congrArg _ ((bE 200).2.2 _ _ h)
 | inst=>exact tz (G:=fun b=>_=b) h nF fun _ _ h=>aT h fun h1 h2=>congr (congrArg AO.inst (d5 h1)) ((bE 200).2.2 _ _ h2)
noncomputable def qY:aa→aa→Bool
 | [],_=>true
 | a::r,S=>List.casesOn S false fun b t=>eqO a b&&qY r t
theorem qZ{S:aa}:∀{T:aa},qY S T=true→∀(i:Nat) o,S[i]?=some o→T[i]?=some o:=by
 induction S with
 | nil=>exact fun _ _ _ e=>nomatch e
 | cons a r ih=>
  intro T h i o e
  cases T with
  | nil=>exact nomatch h
  | cons b t=>
   exact aT h fun h1 h2=>by
    cases i with
    | zero=>exact ya h1▸e
    | succ i=>exact ih h2 i o e
noncomputable def atO(S:aa)(i:Nat)(o:AO):Bool:=ay S[i]? (fun p=>eqO p o) false
theorem d6{S:aa}{i:Nat}{o:AO}(h:atO S i o=true):S[i]?=some o:=ah h nF fun _ e h=>ya h▸e
noncomputable def atL(S:aa)(i:Nat)(l:List AV):Bool:=atO S i (.list l)
theorem hY{S:aa}{i:Nat}{l:List AV}(h:atL S i l=true):S[i]?=some (.list l):=d6 h
noncomputable def rI(v:AV):Nat:=dH v (fun i=>i) 0
noncomputable def tI(v:AV):Nat:=zw v (fun i=>i) 0
noncomputable def nI(v:AV):Int:=fs v (fun i=>i) 0
noncomputable def els(v:AV):List AV:=fy v (fun l=>l) []
noncomputable def atV(l:List AV)(i:Nat):AV:=l.getD i .none
noncomputable def itm(S:aa)(r i:Nat):AV:=bQ S[r]? (fun l=>l.getD i .none) .none
noncomputable def fld(S:aa)(r i:Nat):AV:=gO S[r]? (fun _ l=>(l.getD i (0,.none)).2) .none
noncomputable def uf:aa:=[.inst 2 [(173,KK),(139,.tok 0)],.inst 1 [(231,.ref 2),(186,.int 0)],.dict []]
noncomputable def rf(r:Option (AV×aa))(k:AV→aa→Bool):Bool:=ay r (fun p=>k p.1 p.2) false
theorem jb{r:Option (AV×aa)}{k:AV→aa→Bool}{G:Prop}(e:rf r k=true)(K:∀v S,r=some (v,S)→k v S=true→G):G:=ah e nF fun p q e=>K p.1 p.2 q e
noncomputable def rIs(v:AV):Bool:=dH v (fun _=>true) false
theorem sS{v:AV}(e:rIs v=true):v=.ref (rI v):=ov (G:=fun v=>v=.ref (rI v)) e nF fun _ _=>rfl
noncomputable def Iy(S:aa)(r:Nat)(c:Nat)(m:List Nat)(p q:Nat)(w:Beh):Bool:=Beh.casesOn w
 (atL S r [.ref p]&&(Nat.ble 3 p&&(!(Nat.beq p r)&&atL S p [])))
 (atL S r [])
 fun _ _=>(m==[m.getD 0 0,m.getD 1 0])&&(atL S r [.ref p,.ref q]&&(Nat.ble 3 p&&(Nat.ble 3 q&&(!(Nat.beq p r)&&(!(Nat.beq q r)&&(!(Nat.beq p q)&&(atL S p [.tup [.str 256,ak c,ak (m.getD 0 0)]]&&atL S q [.tup [.str 256,ak c,ak (m.getD 1 0)]])))))))
noncomputable def Iz(c:Nat)(k:Nat):Bool:=rf (dZ PQ 1000 20 34 [.ref 0,.tup [.str 256,ak c,kd k],.ref 1] uf) fun v S1=>rIs v&&(qY uf S1&&(Nat.ble 3 (rI v)&&Iy S1 (rI v) c (KT.getD k []) (rI (itm S1 (rI v) 0)) (rI (itm S1 (rI v) 1)) (beh c (KT.getD k []))))
theorem yb:bD 8 (fun i=>bD 29 fun k=>Iz (nm i) k)=true:=by kernel_rfl
end Mine
end
section
open PySem PySem.W PySem.Calls PyProof.Rows
namespace Mine
noncomputable def Fk(c:Nat):Bool:=rf (dZ PQ 1000 20 29 [ak c] []) fun v _=>gN v not false
theorem vv:bD 8 (fun i=>Fk (nm i))=true:=by kernel_rfl
noncomputable def Fm(k:Nat):Bool:=rf (dZ PQ 1000 20 27 [kd k] []) fun v S1=>rIs v&&atL S1 (rI v) ((KT.getD k []).map ak)
theorem vw:bD 29 Fm=true:=by kernel_rfl
noncomputable def kOf(l:List Nat):AV:=List.casesOn l .none fun a r=>List.casesOn r (ak a) fun b r=>List.casesOn r
 (am (Nat.beq a b) (ak a) (am (Nat.beq a 12||Nat.beq b 12) (ak 12) (am (Nat.ble a b) (kdL [a,b]) (kdL [b,a])))) fun _ _=>.none
noncomputable def yc(p:List Nat):Bool:=rf (dZ PQ 1000 20 3 [.ref 0] [.list (p.map ak)]) fun v S1=>eqX 60 v (kOf p)&&atL S1 0 (p.map ak)
theorem sU:bD 8 (fun i=>yc [nm i])=true:=by kernel_rfl
theorem sV:bD 8 (fun i=>bD 8 fun j=>yc [nm i,nm j])=true:=by kernel_rfl
end Mine
end
section
open PySem PySem.W PySem.Calls PyProof.Rows
namespace Mine
variable {X:Cx} {td td':Nat→AV} {ad ad':List au} {h:Heap}
theorem C1{α:Type}{a b:α}{l r:List α}(h:a=b)(k:l=r):a::l=b::r:=by rw[h,k]
theorem IA{a b c d:Bool}(h:a=b)(k:c=d):(a&&c)=(b&&d):=by rw[h,k]
theorem ug:(∀v:AV,noT v=true→det td v=v)∧(∀v:List AV,c7 v=true→dJ td v=v)∧∀v:List (Nat×AV),sR v=true→gX td v=v:=
 AV.ind (M:=fun v=>noT v=true→det td v=v) (ML:=fun v=>c7 v=true→dJ td v=v) (MD:=fun v=>sR v=true→gX td v=v) (fun _=>rfl) (fun _ _=>rfl) (fun _ _=>rfl) (fun _ _=>rfl) (fun _ ih e=>congrArg AV.tup (ih e)) (fun _ ih e=>congrArg AV.lst (ih e)) (fun _ ih e=>congrArg AV.dct (ih e)) (fun k _ ih e=>congrArg (AV.ins k) (ih e)) (fun _ _=>rfl) (fun _ e=>nomatch e)
  (fun _=>rfl) (fun _ _ ia il e=>aT e fun e1 e2=>C1 (ia e1) (il e2)) (fun _=>rfl) fun k _ _ ia il e=>aT e fun e1 e2=>C1 (congrArg (Prod.mk k) (ia e1)) (il e2)
theorem hZ{v:AV}(e:noT v=true):det td v=v:=ug.1 v e
theorem jE{v:List AV}(e:c7 v=true):dJ td v=v:=ug.2.1 v e
theorem n7:noT KK=true:=by kernel_rfl
theorem pp(hc:∀i,noT (td i)=true)(hc':∀i,noT (td' i)=true){i:Nat}{v:AV}(e:td i=v){x:Value}(r:VR (X.wth X.B td) ad h (.tok i) x):VR (X.wth X.B td') ad' h v x:=by
 have q:noT v=true:=e▸hc i
 exact VR.cv (v:=.tok i) hc hc' (by show td i=_;rw[e];exact(hZ q).symm) (by show noT (td i)=true;exact hc i) r
theorem pr(hc:∀i,noT (td i)=true)(hc':∀i,noT (td' i)=true){i:Nat}{v:AV}(e:td' i=v){x:Value}(r:VR (X.wth X.B td) ad h v x):VR (X.wth X.B td') ad' h (.tok i) x:=by
 have q:noT v=true:=e▸hc' i
 exact VR.cv (v':=.tok i) hc hc' (by show _=td' i;rw[e];exact hZ q) (by rw[hZ q];exact q) r
theorem mo{v:AV}{x:Value}(q:noT v=true)(r:VR (X.wth X.B td) ad h v x):VR (X.wth X.B td') ad' h v x:=VR.retd q r
theorem OR.inst2{c:au}{k a b:Nat}{u v u' v':AV}(fu:∀x,VR (X.wth X.B td) ad h u x→VR (X.wth X.B td') ad' h u' x)(fv:∀x,VR (X.wth X.B td) ad h v x→VR (X.wth X.B td') ad' h v' x)(r:OR (X.wth X.B td) ad h c (.inst k [(a,u),(b,v)])):OR (X.wth X.B td') ad' h c (.inst k [(a,u'),(b,v')]):=
 r.onInst fun _ g dq hl q=>.inst g dq hl (q.onCons fun y _ q1 r1 q=>q.onCons fun z _ q2 r2 q=>q.onNil (.cons q1 (fu _ r1) (.cons q2 (fv _ r2) .nil)))
theorem OR.dict0{c:au}(r:OR (X.wth X.B td) ad h c (.dict [])):OR (X.wth X.B td') ad' h c (.dict []):=
 r.onDict fun kvs cd g hs hl q=>.dict (kvs:=kvs) cd g hs hl (q.onNil .nil)
theorem OR.listc{c:au}{l l':List AV}(hl':l'.length≤lim)(f:∀xs,VRs (X.wth X.B td) ad h l xs→VRs (X.wth X.B td') ad' h l' xs)(r:OR (X.wth X.B td) ad h c (.list l)):OR (X.wth X.B td') ad' h c (.list l'):=
 r.onList fun _ _ cd g _ q=>.list cd g hl' (f _ q)
section
variable {α:Type} {a b c d x:α} {k:Nat} {G:Nat→α→Prop}
@[elab_as_elim] theorem sW (e:[a][k]?=some x) (h0:G 0 a):G k x:=by
 cases k with
 | zero=>cases e;exact h0
 | succ k=>exact nomatch e
@[elab_as_elim] theorem BE (e:[a,b][k]?=some x) (h0:G 0 a) (h1:G 1 b):G k x:=by
 cases k with
 | zero=>cases e;exact h0
 | succ k=>exact sW (G:=fun k x=>G (k + 1) x) e h1
@[elab_as_elim] theorem BF (e:[a,b,c][k]?=some x) (h0:G 0 a) (h1:G 1 b) (h2:G 2 c):G k x:=by
 cases k with
 | zero=>cases e;exact h0
 | succ k=>exact BE (G:=fun k x=>G (k + 1) x) e h1 h2
@[elab_as_elim] theorem IB (e:[a,b,c,d][k]?=some x) (h0:G 0 a) (h1:G 1 b) (h2:G 2 c) (h3:G 3 d):G k x:=by
 cases k with
 | zero=>cases e;exact h0
 | succ k=>exact BF (G:=fun k x=>G (k + 1) x) e h1 h2 h3
theorem noI{G:Prop}(e:([]:List α)[k]?=some x):G:=nomatch e
theorem noM{P:α→Prop}:∀x∈([]:List α),P x:=fun _ h=>nomatch h
theorem nd1:[a].Nodup:=by simp
theorem nd2(h1:a≠b):[a,b].Nodup:=by simp[h1]
theorem nd3(h1:a≠b)(h2:a≠c)(h3:b≠c):[a,b,c].Nodup:=List.nodup_cons.mpr ⟨by simp[h1,h2],nd2 h3⟩
theorem nd4(h1:a≠b)(h2:a≠c)(h3:b≠c)(h4:a≠d)(h5:b≠d)(h6:c≠d):[a,b,c,d].Nodup:=List.nodup_cons.mpr ⟨by simp[h1,h2,h4],nd3 h3 h5 h6⟩
theorem in1{P:α→Prop}(h0:P a):∀x∈[a],P x:=fun _ h=>List.mem_singleton.mp h▸h0
theorem in2{P:α→Prop}(h0:P a)(h1:P b):∀x∈[a,b],P x:=List.forall_mem_cons.mpr ⟨h0,in1 h1⟩
theorem in3{P:α→Prop}(h0:P a)(h1:P b)(h2:P c):∀x∈[a,b,c],P x:=List.forall_mem_cons.mpr ⟨h0,in2 h1 h2⟩
theorem in4{P:α→Prop}(h0:P a)(h1:P b)(h2:P c)(h3:P d):∀x∈[a,b,c,d],P x:=List.forall_mem_cons.mpr ⟨h0,in3 h1 h2 h3⟩
end
theorem eC{ρ:List Nat}{k i:Nat}{c:au}(e:ρ[k]?=some i)(g:ad[i]?=some c):(sel ρ ad)[k]?=some c:=by rw[gz e,g];rfl
theorem Rep.onSel{T:aa}{ρ:List Nat}{i k:Nat}{o:AO}{c:au}(R:Rep X ad h T)(t:T[i]?=some o)(e:ρ[k]?=some i)(g:(sel ρ ad)[k]?=some c):ad[i]?=some c∧OR X ad h c o:=by
 obtain⟨c',g',r⟩:=R.get t
 rw[eC e g'] at g;cases g;exact⟨g',r⟩
theorem mq(L:aS X)(hc:∀i,noT (td i)=true)(h0:td 0=KK){T:aa}{i j r a b c k:Nat}{fu:Int}(hi:T[i]?=some (.inst 2 [(173,.tok 0),(139,.int fu)]))(hj:T[j]?=some (.inst 1 [(231,.ref r),(186,.int 0)]))(hr:T[r]?=some (.dict []))
  (ne:i≠j∧i≠r∧j≠r)(ha:td a=ak c)(hb:td b=kd k){r0:Nat}{S1:aa}(ev:dZ PQ 1000 20 34 [.ref 0,.tup [.str 256,ak c,kd k],.ref 1] uf=some (.ref r0,S1))(same:qY uf S1=true)
  {σ:List Nat}{N:aa}(hσ:σ.Nodup)(hσ0:∀i∈σ,3≤i∧i < S1.length)(hN:N.length=σ.length)(hv:σ[0]?=some r0)
  (hOR:∀(ad1 adB:List au) (h:Heap),(∀(j k:Nat) (c:au),σ[j]?=some k→ad1[k]?=some c→adB[T.length + j]?=some c)→(∀i∈σ,i < ad1.length)→∀(j k:Nat) (c:au) (o:AO),σ[j]?=some k→ad1[k]?=some c→S1[k]?=some o→OR (X.wth X.B fun _=>.int fu) ad1 h c o→∃o',N[j]?=some o'∧OR (X.wth X.B td) adB h c o'):
  bo (X.wth X.B td) 40 34 [.ref i,.tup [.str 256,.tok a,.tok b],.ref j] T (.ref T.length) (T++N):=by
 have hc2:∀i,noT ((fun _=>AV.int fu:Nat→AV) i)=true:=fun _=>rfl
 have L2:aS ((X.wth X.B td).wth (X.wth X.B td).B fun _=>.int fu):=L.wth (td:=fun _=>.int fu) fun _ _ e=>e
 have run:=xU L2 20 _ _ _ _ _ ev
 have li:=ae hi
 have lj:=ae hj
 have lr:=ae hr
 have sm:=qZ same
 refine emb (ρ:=[i,j,r]) (σ:=σ) run (nd3 ne.1 ne.2.1 ne.2.2) (in3 li lj lr) rfl hσ hσ0 (by rw[List.length_append,hN]) (fun x _ hx=>List.getElem?_append_left hx) (fun ad h R xs ra=>⟨fun k c o e1 e2=>?_,?_⟩) fun ad ad1 adB h objs oldB newB inB leB=>⟨fun k x c e1 e2=>?_,fun j k c e1 e2=>?_,fun x rv=>?_⟩
 ·exact BF (G:=fun k o=>(sel [i,j,r] ad)[k]?=some c→OR (X.wth X.B fun _=>.int fu) (sel [i,j,r] ad) h c o) e2
   (fun e=>OR.inst2 (fun x q=>pp hc hc2 h0 q) (fun x q=>pr (td':=fun _=>.int fu) (i:=0) hc hc2 rfl q) (R.onSel hi rfl e).2)
   (fun e=>OR.inst2 (fun x q=>q.onRef fun c g=>.ref (eC (k:=2) rfl g)) (fun x q=>mo rfl q) (R.onSel hj rfl e).2)
   (fun e=>OR.dict0 (R.onSel hr rfl e).2) e1
 ·have k1:noT (ak c)=true:=ha▸hc a
  have k2:noT (kd k)=true:=hb▸hc b
  have e1:det td (.tup [.str 256,.tok a,.tok b])=.tup [.str 256,ak c,kd k]:=by rw[←ha,←hb];rfl
  have n1:noT (.tup [.str 256,ak c,kd k])=true:=by show(true&&(noT (ak c)&&(noT (kd k)&&true)))=true;rw[k1,k2];rfl
  exact ra.on3 fun x y z r1 r2 r3=>.cons (r1.onRef fun c g=>.ref (eC (k:=0) rfl g)) (.cons (VR.cv (td:=td) (td':=fun _=>.int fu) (v':=.tup [.str 256,ak c,kd k]) hc hc2 (e1.trans (hZ n1).symm) (e1▸n1) r2)
   (.cons (r3.onRef fun c g=>.ref (eC (k:=1) rfl g)) .nil))
 ·exact BF (G:=fun k x=>ad1[k]?=some c→∃o,(T++N)[x]?=some o∧OR (X.wth X.B td) adB h c o) e1
   (fun e=>⟨_,(List.getElem?_append_left li).trans hi,OR.inst2 (td:=fun _=>.int fu) (fun x q=>pr hc2 hc h0 q) (fun x q=>pp (td:=fun _=>.int fu) (i:=0) hc2 hc rfl q) (objs 0 c _ e (sm 0 _ rfl))⟩)
   (fun e=>⟨_,(List.getElem?_append_left lj).trans hj,OR.inst2 (td:=fun _=>.int fu) (fun x q=>q.onRef fun c g=>.ref (oldB 2 _ _ rfl g)) (fun x q=>mo rfl q) (objs 1 c _ e (sm 1 _ rfl))⟩)
   (fun e=>⟨_,(List.getElem?_append_left lr).trans hr,OR.dict0 (objs 2 c _ e (sm 2 _ rfl))⟩) e2
 ·have hk:=(hσ0 k (List.mem_of_getElem? e1)).2
  have ek:=List.getElem?_eq_getElem hk
  exact(hOR ad1 adB h newB inB j k c _ e1 e2 ek (objs k c _ e2 ek)).elim fun o' q=>⟨o',by rw[List.getElem?_append_right (Nat.le_add_right _ _),Nat.add_sub_cancel_left];exact q.1,q.2⟩
 ·exact rv.onRef fun c g=>.ref (newB 0 _ _ hv g)
end Mine
end
section
open PySem PySem.W PySem.Calls PyProof.Rows
namespace Mine
variable {X:Cx} {td td':Nat→AV} {ad ad':List au} {h:Heap}
noncomputable def BG(T N:aa):Option (AV×aa):=iT T.length fun n=>br (T++N) fun T'=>some (.ref n,T')
theorem uh{T N:aa}:BG T N=some (.ref T.length,T++N):=by simp[BG]
noncomputable def rh(L:Nat)(a:Nat)(p q:Nat):Beh→aa
 | .yes=>[.list [.ref (L + 1)],.list []]
 | .no=>[.list []]
 | .two _ _=>[.list [.ref (L + 1),.ref (L + 2)],.list [.tup [.str 256,.tok a,.tok p]],.list [.tup [.str 256,.tok a,.tok q]]]
theorem nbq{a b:Nat}(h:(!(Nat.beq a b))=true):a≠b:=fun e=>by subst e;rw[Nat.beq_refl] at h;exact nomatch h
theorem OR.as{c:au}{S:aa}{k:Nat}{o p:AO}(r:OR X ad h c o)(e:S[k]?=some o)(w:S[k]?=some p):OR X ad h c p:=Option.some.inj (e.symm.trans w)▸r
theorem vx(L:aS X)(hc:∀i,noT (td i)=true)(h0:td 0=KK){T:aa}{i j r a b p q ic k:Nat}{fu:Int}(hi:T[i]?=some (.inst 2 [(173,.tok 0),(139,.int fu)]))(hj:T[j]?=some (.inst 1 [(231,.ref r),(186,.int 0)]))(hr:T[r]?=some (.dict []))
  (ne:i≠j∧i≠r∧j≠r)(hic:ic < 8)(hk:k < 29)(ha:td a=ak (nm ic))(hb:td b=kd k)(hpq:∀u v,KT.getD k []=[u,v]→td p=ak u∧td q=ak v):
  bo (X.wth X.B td) 40 34 [.ref i,.tup [.str 256,.tok a,.tok b],.ref j] T (.ref T.length) (T++rh T.length a p q (beh (nm ic) (KT.getD k []))):=by
 refine jb (aP (aP yb hic) hk) fun v S1 ev ck=>aT ck fun hv ck=>aT ck fun same ck=>aT ck fun h3 wb=>?_
 rw[sS hv] at ev
 have h3:=d0 h3
 have l1:∀{o:AO},S1[rI v]?=some o→rI v < S1.length:=ae
 generalize rI (itm S1 (rI v) 0)=p0 at wb
 generalize rI (itm S1 (rI v) 1)=q0 at wb
 generalize rI v=r0 at ev h3 wb l1
 generalize beh (nm ic) (KT.getD k [])=bh at wb ⊢
 cases bh with
 | no=>
  have w:=hY wb
  exact mq L hc h0 hi hj hr ne ha hb ev same (σ:=[r0]) nd1 (in1 ⟨h3,l1 w⟩) rfl rfl fun ad1 adB h newB inB j k c o e2 e3 e4 ro=>
   sW (G:=fun j k=>S1[k]?=some o→∃o',(rh T.length a p q .no)[j]?=some o'∧OR (X.wth X.B td) adB h c o') e2 (fun e4=>⟨_,rfl,OR.listc (Nat.zero_le _) (fun xs q=>q.onNil .nil) (ro.as e4 w)⟩) e4
 | yes=>
  refine aT wb fun w0 wb=>aT wb fun w1 wb=>aT wb fun w2 w3=>?_
  have w0:=hY w0
  have w3:=hY w3
  exact mq L hc h0 hi hj hr ne ha hb ev same (σ:=[r0,p0]) (nd2 (nbq w2).symm) (in2 ⟨h3,l1 w0⟩ ⟨d0 w1,ae w3⟩) rfl rfl fun ad1 adB h newB inB j k c o e2 e3 e4 ro=>
   BE (G:=fun j k=>S1[k]?=some o→∃o',(rh T.length a p q .yes)[j]?=some o'∧OR (X.wth X.B td) adB h c o') e2
    (fun e4=>⟨_,rfl,OR.listc (Nat.le_of_ble_eq_true rfl) (fun xs q=>q.on1 fun y q1=>q1.onRef fun _ g=>.cons (.ref (newB 1 _ _ rfl g)) .nil) (ro.as e4 w0)⟩)
    (fun e4=>⟨_,rfl,OR.listc (Nat.zero_le _) (fun xs q=>q.onNil .nil) (ro.as e4 w3)⟩) e4
 | two x y=>
  refine aT wb fun hkt wb=>aT wb fun w0 wb=>aT wb fun w1 wb=>aT wb fun w2 wb=>aT wb fun w3 wb=>aT wb fun w4 wb=>aT wb fun w5 wb=>aT wb fun w6 w7=>?_
  have hkt:=hpq _ _ (eq_of_beq hkt)
  have w0:=hY w0
  have w6:=hY w6
  have w7:=hY w7
  have goal:∀{ad1 adB:List au} {h:Heap} {z w:Nat} {xs:List Value},td z=ak w→VRs (X.wth X.B fun _=>.int fu) ad1 h [.tup [.str 256,ak (nm ic),ak w]] xs→VRs (X.wth X.B td) adB h [.tup [.str 256,.tok a,.tok z]] xs:=fun {ad1 adB h z w xs} hz r=>by
   have n1:c7 [.tup [.str 256,ak (nm ic),ak w]]=true:=rfl
   exact VRs.cv (td:=fun _=>.int fu) (fun _=>rfl) hc (by rw[jE n1,←ha,←hz];rfl) (by rw[jE n1];rfl) r
  exact mq L hc h0 hi hj hr ne ha hb ev same (σ:=[r0,p0,q0]) (nd3 (nbq w3).symm (nbq w4).symm (nbq w5)) (in3 ⟨h3,l1 w0⟩ ⟨d0 w1,ae w6⟩ ⟨d0 w2,ae w7⟩) rfl rfl fun ad1 adB h newB inB j k c o e2 e3 e4 ro=>
   BF (G:=fun j k=>S1[k]?=some o→∃o',(rh T.length a p q (.two x y))[j]?=some o'∧OR (X.wth X.B td) adB h c o') e2
    (fun e4=>⟨_,rfl,OR.listc (Nat.le_of_ble_eq_true rfl) (fun xs q=>q.on2 fun y z q1 q2=>q1.onRef fun _ g=>q2.onRef fun _ g2=>.cons (.ref (newB 1 _ _ rfl g)) (.cons (.ref (newB 2 _ _ rfl g2)) .nil)) (ro.as e4 w0)⟩)
    (fun e4=>⟨_,rfl,OR.listc (Nat.le_of_ble_eq_true rfl) (fun xs q=>goal hkt.1 q) (ro.as e4 w6)⟩)
    (fun e4=>⟨_,rfl,OR.listc (Nat.le_of_ble_eq_true rfl) (fun xs q=>goal hkt.2 q) (ro.as e4 w7)⟩) e4
theorem BH{n f:Nat}{args args0:List AV}{T S1:aa}{v v0:AV}(hc:∀i,noT (td i)=true)(run:bo X n f args0 [] v0 S1)(ha:dJ td args=args0)(hn:c7 args0=true)(hv:det td v=v0)(hvn:noT v0=true):bo (X.wth X.B td) n f args T v T:=by
 have run':bo ((X.wth X.B td).wth (X.wth X.B td).B X.td) n f args0 [] v0 S1:=run
 refine emb (ρ:=[]) (σ:=[]) run' List.nodup_nil noM rfl List.nodup_nil noM rfl (fun _ _ _=>rfl) (fun ad h R xs ra=>⟨fun k c o e _=>noI e,?_⟩) fun ad ad1 adB h _ _ _ _ _=>⟨fun k i c e=>noI e,fun j k c e=>noI e,fun x r=>?_⟩
 ·exact VRs.retd (X:=X) (td:=X.td) (td':=X.td) hn (ha▸VRs.det hc ra)
 ·exact VR.untok hc v (hv▸VR.retd (X:=X) (td:=X.td) (td':=X.td) (ad':=adB) hvn r)
end Mine
end
section
open PySem PySem.W PySem.Calls PyProof.Rows
namespace Mine
noncomputable def fuO(fu:Int):AO:=.inst 2 [(173,.tok 0),(139,.int fu)]
noncomputable def sdO(r:Nat):AO:=.inst 1 [(231,.ref r),(186,.int 0)]
noncomputable def ne3(i j r:Nat):Bool:=!(Nat.beq i j)&&(!(Nat.beq i r)&&!(Nat.beq j r))
theorem px{i j r:Nat}(h:ne3 i j r=true):i≠j∧i≠r∧j≠r:=aT h fun h1 h=>aT h fun h2 h3=>⟨nbq h1,nbq h2,nbq h3⟩
noncomputable def O1a(bh:Nat→Nat→Option Beh)(pt:Nat→Nat×Nat)(args:List AV)(T:aa)(i j a b:Nat):Option (AV×aa):=
 ay (bh a b) (fun w=>am (j6 60 args [.ref i,.tup [.str 256,.tok a,.tok b],.ref j]&&(atO T i (fuO (nI (fld T i 1)))&&(atO T j (sdO (rI (fld T j 0)))&&(atO T (rI (fld T j 0)) (.dict [])&&ne3 i j (rI (fld T j 0)))))) (BG T (rh T.length a (pt b).1 (pt b).2 w)) none) none
noncomputable def O1(bh:Nat→Nat→Option Beh)(pt:Nat→Nat×Nat)(em:Nat→Bool):CF:=fun f args T=>
 am (Nat.beq f 34) (O1a bh pt args T (rI (atV args 0)) (rI (atV args 2)) (tI (atV (els (atV args 1)) 1)) (tI (atV (els (atV args 1)) 2)))
 (am (Nat.beq f 29) (am (j6 60 args [.tok (tI (atV args 0))]&&em (tI (atV args 0))) (some (.bool false,T)) none) none)
noncomputable def fnV:AV:=.tup [.str 135,.str 131]
noncomputable def aL(cs:List AV):AV:=.tup [.str 269,.tup (fnV::cs),.none]
noncomputable def tq1(fl:Bool)(a0 b0:AV):AV→AV→Option Bool:=fun a b=>am (eqX 60 a a0&&eqX 60 b b0) (some fl) (am (eqX 60 a b0&&eqX 60 b (ak 12)) (some false) none)
noncomputable def ofB(b:Bool):Beh:=am b .yes .no
noncomputable def prt(fst:Bool)(b:Beh):Option Beh:=Beh.casesOn b none none fun x y=>some (ofB (am fst x y))
noncomputable def is2(a b c d:Nat):Bool:=Nat.beq a c&&Nat.beq b d
noncomputable def bh1(b1 b2:Beh)(a b:Nat):Option Beh:=
 am (is2 a b 1 3) (some b1) (am (is2 a b 2 4) (some b2) (am (is2 a b 1 5) (prt true b1) (am (is2 a b 1 6) (prt false b1) (am (is2 a b 2 7) (prt true b2) (am (is2 a b 2 8) (prt false b2) none)))))
noncomputable def pt1(b:Nat):Nat×Nat:=am (Nat.beq b 3) (5,6) (am (Nat.beq b 4) (7,8) (0,0))
noncomputable def em1(a:Nat):Bool:=Nat.beq a 1||Nat.beq a 2
noncomputable def fV(k:AV)(cs:List AV)(o:AV):aa:=[.inst 2 [(173,k),(139,.int 4000)],.inst 1 [(231,.ref 2),(186,.int 0)],.dict [],.list [.tup [.str 256,aL cs,o]]]
noncomputable def okB(b:Beh):Bool:=Beh.casesOn b true false fun x y=>x||y
inductive Out where
 | no
 | same
 | new
noncomputable def Fo(b:Beh):Bool:=Beh.casesOn b false false fun x y=>!x&&y
noncomputable def Fp(fl ok ny:Bool):Out:=am fl .same (am ok (am ny .new .same) .no)
noncomputable def Lv(S1:aa)(v:AV)(i d:Nat)(w:Out):Bool:=Out.casesOn w (iN v true false) (eqX 60 v (.ref 1))
 (eqX 60 v (.ref i)&&(Nat.ble 4 i&&(atO S1 i (sdO d)&&(Nat.ble 4 d&&(!(Nat.beq d i)&&atO S1 d (.dict []))))))
noncomputable def yd(S0:aa)(w:Out)(r:Option (AV×aa)):Bool:=rf r fun v S1=>atO S1 0 (fuO (nI (fld S1 0 1)))&&(qY (S0.drop 1) (S1.drop 1)&&Lv S1 v (rI v) (rI (fld S1 (rI v) 0)) w)
noncomputable def ye(fl:Bool)(b:Beh):Bool:=yd (fV (.tok 0) [.tok 1] (aL [.tok 3])) (Fp fl (okB b) (Fo b)) (evO (PT (tq1 fl (aL [.tok 1]) (aL [.tok 3]))) 1000 (O1 (bh1 b .no) pt1 em1) 8 32 [.ref 0,.ref 3,.ref 1] (fV (.tok 0) [.tok 1] (aL [.tok 3])))
noncomputable def yf(fl:Bool)(b c:Beh):Bool:=yd (fV (.tok 0) [.tok 1,.tok 2] (aL [.tok 3,.tok 4])) (Fp fl (okB b&&okB c) (Fo b||Fo c)) (evO (PT (tq1 fl (aL [.tok 1,.tok 2]) (aL [.tok 3,.tok 4]))) 1000 (O1 (bh1 b c) pt1 em1) 8 32 [.ref 0,.ref 3,.ref 1] (fV (.tok 0) [.tok 1,.tok 2] (aL [.tok 3,.tok 4])))
noncomputable def py(f:Beh→Bool):Bool:=f .yes&&(f .no&&(f (.two true true)&&(f (.two true false)&&(f (.two false true)&&f (.two false false)))))
theorem j7{f:Beh→Bool}(h:py f=true)(b:Beh):f b=true:=
 aT h fun h1 h=>aT h fun h2 h=>aT h fun h3 h=>aT h fun h4 h=>aT h fun h5 h6=>Beh.casesOn (motive:=fun b=>f b=true) b h1 h2 fun x y=>Bool.casesOn (motive:=fun x=>f (.two x y)=true) x
  (Bool.casesOn (motive:=fun y=>f (.two false y)=true) y h6 h5) (Bool.casesOn (motive:=fun y=>f (.two true y)=true) y h4 h3)
theorem yg:py (fun b=>ye false b&&(!(okB b)||ye true b))=true:=by kernel_rfl
noncomputable def ID:Option (AV×aa):=evO (PT (tq1 false (aL [.tok 1]) (aL [.tok 3,.tok 4]))) 1000 (O1 (fun _ _=>none) pt1 em1) 8 32 [.ref 0,.ref 3,.ref 1] (fV (.tok 0) [.tok 1] (aL [.tok 3,.tok 4]))
noncomputable def IF:Option (AV×aa):=evO (PT (tq1 false (aL [.tok 1,.tok 2]) (aL [.tok 3]))) 1000 (O1 (fun _ _=>none) pt1 em1) 8 32 [.ref 0,.ref 3,.ref 1] (fV (.tok 0) [.tok 1,.tok 2] (aL [.tok 3]))
theorem vy:yd (fV (.tok 0) [.tok 1] (aL [.tok 3,.tok 4])) .no ID=true:=by kernel_rfl
theorem vz:yd (fV (.tok 0) [.tok 1,.tok 2] (aL [.tok 3])) .no IF=true:=by kernel_rfl
theorem yh:py (fun b=>py fun c=>yf false b c&&(!(okB b&&okB c)||yf true b c))=true:=by kernel_rfl
end Mine
end
section
open PySem PySem.W PySem.Calls PyProof.Rows
namespace Mine
variable {X:Cx} {td td':Nat→AV} {ad ad':List au} {h:Heap}
theorem mr{S:aa}(n:Nat):(∀v,noT v=true→isD n S v=isD n [] v)∧(∀v,c7 v=true→eT n S v=eT n [] v):=by
 induction n with
 | zero=>exact⟨fun _ _=>rfl,fun _ _=>rfl⟩
 | succ n ih=>
  refine⟨fun v e=>?_,fun v e=>?_⟩
  ·cases v<;>first | rfl | exact ih.2 _ e | exact Mine.clF e
  ·cases v with
   | nil=>rfl
   | cons a r=>exact aT e fun e1 e2=>IA (ih.1 _ e1) (ih.2 _ e2)
theorem sX{S:aa}(n:Nat):(∀a b,noT a=true→noT b=true→eqA n S a b=eqA n [] a b)∧(∀a b,c7 a=true→c7 b=true→eqL n S a b=eqL n [] a b):=by
 induction n with
 | zero=>exact⟨fun _ _ _ _=>rfl,fun _ _ _ _=>rfl⟩
 | succ n ih=>
  refine⟨fun a b ea eb=>?_,fun a b ea eb=>?_⟩
  ·cases a<;>first | rfl | exact Mine.clF ea | (cases b<;>first | rfl | exact ih.2 _ _ ea eb | exact Mine.clF eb)
  ·cases a with
   | nil=>cases b<;>rfl
   | cons x r=>
    cases b with
    | nil=>rfl
    | cons y t=>exact aT ea fun a1 a2=>aT eb fun b1 b2=>IA (ih.1 _ _ a1 b1) (ih.2 _ _ a2 b2)
theorem VR.up{v:AV}{x:Value}(hc:∀i,noT (td i)=true)(q:noT (Mine.det td v)=true)(r:VR (X.wth X.B td) ad h v x):VR (X.wth X.B td) ad h (Mine.det td v) x:=VR.retd (td:=X.td) q (VR.det hc r)
theorem pz(hc:∀i,noT (td i)=true){fl:Bool}{a0 b0:AV}(na:noT (det td a0)=true)(nb:noT (det td b0)=true)(da:isD eqN [] (det td a0)=true)(db:isD eqN [] (det td b0)=true)(hfl:eqA eqN [] (det td a0) (det td b0)=fl)(hany:eqA eqN [] (det td b0) (ak 12)=false):
  dG (X.wth X.B td) (tq1 fl a0 b0):=by
 intro a b r e ad h S x y R ra rb
 refine aE e (fun q e=>aT q fun qa qb=>?_) fun _ e=>aC e nN fun q e=>aT q fun qa qb=>?_
 ·rw[(bE 60).1 _ _ qa] at ra
  rw[(bE 60).1 _ _ qb] at rb
  exact⟨_,_,⟨((mr eqN).1 _ na).trans da,((mr eqN).1 _ nb).trans db⟩,ra.up hc na,rb.up hc nb,((sX eqN).1 _ _ na nb).trans (hfl.trans (Option.some.inj e))⟩
 ·rw[(bE 60).1 _ _ qa] at ra
  rw[(bE 60).1 _ _ qb] at rb
  exact⟨_,ak 12,⟨((mr eqN).1 _ nb).trans db,rfl⟩,ra.up hc nb,rb,((sX eqN).1 _ _ nb rfl).trans (hany.trans (Option.some.inj e))⟩
theorem vA(L:aS X){i:Nat}(hi:i < 8):∃S1,bo X 40 29 [ak (nm i)] [] (.bool false) S1:=
 jb (aP vv hi) fun v S1 e q=>by
  have:v=.bool false:=ou (G:=fun v=>v=.bool false) q nF fun b h=>by cases b<;>first | rfl | cases h
  subst this;exact⟨S1,xU L 20 _ _ _ _ _ e⟩
noncomputable def Fq(td:Nat→AV)(pt:Nat→Nat×Nat)(a b:Nat)(w:Beh):Prop:=∃ic k,ic < 8∧k < 29∧td a=ak (nm ic)∧td b=kd k∧beh (nm ic) (KT.getD k [])=w∧∀u v,KT.getD k []=[u,v]→td (pt b).1=ak u∧td (pt b).2=ak v
theorem ui(L:aS X)(hc:∀i,noT (td i)=true)(h0:td 0=KK){bh:Nat→Nat→Option Beh}{pt:Nat→Nat×Nat}{em:Nat→Bool}
  (Hb:∀a b w,bh a b=some w→Fq td pt a b w)(He:∀a,em a=true→∃ic,ic < 8∧td a=ak (nm ic)):Snd (X.wth X.B td) 40 (O1 bh pt em):=by
 intro f args T v T' e
 refine aE e (fun hf e=>ah e nN fun w hw e=>aC e nN fun q e=>aT q fun q1 q=>aT q fun hi q=>aT q fun hj q=>aT q fun hr q=>?_) fun _ e=>aC e nN fun hf e=>aC e nN fun q e=>aT q fun q1 q=>?_
 ·have ne:=px q
  have hi:=d6 hi
  have hj:=d6 hj
  have hr:=d6 hr
  rw[uh] at e
  rw[d5 hf,(bE 60).2.1 _ _ q1]
  refine dP (G:=fun v T'=>bo (X.wth X.B td) 40 34 _ T v T') e ?_
  obtain⟨ic,k,hic,hk,ha,hb,rfl,hp⟩:=Hb _ _ w hw
  exact vx L hc h0 hi hj hr ne hic hk ha hb hp
 ·rw[d5 hf,(bE 60).2.1 _ _ q1]
  refine dP (G:=fun v T'=>bo (X.wth X.B td) 40 29 _ T v T') e ?_
  obtain⟨ic,hic,ha⟩:=He _ q
  obtain⟨S1,run⟩:=vA L hic
  exact BH hc run (by rw[←ha];rfl) rfl rfl rfl
noncomputable def ix(c:Nat):Nat:=(e6 c nmC).getD 8
noncomputable def nmB(u:Nat):Bool:=Nat.blt (ix u) 8&&Nat.beq (nm (ix u)) u
noncomputable def ktB(l:List Nat):Bool:=am (l==[l.getD 0 0]) (nmB (l.getD 0 0)) ((l==[l.getD 0 0,l.getD 1 0])&&(nmB (l.getD 0 0)&&nmB (l.getD 1 0)))
theorem yi:bD 29 (fun k=>(noT (kd k)&&(isD 34 [] (kd k)&&isD 33 [] (kd k)))&&ktB (KT.getD k []))=true:=by kernel_rfl
theorem yj:bD 8 (fun i=>KT.getD i []==[nm i])=true:=by kernel_rfl
end Mine
end
section
open PySem PySem.W PySem.Calls PyProof.Rows
namespace Mine
variable {X:Cx}
noncomputable def eD(c k:Nat):Bool:=okB (beh c (KT.getD k []))
noncomputable def pk(k j:Nat):Nat:=(KT.getD k []).getD j 0
noncomputable def tdR(i1 i2 k1 k2:Nat):Nat→AV
 | 0=>KK
 | 1=>ak (nm i1)
 | 2=>ak (nm i2)
 | 3=>kd k1
 | 4=>kd k2
 | 5=>ak (pk k1 0)
 | 6=>ak (pk k1 1)
 | 7=>ak (pk k2 0)
 | 8=>ak (pk k2 1)
 | _=>.none
theorem fc{k:Nat}(hk:k < 29):noT (kd k)=true∧isD 34 [] (kd k)=true∧isD 33 [] (kd k)=true:=
 aT (aP yi hk) fun q _=>aT q fun q1 q=>aT q fun q2 q3=>⟨q1,q2,q3⟩
theorem pA{i1 i2 k1 k2:Nat}(h1:k1 < 29)(h2:k2 < 29):∀i,noT (tdR i1 i2 k1 k2 i)=true
 | 0=>n7
 | 1=>rfl
 | 2=>rfl
 | 3=>(fc h1).1
 | 4=>(fc h2).1
 | 5=>rfl
 | 6=>rfl
 | 7=>rfl
 | 8=>rfl
 | n + 9=>rfl
theorem pB{u:Nat}(h:ix u < 8)(e:nm (ix u)=u):kd (ix u)=ak u∧KT.getD (ix u) []=[u]:=by
 have w:=eq_of_beq (aP yj h)
 rw[e] at w
 exact⟨by unfold kd;rw[w];rfl,w⟩
noncomputable def pC(u:Nat):Prop:=ix u < 8∧nm (ix u)=u
theorem pD{u:Nat}(h:nmB u=true):pC u:=aT h fun a b=>⟨cK a,d5 b⟩
theorem uj{k:Nat}(hk:k < 29):(∃u,KT.getD k []=[u]∧pC u)∨∃u v,KT.getD k []=[u,v]∧pC u∧pC v:=
 aT (aP yi hk) fun _ q=>aE q (fun e q=>.inl ⟨_,eq_of_beq e,pD q⟩) fun _ q=>aT q fun e q=>aT q fun a b=>.inr ⟨_,_,eq_of_beq e,pD a,pD b⟩
theorem pE(c u:Nat):beh c [u]=ofB (qX c u):=by
 show(match qX c u with | true=>Beh.yes | false=>Beh.no)=_
 cases qX c u<;>rfl
theorem BJ{b x y:Bool}{G:Prop}(e:ofB b=.two x y):G:=by cases b<;>exact nomatch e
theorem BK{fst:Bool}{b w:Beh}{G:Prop}(e:prt fst b=some w)(K:∀x y,b=.two x y→ofB (am fst x y)=w→G):G:=by
 cases b with
 | yes=>exact nomatch e
 | no=>exact nomatch e
 | two x y=>exact K x y rfl (Option.some.inj e)
theorem Fs{c k:Nat}{fst:Bool}{w:Beh}{G:Prop}(hk:k < 29)(e:prt fst (beh c (KT.getD k []))=some w)(K:∀u,pk k (am fst 0 1)=u→ix u < 8→kd (ix u)=ak u→KT.getD (ix u) []=[u]→beh c [u]=w→G):G:=
 BK e fun x y e ew=>(uj hk).elim (fun⟨u,q,_⟩=>by rw[q,pE] at e;exact BJ e) fun⟨u,v,q,nu,nv⟩=>by
  rw[q] at e
  have e:Beh.two (qX c u) (qX c v)=.two x y:=e
  cases e
  cases fst with
  | true=>exact K u (by unfold pk;rw[q];rfl) nu.1 (pB nu.1 nu.2).1 (pB nu.1 nu.2).2 ((pE c u).trans ew)
  | false=>exact K v (by unfold pk;rw[q];rfl) nv.1 (pB nv.1 nv.2).1 (pB nv.1 nv.2).2 ((pE c v).trans ew)
theorem j8{a b c d:Nat}(h:is2 a b c d=true):a=c∧b=d:=aT h fun h1 h2=>⟨d5 h1,d5 h2⟩
theorem Lw{u:Nat}{p q:AV}{l:List Nat}(e:l=[u]):∀u' v',l=[u',v']→p=ak u'∧q=ak v':=fun u' v' e'=>nomatch e.symm.trans e'
theorem IG{k:Nat}{p q:AV}(hp:p=ak (pk k 0))(hq:q=ak (pk k 1)):∀u v,KT.getD k []=[u,v]→p=ak u∧q=ak v:=fun u v e=>by
 unfold pk at hp hq;rw[e] at hp hq;exact⟨hp,hq⟩
theorem C2{i1 i2 k1 k2:Nat}(hi1:i1 < 8)(hi2:i2 < 8)(h1:k1 < 29)(h2:k2 < 29)(a b:Nat)(w:Beh)(e:bh1 (beh (nm i1) (KT.getD k1 [])) (beh (nm i2) (KT.getD k2 [])) a b=some w):Fq (tdR i1 i2 k1 k2) pt1 a b w:=by
 have P:∀{i k:Nat} {fst:Bool} {a' b':Nat},i < 8→k < 29→is2 a b a' b'=true→prt fst (beh (nm i) (KT.getD k []))=some w→tdR i1 i2 k1 k2 a'=ak (nm i)→tdR i1 i2 k1 k2 b'=ak (pk k (am fst 0 1))→Fq (tdR i1 i2 k1 k2) pt1 a b w:=fun hi hk q e ea eb=>by
  rw[(j8 q).1,(j8 q).2]
  exact Fs hk e fun u p a1 a2 a3 a4=>⟨_,ix u,hi,Nat.lt_trans a1 (by decide),ea,by rw[eb,p,a2],by rw[a3];exact a4,Lw a3⟩
 refine aE e (fun q e=>?_) fun _ e=>aE e (fun q e=>?_) fun _ e=>aE e (fun q e=>P hi1 h1 q e rfl rfl) fun _ e=>aE e (fun q e=>P hi1 h1 q e rfl rfl) fun _ e=>aE e (fun q e=>P hi2 h2 q e rfl rfl) fun _ e=>aC e nN fun q e=>P hi2 h2 q e rfl rfl
 ·rw[(j8 q).1,(j8 q).2];exact⟨i1,k1,hi1,h1,rfl,rfl,Option.some.inj e,IG rfl rfl⟩
 ·rw[(j8 q).1,(j8 q).2];exact⟨i2,k2,hi2,h2,rfl,rfl,Option.some.inj e,IG rfl rfl⟩
theorem uk{i1 i2 k1 k2:Nat}(hi1:i1 < 8)(hi2:i2 < 8)(a:Nat)(e:em1 a=true):∃ic,ic < 8∧tdR i1 i2 k1 k2 a=ak (nm ic):=
 (Bool.or_eq_true_iff.mp e).elim (fun e=>⟨i1,hi1,by rw[d5 e];rfl⟩) fun e=>⟨i2,hi2,by rw[d5 e];rfl⟩
noncomputable abbrev C3(v:AV)(S1:aa):Out→Prop
 | .no=>v=.none
 | .same=>v=.ref 1
 | .new=>∃i d,v=.ref i∧4≤i∧4≤d∧d≠i∧S1[i]?=some (.inst 1 [(231,.ref d),(186,.int 0)])∧S1[d]?=some (.dict [])
noncomputable def mu(X:Cx)(cs:List AV)(o:AV)(w:Out):Prop:=∃v S1 n,bo X 56 32 [.ref 0,.ref 3,.ref 1] (fV KK cs o) v S1∧S1[0]?=some (.inst 2 [(173,KK),(139,.int n)])∧(∀(i:Nat) (b:AO),((fV KK cs o).drop 1)[i]?=some b→S1[i + 1]?=some b)∧C3 v S1 w
theorem pF{td:Nat→AV}(hc:∀i,noT (td i)=true)(h0:td 0=KK){cs:List AV}{o:AV}{w:Out}{r:Option (AV×aa)}(hr:yd (fV (.tok 0) cs o) w r=true)(snd:∀v S1,r=some (v,S1)→bo (X.wth X.B td) 56 32 [.ref 0,.ref 3,.ref 1] (fV (.tok 0) cs o) v S1):mu X (dJ td cs) (det td o) w:=by
 refine jb hr fun v S1 er hr=>aT hr fun h00 hr=>aT hr fun sm hw=>?_
 have run:=dL hc (snd v S1 er)
 have hS:(fV (.tok 0) cs o).map (vr td)=fV KK (dJ td cs) (det td o):=by rw[←h0];rfl
 rw[hS] at run
 have h00:=d6 h00
 have sm:=qZ sm
 refine⟨_,_,nI (fld S1 0 1),run,by rw[List.getElem?_map,h00,←h0];rfl,fun i b e=>?_,?_⟩
 ·rw[←hS,←List.map_drop,List.getElem?_map] at e
  cases q:((fV (.tok 0) cs o).drop 1)[i]? with
  | none=>rw[q] at e;cases e
  | some b'=>
   rw[q] at e;cases e
   have:=sm i b' q
   rw[List.getElem?_drop,Nat.add_comm] at this
   rw[List.getElem?_map,this];rfl
 ·cases w with
  | no=>exact jk (G:=fun v=>det td v=.none) hw nF fun _=>rfl
  | same=>exact congrArg (det td) ((bE 60).1 _ _ hw)
  | new=>exact aT hw fun q0 hw=>aT hw fun q1 hw=>aT hw fun q2 hw=>aT hw fun q3 hw=>aT hw fun q4 q5=>
    ⟨_,_,congrArg (det td) ((bE 60).1 _ _ q0),d0 q1,d0 q3,nbq q4,by rw[List.getElem?_map,d6 q2];rfl,by rw[List.getElem?_map,d6 q5];rfl⟩
end Mine
end
section
open PySem PySem.W PySem.Calls PyProof.Rows
namespace Mine
variable {X:Cx}
theorem Ft:bD 8 (fun i=>bD 29 fun k=>(!(eqA 34 [] (ak (nm i)) (kd k))||eD (nm i) k)&&(!(eqA 33 [] (ak (nm i)) (kd k))||eD (nm i) k))=true:=by kernel_rfl
theorem mw(v:AV):isD eqN [] (aL [v])=((isD 34 [] v&&true)&&true):=rfl
theorem mx(u v:AV):isD eqN [] (aL [u,v])=((isD 34 [] u&&(isD 33 [] v&&true))&&true):=rfl
theorem yk(a b:AV):eqA eqN [] (aL [a]) (aL [b])=((eqA 34 [] a b&&true)&&true):=rfl
theorem yl(a b c d:AV):eqA eqN [] (aL [a,b]) (aL [c,d])=((eqA 34 [] a c&&(eqA 33 [] b d&&true))&&true):=rfl
theorem ul(l:List AV):noT (aL l)=(c7 l&&true):=rfl
theorem orN{a b:Bool}(h:(!a||b)=true)(e:a=true):b=true:=by rw[e] at h;exact h
theorem Fu{a:AV}(h:noT a=true):noT (aL [a])=true:=by show((noT a&&true)&&true)=true;rw[h];rfl
theorem Fv{a b:AV}(h:noT a=true)(h2:noT b=true):noT (aL [a,b])=true:=by show((noT a&&(noT b&&true))&&true)=true;rw[h,h2];rfl
theorem sY{i k:Nat}(hi:i < 8)(hk:k < 29):(eqA 34 [] (ak (nm i)) (kd k)=true→eD (nm i) k=true)∧(eqA 33 [] (ak (nm i)) (kd k)=true→eD (nm i) k=true):=by
 have:=aP (aP Ft hi) hk
 exact aT this fun h1 h2=>⟨orN h1,orN h2⟩
theorem ym{fl ok ny:Bool}(h:fl=true→ok=true):Fp fl ok ny=.no↔ok=false:=by
 cases ok with
 | true=>exact⟨fun e=>(by cases fl<;>cases ny<;>cases e),fun e=>(nomatch e)⟩
 | false=>cases fl with
  | false=>exact⟨fun _=>rfl,fun _=>rfl⟩
  | true=>exact nomatch h rfl
theorem BL(L:aS X){i k:Nat}(hi:i < 8)(hk:k < 29):∃w,mu X [ak (nm i)] (aL [kd k]) w∧(w=.no↔eD (nm i) k=false):=by
 have hc:=pA (i1:=i) (i2:=0) hk (show 2 < 29 by decide)
 have ck:=j7 yg (beh (nm i) (KT.getD k []))
 have hfl:eqA eqN [] (aL [ak (nm i)]) (aL [kd k])=true→eD (nm i) k=true:=fun e=>by
  rw[yk,Bool.and_true,Bool.and_true] at e;exact(sY hi hk).1 e
 generalize hf:eqA eqN [] (aL [ak (nm i)]) (aL [kd k])=fl at hfl
 have run:ye fl (beh (nm i) (KT.getD k []))=true:=by
  cases fl with
  | false=>exact aT ck fun h _=>h
  | true=>exact aT ck fun _ h=>orN h (hfl rfl)
 have Lt:aS (X.wth X.B (tdR i 0 k 2)):=L.wth fun _ _ e=>e
 have k1:=fc hk
 have E:dG (X.wth X.B (tdR i 0 k 2)) (tq1 fl (aL [.tok 1]) (aL [.tok 3])):=pz hc rfl (Fu k1.1) rfl (by show isD eqN [] (aL [kd k])=true;rw[mw,k1.2.1];rfl) hf rfl
 have O:=ui (X:=X) L hc rfl (C2 hi (show 0 < 8 by decide) hk (show 2 < 29 by decide)) (uk hi (show 0 < 8 by decide))
 exact⟨_,pF hc rfl run fun v S1 e=>kT Lt E O 8 _ _ _ _ _ e,ym hfl⟩
theorem BM(L:aS X){i j k l:Nat}(hi:i < 8)(hj:j < 8)(hk:k < 29)(hl:l < 29):∃w,mu X [ak (nm i),ak (nm j)] (aL [kd k,kd l]) w∧(w=.no↔(eD (nm i) k&&eD (nm j) l)=false):=by
 have hc:=pA (i1:=i) (i2:=j) hk hl
 have ck:=j7 (j7 yh (beh (nm i) (KT.getD k []))) (beh (nm j) (KT.getD l []))
 have hfl:eqA eqN [] (aL [ak (nm i),ak (nm j)]) (aL [kd k,kd l])=true→(eD (nm i) k&&eD (nm j) l)=true:=fun e=>by
  rw[yl,Bool.and_true,Bool.and_true,Bool.and_eq_true] at e
  rw[(sY hi hk).1 e.1,(sY hj hl).2 e.2];rfl
 generalize hf:eqA eqN [] (aL [ak (nm i),ak (nm j)]) (aL [kd k,kd l])=fl at hfl
 have run:yf fl (beh (nm i) (KT.getD k [])) (beh (nm j) (KT.getD l []))=true:=by
  cases fl with
  | false=>exact aT ck fun h _=>h
  | true=>exact aT ck fun _ h=>orN h (hfl rfl)
 have Lt:aS (X.wth X.B (tdR i j k l)):=L.wth fun _ _ e=>e
 have k1:=fc hk
 have k2:=fc hl
 have E:dG (X.wth X.B (tdR i j k l)) (tq1 fl (aL [.tok 1,.tok 2]) (aL [.tok 3,.tok 4])):=pz hc rfl (Fv k1.1 k2.1) rfl (by show isD eqN [] (aL [kd k,kd l])=true;rw[mx,k1.2.1,k2.2.2];rfl) hf rfl
 have O:=ui (X:=X) L hc rfl (C2 hi hj hk hl) (uk hi hj)
 exact⟨_,pF hc rfl run fun v S1 e=>kT Lt E O 8 _ _ _ _ _ e,ym hfl⟩
theorem vC(L:aS X){i k l:Nat}(hi:i < 8)(hk:k < 29)(hl:l < 29):mu X [ak (nm i)] (aL [kd k,kd l]) .no:=by
 have hc:=pA (i1:=i) (i2:=0) hk hl
 have Lt:aS (X.wth X.B (tdR i 0 k l)):=L.wth fun _ _ e=>e
 have k1:=fc hk
 have k2:=fc hl
 have E:dG (X.wth X.B (tdR i 0 k l)) (tq1 false (aL [.tok 1]) (aL [.tok 3,.tok 4])):=pz hc rfl (Fv k1.1 k2.1) rfl (by show isD eqN [] (aL [kd k,kd l])=true;rw[mx,k1.2.1,k2.2.2];rfl)
  (by show eqA eqN [] (aL [ak (nm i)]) (aL [kd k,kd l])=false;show((eqA 34 [] (ak (nm i)) (kd k)&&false)&&true)=false;rw[Bool.and_false];rfl) rfl
 have O:=ui (X:=X) L hc rfl (bh:=fun _ _=>none) (pt:=pt1) (fun a b w e=>by cases e) (uk hi (show 0 < 8 by decide))
 exact pF hc rfl vy fun v S1 e=>kT Lt E O 8 _ _ _ _ _ e
theorem vD(L:aS X){i j k:Nat}(hi:i < 8)(hj:j < 8)(hk:k < 29):mu X [ak (nm i),ak (nm j)] (aL [kd k]) .no:=by
 have hc:=pA (i1:=i) (i2:=j) hk hk
 have Lt:aS (X.wth X.B (tdR i j k k)):=L.wth fun _ _ e=>e
 have k1:=fc hk
 have E:dG (X.wth X.B (tdR i j k k)) (tq1 false (aL [.tok 1,.tok 2]) (aL [.tok 3])):=pz hc rfl (Fu k1.1) rfl (by show isD eqN [] (aL [kd k])=true;rw[mw,k1.2.1];rfl)
  (by show eqA eqN [] (aL [ak (nm i),ak (nm j)]) (aL [kd k])=false;show((eqA 34 [] (ak (nm i)) (kd k)&&false)&&true)=false;rw[Bool.and_false];rfl) rfl
 have O:=ui (X:=X) L hc rfl (bh:=fun _ _=>none) (pt:=pt1) (fun a b w e=>by cases e) (uk hi hj)
 exact pF hc rfl vz fun v S1 e=>kT Lt E O 8 _ _ _ _ _ e
end Mine
end
section
open PySem PySem.W PySem.Calls PyProof.Rows
namespace Mine
noncomputable def IH(T:aa)(i j:Nat)(n:Int)(w:Out):Option (AV×aa):=Out.casesOn w (br (setAt T i (fuO n)) fun T'=>some (.none,T')) (br (setAt T i (fuO n)) fun T'=>some (.ref j,T'))
 (iT T.length fun L=>br (setAt T i (fuO n)++[sdO (L + 1),.dict []]) fun T'=>some (.ref L,T'))
noncomputable def ne4(i j r g:Nat):Bool:=ne3 i j r&&(!(Nat.beq i g)&&(!(Nat.beq j g)&&!(Nat.beq r g)))
noncomputable def toks(l:List AV):List Nat:=l.map tI
noncomputable def O2a(o0:AV)(wo:List Nat→Option (Out×Int))(args:List AV)(T:aa)(i g j r:Nat)(ts:List Nat):Option (AV×aa):=
 ay (wo ts) (fun w=>am (j6 60 args [.ref i,.ref g,.ref j]&&(atO T g (.list [.tup [.str 256,aL (ts.map .tok),o0]])&&(atO T i (fuO 4000)&&(atO T j (sdO r)&&(atO T r (.dict [])&&ne4 i j r g))))) (IH T i j w.2 w.1) none) none
noncomputable def O2(o0:AV)(cs:Nat→List Nat)(wo:List Nat→Option (Out×Int)):CF:=fun f args T=>
 am (Nat.beq f 32) (O2a o0 wo args T (rI (atV args 0)) (rI (atV args 1)) (rI (atV args 2)) (rI (fld T (rI (atV args 2)) 0)) (toks ((els (atV (els (atV (els (itm T (rI (atV args 1)) 0)) 1)) 1)).drop 1)))
 (am (Nat.beq f 27) (am (j6 60 args [.tok (tI (atV args 0))]) (List.casesOn (cs (tI (atV args 0))) none fun c r=>BG T [.list ((c::r).map .tok)]) none) none)
noncomputable def tq2(fl:Bool)(a0 b0:AV):AV→AV→Option Bool:=fun a b=>am (eqX 60 a a0&&eqX 60 b b0) (some fl) none
noncomputable def cs2(t1 t2:Bool)(a:Nat):List Nat:=am (Nat.beq a 1) (am t1 [4,5] [4]) (am (Nat.beq a 2) (am t2 [6,7] [6]) [])
noncomputable def okO(w:Out):Bool:=Out.casesOn w false true true
noncomputable def dw(f:Out→Bool):Bool:=f .no&&(f .same&&f .new)
theorem bp{f:Out→Bool}(h:dw f=true)(b:Out):f b=true:=aT h fun h1 h=>aT h fun h2 h3=>Out.casesOn (motive:=fun b=>f b=true) b h1 h2 h3
noncomputable def isB(b:Bool)(r:Option (AV×aa)):Bool:=rf r fun v _=>gN v (fun c=>c==b) false
noncomputable def wo1(w0 w1:Out)(n0 n1:Int)(l:List Nat):Option (Out×Int):=am (l==[4]) (some (w0,n0)) (am (l==[5]) (some (w1,n1)) none)
noncomputable def wo2(w0 w1 w2 w3:Out)(n0 n1 n2 n3:Int)(l:List Nat):Option (Out×Int):=am (l==[4,6]) (some (w0,n0)) (am (l==[4,7]) (some (w1,n1)) (am (l==[5,6]) (some (w2,n2)) (am (l==[5,7]) (some (w3,n3)) none)))
noncomputable def BN(fl t1:Bool)(w0 w1:Out)(n0 n1:Int):Option (AV×aa):=evO (PT (tq2 fl (aL [.tok 1]) (.tok 3))) 1000 (O2 (.tok 3) (cs2 t1 false) (wo1 w0 w1 n0 n1)) 5 48 [.tok 0,aL [.tok 1],.tok 3] []
noncomputable def vE(fl t1 t2:Bool)(w0 w1 w2 w3:Out)(n0 n1 n2 n3:Int):Option (AV×aa):=evO (PT (tq2 fl (aL [.tok 1,.tok 2]) (.tok 3))) 1000 (O2 (.tok 3) (cs2 t1 t2) (wo2 w0 w1 w2 w3 n0 n1 n2 n3)) 5 48 [.tok 0,aL [.tok 1,.tok 2],.tok 3] []
theorem BO(t1:Bool)(w0 w1:Out)(n0 n1:Int):isB true (BN true t1 w0 w1 n0 n1)=true:=by kernel_rfl
theorem BP(t1 t2:Bool)(w0 w1 w2 w3:Out)(n0 n1 n2 n3:Int):isB true (vE true t1 t2 w0 w1 w2 w3 n0 n1 n2 n3)=true:=by kernel_rfl
theorem Fw(w1:Out)(n0 n1:Int):dw (fun w0=>isB (okO w0) (BN false false w0 w1 n0 n1))=true:=by kernel_rfl
theorem Fx(n0 n1:Int):dw (fun w0=>dw fun w1=>isB (okO w0&&okO w1) (BN false true w0 w1 n0 n1))=true:=by kernel_rfl
theorem BQ(w1 w2 w3:Out)(n0 n1 n2 n3:Int):dw (fun w0=>isB (okO w0) (vE false false false w0 w1 w2 w3 n0 n1 n2 n3))=true:=by kernel_rfl
theorem BR(w2 w3:Out)(n0 n1 n2 n3:Int):dw (fun w0=>dw fun w1=>isB (okO w0&&okO w1) (vE false false true w0 w1 w2 w3 n0 n1 n2 n3))=true:=by kernel_rfl
theorem BS(w1 w3:Out)(n0 n1 n2 n3:Int):dw (fun w0=>dw fun w2=>isB (okO w0&&okO w2) (vE false true false w0 w1 w2 w3 n0 n1 n2 n3))=true:=by kernel_rfl
theorem BU(n0 n1 n2 n3:Int):dw (fun w0=>dw fun w1=>dw fun w2=>dw fun w3=>isB (okO w0&&(okO w1&&(okO w2&&okO w3))) (vE false true true w0 w1 w2 w3 n0 n1 n2 n3))=true:=by kernel_rfl
end Mine
end
section
open PySem PySem.W PySem.Calls PyProof.Rows
namespace Mine
variable {X:Cx} {td td':Nat→AV} {ad ad':List au} {h:Heap}
theorem pG(hX:∀i,noT (X.td i)=true)(hc:∀i,noT (td i)=true)(h0:td 0=KK){T T':aa}{i j r g:Nat}{cs:List AV}{o gt:AV}{n:Int}{v v0:AV}{S1:aa}
  (run:bo X 56 32 [.ref 0,.ref 3,.ref 1] (fV KK cs o) v0 S1)(s0:S1[0]?=some (.inst 2 [(173,KK),(139,.int n)]))(same:∀(i:Nat) (b:AO),((fV KK cs o).drop 1)[i]?=some b→S1[i + 1]?=some b)
  (hi:T[i]?=some (.inst 2 [(173,.tok 0),(139,.int 4000)]))(hj:T[j]?=some (.inst 1 [(231,.ref r),(186,.int 0)]))(hr:T[r]?=some (.dict []))(hg:T[g]?=some (.list [gt]))
  (hgt:det td gt=.tup [.str 256,aL cs,o])(hcl:noT (.tup [.str 256,aL cs,o])=true)(ne:i≠j∧i≠r∧j≠r∧i≠g∧j≠g∧r≠g)
  {σ:List Nat}(hσ:σ.Nodup)(hσ0:∀k∈σ,4≤k∧k < S1.length)(hT:T'.length=T.length + σ.length)(hTi:T'[i]?=some (.inst 2 [(173,.tok 0),(139,.int n)]))(hTo:∀x,x≠i→x < T.length→T'[x]?=T[x]?)
  (hN:∀(ad1 adB:List au) (h:Heap),(∀(k:Nat) (c:au) (o:AO),ad1[k]?=some c→S1[k]?=some o→OR X ad1 h c o)→(∀(k i':Nat) (c:au),[i,j,r,g][k]?=some i'→ad1[k]?=some c→adB[i']?=some c)→(∀(j k:Nat) (c:au),σ[j]?=some k→ad1[k]?=some c→adB[T.length + j]?=some c)→(∀i∈σ,i < ad1.length)→4≤ad1.length→
   (∀(j k:Nat) (c:au),σ[j]?=some k→ad1[k]?=some c→∃o,T'[T.length + j]?=some o∧OR (X.wth X.B td) adB h c o)∧∀x,VR X ad1 h v0 x→VR (X.wth X.B td) adB h v x):
  bo (X.wth X.B td) 56 32 [.ref i,.ref g,.ref j] T v T':=by
 have run':bo ((X.wth X.B td).wth (X.wth X.B td).B X.td) 56 32 [.ref 0,.ref 3,.ref 1] (fV KK cs o) v0 S1:=run
 have li:=ae hi
 have lj:=ae hj
 have lr:=ae hr
 have lg:=ae hg
 refine emb (ρ:=[i,j,r,g]) (σ:=σ) run' (nd4 ne.1 ne.2.1 ne.2.2.1 ne.2.2.2.1 ne.2.2.2.2.1 ne.2.2.2.2.2) (in4 li lj lr lg) rfl hσ hσ0 hT (fun x hx hl=>hTo x (fun z=>hx (z▸.head _)) hl) (fun ad h R xs ra=>⟨fun k c b e1 e2=>?_,?_⟩)
  fun ad ad1 adB h objs oldB newB inB leB=>⟨fun k x c e1 e2=>?_,(hN ad1 adB h objs oldB newB inB leB).1,(hN ad1 adB h objs oldB newB inB leB).2⟩
 ·exact IB (G:=fun k o=>(sel [i,j,r,g] ad)[k]?=some c→OR (X.wth X.B X.td) (sel [i,j,r,g] ad) h c o) e2
   (fun e=>OR.inst2 (td':=X.td) (fun x q=>pp hc hX h0 q) (fun x q=>mo rfl q) (R.onSel hi rfl e).2)
   (fun e=>OR.inst2 (td':=X.td) (fun x q=>q.onRef fun c g=>.ref (eC (k:=2) rfl g)) (fun x q=>mo rfl q) (R.onSel hj rfl e).2)
   (fun e=>OR.dict0 (td':=X.td) (R.onSel hr rfl e).2)
   (fun e=>OR.listc (td':=X.td) (Nat.le_of_ble_eq_true rfl) (fun xs q=>q.on1 fun y q1=>.cons (VR.cv (td':=X.td) hc hX (by rw[hgt];exact(hZ hcl).symm) (by rw[hgt];exact hcl) q1) .nil) (R.onSel hg rfl e).2) e1
 ·exact ra.on3 fun x y z r1 r2 r3=>.cons (r1.onRef fun c g=>.ref (eC (k:=0) rfl g)) (.cons (r2.onRef fun c g=>.ref (eC (k:=3) rfl g)) (.cons (r3.onRef fun c g=>.ref (eC (k:=1) rfl g)) .nil))
 ·exact IB (G:=fun k x=>ad1[k]?=some c→∃o,T'[x]?=some o∧OR (X.wth X.B td) adB h c o) e1
   (fun e=>⟨_,hTi,OR.inst2 (td:=X.td) (fun x q=>pr hX hc h0 q) (fun x q=>mo rfl q) (objs 0 c _ e s0)⟩)
   (fun e=>⟨_,(hTo _ ne.1.symm lj).trans hj,OR.inst2 (td:=X.td) (fun x q=>q.onRef fun c g=>.ref (oldB 2 _ _ rfl g)) (fun x q=>mo rfl q) (objs 1 c _ e (same 0 _ rfl))⟩)
   (fun e=>⟨_,(hTo _ ne.2.1.symm lr).trans hr,OR.dict0 (td:=X.td) (objs 2 c _ e (same 1 _ rfl))⟩)
   (fun e=>⟨_,(hTo _ ne.2.2.2.1.symm lg).trans hg,OR.listc (td:=X.td) (Nat.le_of_ble_eq_true rfl) (fun xs q=>q.on1 fun y q1=>.cons (VR.cv (td:=X.td) hX hc (by rw[hgt];exact hZ hcl) (by rw[hZ hcl];exact hcl) q1) .nil) (objs 3 c _ e (same 2 _ rfl))⟩) e2
noncomputable def rm(X:Cx)(cs:List AV)(o:AV)(w:Out)(n:Int):Prop:=∃v S1,bo X 56 32 [.ref 0,.ref 3,.ref 1] (fV KK cs o) v S1∧S1[0]?=some (.inst 2 [(173,KK),(139,.int n)])∧(∀(i:Nat) (b:AO),((fV KK cs o).drop 1)[i]?=some b→S1[i + 1]?=some b)∧C3 v S1 w
theorem mu.fuel{cs:List AV}{o:AV}{w:Out}(r:mu X cs o w):∃n,rm X cs o w n:=let⟨v,S1,n,q⟩:=r;⟨n,v,S1,q⟩
theorem yn(hX:∀i,noT (X.td i)=true)(hc:∀i,noT (td i)=true)(h0:td 0=KK){T:aa}{i j r g:Nat}{cs:List AV}{o gt:AV}{w:Out}{n:Int}(run:rm X cs o w n)
  (hi:T[i]?=some (.inst 2 [(173,.tok 0),(139,.int 4000)]))(hj:T[j]?=some (.inst 1 [(231,.ref r),(186,.int 0)]))(hr:T[r]?=some (.dict []))(hg:T[g]?=some (.list [gt]))
  (hgt:det td gt=.tup [.str 256,aL cs,o])(hcl:noT (.tup [.str 256,aL cs,o])=true)(ne:i≠j∧i≠r∧j≠r∧i≠g∧j≠g∧r≠g){v:AV}{T':aa}(e:IH T i j n w=some (v,T')):bo (X.wth X.B td) 56 32 [.ref i,.ref g,.ref j] T v T':=by
 obtain⟨v0,S1,run,s0,same,hw⟩:=run
 have li:=ae hi
 have lj:=ae hj
 have sl:=eg T i (fuO n)
 have oth:∀x,x≠i→x < T.length→(setAt T i (fuO n))[x]?=T[x]?:=fun x hx _=>g9 _ _ _ _ hx.symm
 cases w with
 | no=>
  have hw:v0=.none:=hw
  subst hw
  have e:some (AV.none,setAt T i (fuO n))=some (v,T'):=(aB _ _).symm.trans e
  refine dP (G:=fun v T'=>bo (X.wth X.B td) 56 32 _ T v T') e ?_
  exact pG hX hc h0 run s0 same hi hj hr hg hgt hcl ne (σ:=[]) List.nodup_nil noM sl (eJ _ _ _ li) oth fun ad1 adB h objs oldB newB inB leB=>⟨fun j k c e=>noI e,fun x q=>q.onNone .none⟩
 | same=>
  have hw:v0=.ref 1:=hw
  subst hw
  have e:some (AV.ref j,setAt T i (fuO n))=some (v,T'):=(aB _ _).symm.trans e
  refine dP (G:=fun v T'=>bo (X.wth X.B td) 56 32 _ T v T') e ?_
  exact pG hX hc h0 run s0 same hi hj hr hg hgt hcl ne (σ:=[]) List.nodup_nil noM sl (eJ _ _ _ li) oth fun ad1 adB h objs oldB newB inB leB=>⟨fun j k c e=>noI e,fun x q=>q.onRef fun c g=>.ref (oldB 1 _ _ rfl g)⟩
 | new=>
  have e:some (AV.ref T.length,setAt T i (fuO n)++[sdO (T.length + 1),.dict []])=some (v,T'):=by
   rw[←e];show _=iT T.length fun L=>br (setAt T i (fuO n)++[sdO (L + 1),.dict []]) fun T'=>some (AV.ref L,T');rw[uC,aB]
  refine dP (G:=fun v T'=>bo (X.wth X.B td) 56 32 _ T v T') e ?_
  obtain⟨q,d,rfl,hq,hd,nd,e1,e2⟩:=hw
  exact pG hX hc h0 run s0 same hi hj hr hg hgt hcl ne (σ:=[q,d]) (nd2 nd.symm) (in2 ⟨hq,ae e1⟩ ⟨hd,ae e2⟩) (by rw[List.length_append,sl];rfl) ((List.getElem?_append_left (by rw[sl];exact li)).trans (eJ _ _ _ li)) (fun x hx hl=>(List.getElem?_append_left (by rw[sl];exact hl)).trans (oth x hx hl))
   fun ad1 adB h objs oldB newB inB leB=>⟨fun j k c g1 g2=>BE (G:=fun j k=>ad1[k]?=some c→∃o,(setAt T i (fuO n)++[sdO (T.length + 1),.dict []])[T.length + j]?=some o∧OR (X.wth X.B td) adB h c o) g1
    (fun g2=>⟨sdO (T.length + 1),by rw[←sl,List.getElem?_append_right (Nat.le_add_right _ _),Nat.add_sub_cancel_left];rfl,OR.inst2 (td:=X.td) (fun x q=>q.onRef fun c g=>.ref (newB 1 _ _ rfl g)) (fun x q=>mo rfl q) (objs _ c _ g2 e1)⟩)
    (fun g2=>⟨.dict [],by rw[←sl,List.getElem?_append_right (Nat.le_add_right _ _),Nat.add_sub_cancel_left];rfl,OR.dict0 (td:=X.td) (objs _ c _ g2 e2)⟩) g2,fun x q=>q.onRef fun c g=>.ref (newB 0 _ _ rfl g)⟩
end Mine
end
section
open PySem PySem.W PySem.Calls PyProof.Rows
namespace Mine
variable {X:Cx} {td td':Nat→AV} {ad ad':List au} {h:Heap}
theorem j9:∀l:List Nat,dJ td (l.map .tok)=l.map td
 | []=>rfl
 | a::r=>by show td a::dJ td (r.map .tok)=_;rw[j9 r];rfl
noncomputable def Fy(td:Nat→AV)(a:Nat)(l:List Nat):Prop:=∃k,k < 29∧td a=kd k∧l.map td=(KT.getD k []).map ak∧l.length≤10∧c7 (l.map td)=true
theorem sZ(L:aS X)(hX:∀i,noT (X.td i)=true)(hc:∀i,noT (td i)=true){T:aa}{a k:Nat}{l:List Nat}(hk:k < 29)(ha:td a=kd k)(hl:l.map td=(KT.getD k []).map ak)(hlen:l.length≤10)(hcl:c7 (l.map td)=true):
  bo (X.wth X.B td) 40 27 [.tok a] T (.ref T.length) (T++[.list (l.map .tok)]):=by
 refine jb (aP vw hk) fun v S1 ev ck=>aT ck fun hv ck=>?_
 rw[sS hv] at ev
 have e1:=hY ck
 generalize rI v=r at ev e1
 have run:bo ((X.wth X.B td).wth (X.wth X.B td).B X.td) 40 27 [kd k] [] (.ref r) S1:=xU L 20 _ _ _ _ _ ev
 have n1:c7 ((KT.getD k []).map ak)=true:=hl▸hcl
 exact emb (ρ:=[]) (σ:=[r]) run List.nodup_nil noM rfl nd1 (in1 ⟨Nat.zero_le _,ae e1⟩) (by rw[List.length_append];rfl) (fun x _ hx=>List.getElem?_append_left hx) (fun ad h R xs ra=>⟨fun k c o e _=>noI e,ra.on1 fun x r1=>.cons (pp (td':=X.td) hc hX ha r1) .nil⟩)
  fun ad ad1 adB h objs oldB newB inB leB=>⟨fun k i c e=>noI e,fun j k' c g1 g2=>sW (G:=fun j k'=>ad1[k']?=some c→∃o,(T++[.list (l.map .tok)])[T.length + j]?=some o∧OR (X.wth X.B td) adB h c o) g1
   (fun g2=>⟨_,by rw[List.getElem?_append_right (Nat.le_add_right _ _),Nat.add_sub_cancel_left];rfl,OR.listc (td:=X.td) (by rw[List.length_map];exact Nat.le_trans hlen (Nat.le_of_ble_eq_true rfl)) (fun xs q=>VRs.cv (td:=X.td) hX hc (by rw[jE n1,j9,hl]) (by rw[jE n1];exact n1) q) (objs _ c _ g2 e1)⟩) g2,
   fun x q=>q.onRef fun c g=>.ref (newB 0 _ _ rfl g)⟩
theorem Fz{i j r g:Nat}(q:ne4 i j r g=true):i≠j∧i≠r∧j≠r∧i≠g∧j≠g∧r≠g:=
 aT q fun a q=>aT q fun b q=>aT q fun c d=>⟨(px a).1,(px a).2.1,(px a).2.2,nbq b,nbq c,nbq d⟩
noncomputable def II(X:Cx)(td:Nat→AV)(o:AV)(wo:List Nat→Option (Out×Int)):Prop:=∀ts w n,wo ts=some (w,n)→rm X (ts.map td) o w n∧c7 (ts.map td)=true
theorem FA{o0:AV}(hX:∀i,noT (X.td i)=true)(hc:∀i,noT (td i)=true)(h0:td 0=KK){wo:List Nat→Option (Out×Int)}(Hw:II X td (det td o0) wo)(ho:noT (det td o0)=true)
  {args:List AV}{T:aa}{i g j r:Nat}{ts:List Nat}{v:AV}{T':aa}(e:O2a o0 wo args T i g j r ts=some (v,T')):bo (X.wth X.B td) 56 32 args T v T':=
 ah e nN fun w hw e=>aC e nN fun q e=>aT q fun q1 q=>aT q fun hg q=>aT q fun hi q=>aT q fun hj q=>aT q fun hr q=>by
  rw[(bE 60).2.1 _ _ q1]
  have H:=Hw ts w.1 w.2 hw
  exact yn hX hc h0 H.1 (d6 hi) (d6 hj) (d6 hr) (d6 hg) (by show AV.tup [.str 256,aL (dJ td (ts.map .tok)),det td o0]=_;rw[j9])
   (by show(true&&(noT (aL (ts.map td))&&(noT (det td o0)&&true)))=true;rw[ul,H.2,ho];rfl) (Fz q) e
theorem um{o0:AV}(L:aS X)(hX:∀i,noT (X.td i)=true)(hc:∀i,noT (td i)=true)(h0:td 0=KK){cs:Nat→List Nat}{wo:List Nat→Option (Out×Int)}
  (Hc:∀a,cs a≠[]→Fy td a (cs a))(Hw:II X td (det td o0) wo)(ho:noT (det td o0)=true):Snd (X.wth X.B td) 56 (O2 o0 cs wo):=by
 intro f args T v T' e
 refine aE e (fun hf e=>?_) fun _ e=>aC e nN fun hf e=>aC e nN fun qa e=>?_
 ·rw[d5 hf];exact FA hX hc h0 Hw ho e
 ·rw[d5 hf,(bE 60).2.1 _ _ qa]
  generalize tI (atV args 0)=a at e
  have H:=Hc a
  generalize cs a=l at e H
  cases l with
  | nil=>exact nomatch e
  | cons c r=>
   obtain⟨k,hk,ha,hl,hlen,hcl⟩:=H nofun
   exact dP (G:=fun v T'=>bo (X.wth X.B td) 56 27 _ T v T') (uh.symm.trans e) ((sZ L hX hc hk ha hl hlen hcl).up (Nat.le_of_ble_eq_true rfl))
theorem s6(hc:∀i,noT (td i)=true){fl:Bool}{a0 b0:AV}(na:noT (det td a0)=true)(nb:noT (det td b0)=true)(da:isD eqN [] (det td a0)=true)(db:isD eqN [] (det td b0)=true)(hfl:eqA eqN [] (det td a0) (det td b0)=fl):
  dG (X.wth X.B td) (tq2 fl a0 b0):=by
 intro a b r e ad h S x y R ra rb
 refine aC e nN fun q e=>aT q fun qa qb=>?_
 rw[(bE 60).1 _ _ qa] at ra
 rw[(bE 60).1 _ _ qb] at rb
 exact⟨_,_,⟨((mr eqN).1 _ na).trans da,((mr eqN).1 _ nb).trans db⟩,ra.up hc na,rb.up hc nb,((sX eqN).1 _ _ na nb).trans (hfl.trans (Option.some.inj e))⟩
end Mine
end
section
open PySem PySem.W PySem.Calls PyProof.Rows
namespace Mine
variable {X:Cx}
noncomputable def yo(l:List Nat)(m:Nat):Bool:=List.casesOn l false fun u r=>List.casesOn r (eD u m) fun v r=>List.casesOn r (eD u m&&eD v m) fun _ _=>false
noncomputable def dy(k m:Nat):Bool:=yo (KT.getD k []) m
noncomputable def aH(ks ms:List Nat):Bool:=List.casesOn ks false fun k r=>List.casesOn ms false fun m t=>List.casesOn r (List.casesOn t (dy k m) fun _ _=>false) fun l r=>List.casesOn t false fun p t=>List.casesOn r (List.casesOn t (dy k m&&dy l p) fun _ _=>false) fun _ _=>false
noncomputable def aD(ks:List Nat):AV:=aL (ks.map kd)
noncomputable def aZ(ks:List Nat):Prop:=(∃k,ks=[k]∧k < 29)∨∃k l,ks=[k,l]∧k < 29∧l < 29
theorem cu{ks:List Nat}(h:aZ ks):noT (aD ks)=true∧isD eqN [] (aD ks)=true:=by
 rcases h with⟨k,rfl,hk⟩ | ⟨k,l,rfl,hk,hl⟩
 ·have k1:=fc hk
  exact⟨Fu k1.1,by show isD eqN [] (aL [kd k])=true;rw[mw,k1.2.1];rfl⟩
 ·have k1:=fc hk
  have k2:=fc hl
  exact⟨Fv k1.1 k2.1,by show isD eqN [] (aL [kd k,kd l])=true;rw[mx,k1.2.1,k2.2.2];rfl⟩
theorem yp{w:Out}{b:Bool}(h:w=.no↔b=false):okO w=b:=by
 cases b with
 | false=>rw[h.mpr rfl];rfl
 | true=>cases w with
  | no=>exact nomatch h.mp rfl
  | same=>rfl
  | new=>rfl
noncomputable def uo(u:Nat)(l:List Nat):Bool:=List.casesOn l false fun m r=>List.casesOn r (eD u m) fun _ _=>false
noncomputable def IJ(u v:Nat)(l:List Nat):Bool:=List.casesOn l false fun m r=>List.casesOn r false fun p r=>List.casesOn r (eD u m&&eD v p) fun _ _=>false
theorem yq(L:aS X){u:Nat}{ms:List Nat}(hu:ix u < 8∧nm (ix u)=u)(hm:aZ ms):∃w n,rm X [ak u] (aD ms) w n∧okO w=uo u ms:=by
 rcases hm with⟨m,rfl,h⟩ | ⟨m,p,rfl,h,h'⟩
 ·obtain⟨w,r,e⟩:=BL L hu.1 h
  obtain⟨n,r⟩:=r.fuel
  rw[hu.2] at r e
  exact⟨w,n,r,yp e⟩
 ·obtain⟨n,r⟩:=(vC L hu.1 h h').fuel
  rw[hu.2] at r
  exact⟨.no,n,r,rfl⟩
theorem rn(L:aS X){u v:Nat}{ms:List Nat}(hu:ix u < 8∧nm (ix u)=u)(hv:ix v < 8∧nm (ix v)=v)(hm:aZ ms):∃w n,rm X [ak u,ak v] (aD ms) w n∧okO w=IJ u v ms:=by
 rcases hm with⟨m,rfl,h⟩ | ⟨m,p,rfl,h,h'⟩
 ·obtain⟨n,r⟩:=(vD L hu.1 hv.1 h).fuel
  rw[hu.2,hv.2] at r
  exact⟨.no,n,r,rfl⟩
 ·obtain⟨w,r,e⟩:=BM L hu.1 hv.1 h h'
  obtain⟨n,r⟩:=r.fuel
  rw[hu.2,hv.2] at r e
  exact⟨w,n,r,yp e⟩
noncomputable def two(k:Nat):Bool:=List.casesOn (KT.getD k []) false fun _ r=>List.casesOn r false fun _ _=>true
noncomputable def qk(k:Nat):Nat:=List.casesOn (KT.getD k []) 0 fun u r=>List.casesOn r u fun v _=>v
theorem pH{k:Nat}{G:Prop}(hk:k < 29)(K1:∀u,KT.getD k []=[u]→pC u→two k=false→pk k 0=u→qk k=u→G)(K2:∀u v,KT.getD k []=[u,v]→pC u→pC v→two k=true→pk k 0=u→qk k=v→G):G:=
 (uj hk).elim (fun⟨u,e,h⟩=>K1 u e h (by unfold two;rw[e]) (by unfold pk;rw[e];rfl) (by unfold qk;rw[e])) fun⟨u,v,e,h,h'⟩=>K2 u v e h h' (by unfold two;rw[e]) (by unfold pk;rw[e];rfl) (by unfold qk;rw[e])
noncomputable def tdS(k l:Nat)(o:AV):Nat→AV
 | 0=>KK
 | 1=>kd k
 | 2=>kd l
 | 3=>o
 | 4=>ak (pk k 0)
 | 5=>ak (qk k)
 | 6=>ak (pk l 0)
 | 7=>ak (qk l)
 | _=>.none
theorem pI{k l:Nat}{o:AV}(hk:k < 29)(hl:l < 29)(ho:noT o=true):∀i,noT (tdS k l o i)=true
 | 0=>n7
 | 1=>(fc hk).1
 | 2=>(fc hl).1
 | 3=>ho
 | 4=>rfl
 | 5=>rfl
 | 6=>rfl
 | 7=>rfl
 | n + 8=>rfl
theorem yr{td:Nat→AV}{k a b c:Nat}(hk:k < 29)(ha:td a=kd k)(hb:td b=ak (pk k 0))(hc:td c=ak (qk k)):Fy td a (am (two k) [b,c] [b]):=
 pH hk (fun u e _ t p _=>by rw[t];exact⟨k,hk,ha,by rw[e];show [td b]=[ak u];rw[hb,p],Nat.le_of_ble_eq_true rfl,by show c7 [td b]=true;rw[hb];rfl⟩)
  fun u v e _ _ t p q=>by rw[t];exact⟨k,hk,ha,by rw[e];show [td b,td c]=[ak u,ak v];rw[hb,hc,p,q],Nat.le_of_ble_eq_true rfl,by show c7 [td b,td c]=true;rw[hb,hc];rfl⟩
theorem C4{k l:Nat}{o:AV}(hk:k < 29)(hl:l < 29)(a:Nat)(h:cs2 (two k) (two l) a≠[]):Fy (tdS k l o) a (cs2 (two k) (two l) a):=by
 generalize e:cs2 (two k) (two l) a=r at h
 refine aE e (fun q e=>?_) fun _ e=>aE e (fun q e=>?_) fun _ e=>absurd e.symm h
 ·rw[←e,d5 q];exact yr hk rfl rfl rfl
 ·rw[←e,d5 q];exact yr hl rfl rfl rfl
theorem pJ{b:Bool}{r:Option (AV×aa)}(h:isB b r=true):∃S1,r=some (.bool b,S1):=jb h fun v S1 e q=>jl q nF fun c z q=>⟨S1,by rw[e,z,eq_of_beq q]⟩
theorem BV:bD 29 (fun k=>bD 29 fun m=>(!(eqA 34 [] (kd k) (kd m))||dy k m)&&(!(eqA 33 [] (kd k) (kd m))||dy k m))=true:=by kernel_rfl
theorem pK{k m:Nat}(hk:k < 29)(hm:m < 29):(eqA 34 [] (kd k) (kd m)=true→dy k m=true)∧(eqA 33 [] (kd k) (kd m)=true→dy k m=true):=by
 have:=aP (aP BV hk) hm
 exact aT this fun h1 h2=>⟨orN h1,orN h2⟩
theorem yt{ks ms:List Nat}{G:Prop}(hk:aZ ks)(hm:aZ ms)(e:eqA eqN [] (aD ks) (aD ms)=true)(K1:∀k m,ks=[k]→ms=[m]→k < 29→m < 29→eqA 34 [] (kd k) (kd m)=true→G)
  (K2:∀k l m p,ks=[k,l]→ms=[m,p]→k < 29→l < 29→m < 29→p < 29→eqA 34 [] (kd k) (kd m)=true→eqA 33 [] (kd l) (kd p)=true→G):G:=by
 rcases hk with⟨k,rfl,hk⟩ | ⟨k,l,rfl,hk,hl⟩<;>rcases hm with⟨m,rfl,hm⟩ | ⟨m,p,rfl,hm,hp⟩
 ·have e:((eqA 34 [] (kd k) (kd m)&&true)&&true)=true:=e
  exact aT e fun e _=>aT e fun e _=>K1 _ _ rfl rfl hk hm e
 ·have e:((eqA 34 [] (kd k) (kd m)&&false)&&true)=true:=e
  exact aT e fun e _=>aT e fun _ e=>nomatch e
 ·have e:((eqA 34 [] (kd k) (kd m)&&false)&&true)=true:=e
  exact aT e fun e _=>aT e fun _ e=>nomatch e
 ·have e:((eqA 34 [] (kd k) (kd m)&&(eqA 33 [] (kd l) (kd p)&&true))&&true)=true:=e
  exact aT e fun e _=>aT e fun e1 e=>aT e fun e2 _=>K2 _ _ _ _ rfl rfl hk hl hm hp e1 e2
theorem jc{ks ms:List Nat}(hk:aZ ks)(hm:aZ ms)(e:eqA eqN [] (aD ks) (aD ms)=true):aH ks ms=true:=
 yt hk hm e (fun k m e1 e2 hk hm q=>by rw[e1,e2];exact(pK hk hm).1 q) fun k l m p e1 e2 hk hl hm hp q1 q2=>by
  rw[e1,e2];show(dy k m&&dy l p)=true
  rw[(pK hk hm).1 q1,(pK hl hp).2 q2];rfl
theorem jF{k m:Nat}(hk:k < 29):dy k m=am (two k) (eD (pk k 0) m&&eD (qk k) m) (eD (pk k 0) m):=
 pH hk (fun u e _ t p _=>by rw[t,p];exact congrArg (fun l=>yo l m) e) fun u v e _ _ t p q=>by rw[t,p,q];exact congrArg (fun l=>yo l m) e
theorem ke{k:Nat}(hk:k < 29):pC (pk k 0)∧pC (qk k):=
 pH hk (fun u _ h _ p q=>by rw[p,q];exact⟨h,h⟩) fun u v _ h h' _ p q=>by rw[p,q];exact⟨h,h'⟩
theorem kJ{td:Nat→AV}{o:AV}{l ts:List Nat}{w0 w:Out}{n0 n:Int}(r:rm X (l.map td) o w0 n0)(c:c7 (l.map td)=true)(q:(ts==l)=true)(e:some (w0,n0)=some (w,n)):rm X (ts.map td) o w n∧c7 (ts.map td)=true:=by
 rw[eq_of_beq q];exact dP (G:=fun w n=>rm X (l.map td) o w n∧c7 (l.map td)=true) e ⟨r,c⟩
theorem BW(L:aS X)(hX:∀i,noT (X.td i)=true){k:Nat}{ms:List Nat}(hk:k < 29)(hm:aZ ms):∃S1,bo X 66 48 [KK,aD [k],aD ms] [] (.bool (aH [k] ms)) S1:=by
 have ms1:=cu hm
 have ks1:=cu (ks:=[k]) (.inl ⟨k,rfl,hk⟩)
 have hc:=pI (k:=k) (l:=0) (o:=aD ms) hk (by decide) ms1.1
 have Lt:aS (X.wth X.B (tdS k 0 (aD ms))):=L.wth fun _ _ e=>e
 have hfl:=jc (ks:=[k]) (.inl ⟨k,rfl,hk⟩) hm
 generalize hf:eqA eqN [] (aD [k]) (aD ms)=fl at hfl
 have E:dG (X.wth X.B (tdS k 0 (aD ms))) (tq2 fl (aL [.tok 1]) (.tok 3)):=s6 hc ks1.1 ms1.1 ks1.2 ms1.2 hf
 obtain⟨h4,h5⟩:=ke hk
 have hs:aH [k] ms=am (two k) (uo (pk k 0) ms&&uo (qk k) ms) (uo (pk k 0) ms):=by
  rcases hm with⟨m,rfl,_⟩ | ⟨m,p,rfl,_⟩
  ·exact jF hk
  ·cases two k<;>rfl
 obtain⟨w0,n0,r0,o0⟩:=yq L h4 hm
 obtain⟨w1,n1,r1,o1⟩:=yq L h5 hm
 have O:=um (o0:=.tok 3) (X:=X) (td:=tdS k 0 (aD ms)) L hX hc rfl (cs:=cs2 (two k) (two 0)) (wo:=wo1 w0 w1 n0 n1) (C4 hk (by decide)) (fun ts w n e=>aE e (kJ r0 rfl) fun _ e=>aC e nN (kJ r1 rfl)) ms1.1
 have two0:two 0=false:=by kernel_rfl
 have key:isB (aH [k] ms) (BN fl (two k) w0 w1 n0 n1)=true:=by
  cases fl with
  | true=>rw[hfl rfl];exact BO _ _ _ _ _
  | false=>
   rw[hs]
   cases t:two k with
   | false=>rw[←o0];exact bp (Fw w1 n0 n1) w0
   | true=>rw[←o0,←o1];exact bp (bp (Fx n0 n1) w0) w1
 obtain⟨S1,e⟩:=pJ key
 have run:=kT (wf:=1000) Lt E O 5 48 [.tok 0,aL [.tok 1],.tok 3] [] (.bool (aH [k] ms)) S1 (by rw[two0];exact e)
 exact⟨_,dL hc run⟩
end Mine
end
section
open PySem PySem.W PySem.Calls PyProof.Rows
namespace Mine
variable {X:Cx}
noncomputable def kU(f:Bool→Bool):Bool:=f true&&f false
theorem dA{f:Bool→Bool}(h:kU f=true)(b:Bool):f b=true:=aT h fun h1 h2=>Bool.casesOn (motive:=fun b=>f b=true) b h2 h1
theorem yu:kU (fun s=>kU fun t=>kU fun a=>kU fun b=>kU fun c=>kU fun d=>(am s (a&&b) a&&am t (c&&d) c)==am s (am t ((a&&c)&&((a&&d)&&((b&&c)&&(b&&d)))) ((a&&c)&&(b&&c))) (am t ((a&&c)&&(a&&d)) (a&&c)))=true:=by kernel_rfl
theorem BX(L:aS X)(hX:∀i,noT (X.td i)=true){k l:Nat}{ms:List Nat}(hk:k < 29)(hl:l < 29)(hm:aZ ms):∃S1,bo X 66 48 [KK,aD [k,l],aD ms] [] (.bool (aH [k,l] ms)) S1:=by
 have ms1:=cu hm
 have okk:aZ [k,l]:=.inr ⟨k,l,rfl,hk,hl⟩
 have ks1:=cu okk
 have hc:=pI (k:=k) (l:=l) (o:=aD ms) hk hl ms1.1
 have Lt:aS (X.wth X.B (tdS k l (aD ms))):=L.wth fun _ _ e=>e
 have hfl:=jc okk hm
 generalize hf:eqA eqN [] (aD [k,l]) (aD ms)=fl at hfl
 have E:dG (X.wth X.B (tdS k l (aD ms))) (tq2 fl (aL [.tok 1,.tok 2]) (.tok 3)):=s6 hc ks1.1 ms1.1 ks1.2 ms1.2 hf
 obtain⟨h4,h5⟩:=ke hk
 obtain⟨h6,h7⟩:=ke hl
 obtain⟨w0,n0,r0,o0⟩:=rn L h4 h6 hm
 obtain⟨w1,n1,r1,o1⟩:=rn L h4 h7 hm
 obtain⟨w2,n2,r2,o2⟩:=rn L h5 h6 hm
 obtain⟨w3,n3,r3,o3⟩:=rn L h5 h7 hm
 have O:=um (o0:=.tok 3) (X:=X) (td:=tdS k l (aD ms)) L hX hc rfl (cs:=cs2 (two k) (two l)) (wo:=wo2 w0 w1 w2 w3 n0 n1 n2 n3) (C4 hk hl)
  (fun ts w n e=>aE e (kJ r0 rfl) fun _ e=>aE e (kJ r1 rfl) fun _ e=>aE e (kJ r2 rfl) fun _ e=>aC e nN (kJ r3 rfl)) ms1.1
 have hs:aH [k,l] ms=am (two k) (am (two l) (okO w0&&(okO w1&&(okO w2&&okO w3))) (okO w0&&okO w2)) (am (two l) (okO w0&&okO w1) (okO w0)):=by
  rw[o0,o1,o2,o3]
  rcases hm with⟨m,rfl,_⟩ | ⟨m,p,rfl,_⟩
  ·cases two k<;>cases two l<;>rfl
  ·exact(congr (congrArg and (jF hk)) (jF hl)).trans (eq_of_beq (dA (dA (dA (dA (dA (dA yu (two k)) (two l)) (eD (pk k 0) m)) (eD (qk k) m)) (eD (pk l 0) p)) (eD (qk l) p)))
 have key:isB (aH [k,l] ms) (vE fl (two k) (two l) w0 w1 w2 w3 n0 n1 n2 n3)=true:=by
  cases fl with
  | true=>rw[hfl rfl];exact BP _ _ _ _ _ _ _ _ _ _
  | false=>
   rw[hs]
   cases two k with
   | false=>cases two l with
    | false=>exact bp (BQ w1 w2 w3 n0 n1 n2 n3) w0
    | true=>exact bp (bp (BR w2 w3 n0 n1 n2 n3) w0) w1
   | true=>cases two l with
    | false=>exact bp (bp (BS w1 w3 n0 n1 n2 n3) w0) w2
    | true=>exact bp (bp (bp (bp (BU n0 n1 n2 n3) w0) w1) w2) w3
 obtain⟨S1,e⟩:=pJ key
 exact⟨_,dL hc (kT (wf:=1000) Lt E O 5 48 [.tok 0,aL [.tok 1,.tok 2],.tok 3] [] (.bool (aH [k,l] ms)) S1 e)⟩
theorem yv(L:aS X)(hX:∀i,noT (X.td i)=true){ks ms:List Nat}(hk:aZ ks)(hm:aZ ms):∃S1,bo X 66 48 [KK,aD ks,aD ms] [] (.bool (aH ks ms)) S1:=by
 rcases hk with⟨k,rfl,hk⟩ | ⟨k,l,rfl,hk,hl⟩
 ·exact BW L hX hk hm
 ·exact BX L hX hk hl hm
end Mine
end
section
open PySem PySem.W PySem.Calls PyProof.Rows
namespace Mine
variable {X:Cx}
noncomputable def iJ(a:Nat):AV:=.tup [.str 269,.tok a,.none]
noncomputable def O4(b1 b2:Bool):CF:=fun f args T=>am (Nat.beq f 48) (am (j6 60 args [.tok 0,iJ 1,iJ 2]) (some (.bool b1,T)) (am (j6 60 args [.tok 0,iJ 2,iJ 1]) (some (.bool b2,T)) none)) none
noncomputable def skB(fl b1 b2:Bool):Bool:=isB (fl||(b1&&b2)) (evO (PT (tq2 fl (iJ 1) (iJ 2))) 1000 (O4 b1 b2) 4 49 [.tok 0,iJ 1,iJ 2] [])
noncomputable def msB(b1 b2:Bool):Bool:=isB (b1&&!b2) (evO (PT fun _ _=>none) 1000 (O4 b1 b2) 4 53 [.tok 0,iJ 1,iJ 2] [])
noncomputable def mtB(ok:Bool)(r:Option (AV×aa)):Bool:=rf r fun v S1=>am ok (rIs v&&atO S1 (rI v) (.dict [])) (iN v true false)
theorem FB:kU (fun fl=>kU fun b1=>kU fun b2=>skB fl b1 b2)=true:=by kernel_rfl
theorem FC:kU (fun b1=>kU fun b2=>msB b1 b2)=true:=by kernel_rfl
noncomputable def wm(w:Out)(n:Int)(ts l:List Nat):Option (Out×Int):=am (l==ts) (some (w,n)) none
noncomputable def mt(ts:List Nat)(w:Out)(n:Int):Option (AV×aa):=evO (PT fun _ _=>none) 1000 (O2 (iJ 3) (fun _=>[]) (wm w n ts)) 5 50 [.tok 0,aL (ts.map .tok),iJ 3] []
theorem yw(n:Int):dw (fun w=>mtB (okO w) (mt [4] w n)&&mtB (okO w) (mt [4,6] w n))=true:=by kernel_rfl
theorem BY:bD 29 (fun k=>bD 29 fun m=>(!(eqA 34 [] (kd k) (kd m))||Nat.beq k m)&&(!(eqA 33 [] (kd k) (kd m))||Nat.beq k m))=true:=by kernel_rfl
theorem eqI{k m:Nat}(hk:k < 29)(hm:m < 29):(eqA 34 [] (kd k) (kd m)=true→k=m)∧(eqA 33 [] (kd k) (kd m)=true→k=m):=
 aT (aP (aP BY hk) hm) fun h1 h2=>⟨fun e=>d5 (orN h1 e),fun e=>d5 (orN h2 e)⟩
theorem BZ{ks ms:List Nat}(hk:aZ ks)(hm:aZ ms)(e:eqA eqN [] (aD ks) (aD ms)=true):ks=ms:=
 yt hk hm e (fun k m e1 e2 hk hm q=>by rw[e1,e2,(eqI hk hm).1 q]) fun k l m p e1 e2 hk hl hm hp q1 q2=>by rw[e1,e2,(eqI hk hm).1 q1,(eqI hl hp).2 q2]
theorem pM{ks:List Nat}(hk:aZ ks):noT (.tup (fnV::ks.map kd))=true:=aT ((ul _).symm.trans (cu hk).1) fun h _=>h
noncomputable def td3(ks ms:List Nat):Nat→AV
 | 0=>KK
 | 1=>.tup (fnV::ks.map kd)
 | 2=>.tup (fnV::ms.map kd)
 | _=>.none
theorem s7{ks ms:List Nat}(hk:aZ ks)(hm:aZ ms):∀i,noT (td3 ks ms i)=true
 | 0=>n7
 | 1=>pM hk
 | 2=>pM hm
 | n + 3=>rfl
theorem FD{a b c:AV}(h1:noT a=true)(h2:noT b=true)(h3:noT c=true):c7 [a,b,c]=true:=by show(noT a&&(noT b&&(noT c&&true)))=true;rw[h1,h2,h3];rfl
theorem C5(L:aS X)(hX:∀i,noT (X.td i)=true){ks ms:List Nat}(hk:aZ ks)(hm:aZ ms):Snd (X.wth X.B (td3 ks ms)) 66 (O4 (aH ks ms) (aH ms ks)):=by
 have hc:=s7 hk hm
 intro f args T v T' e
 refine aC e nN fun hf e=>aE e (fun q e=>?_) fun _ e=>aC e nN fun q e=>?_
 ·rw[d5 hf,(bE 60).2.1 _ _ q]
  obtain⟨S1,run⟩:=yv L hX hk hm
  exact dP (G:=fun v T'=>bo (X.wth X.B (td3 ks ms)) 66 48 _ T v T') e (BH hc run rfl (FD n7 (cu hk).1 (cu hm).1) rfl rfl)
 ·rw[d5 hf,(bE 60).2.1 _ _ q]
  obtain⟨S1,run⟩:=yv L hX hm hk
  exact dP (G:=fun v T'=>bo (X.wth X.B (td3 ks ms)) 66 48 _ T v T') e (BH hc run rfl (FD n7 (cu hm).1 (cu hk).1) rfl rfl)
theorem yx(L:aS X)(hX:∀i,noT (X.td i)=true){ks ms:List Nat}(hk:aZ ks)(hm:aZ ms):∃S1,bo X 74 49 [KK,aD ks,aD ms] [] (.bool (aH ks ms&&aH ms ks)) S1:=by
 have hc:=s7 hk hm
 have ck:=cu hk
 have cm:=cu hm
 have Lt:aS (X.wth X.B (td3 ks ms)):=L.wth fun _ _ e=>e
 have hs:∀fl,eqA eqN [] (aD ks) (aD ms)=fl→(fl||(aH ks ms&&aH ms ks))=(aH ks ms&&aH ms ks):=fun fl e=>by
  cases fl with
  | false=>rfl
  | true=>
   have:=BZ hk hm e
   subst this
   rw[jc hk hk e];rfl
 generalize hf:eqA eqN [] (aD ks) (aD ms)=fl at hs
 have E:dG (X.wth X.B (td3 ks ms)) (tq2 fl (iJ 1) (iJ 2)):=s6 hc ck.1 cm.1 ck.2 cm.2 hf
 have key:=dA (dA (dA FB fl) (aH ks ms)) (aH ms ks)
 unfold skB at key
 rw[hs fl rfl] at key
 obtain⟨S1,e⟩:=pJ key
 exact⟨_,dL hc (kT (wf:=1000) Lt E (C5 L hX hk hm) 4 _ _ _ _ _ e)⟩
theorem yy(L:aS X)(hX:∀i,noT (X.td i)=true){ks ms:List Nat}(hk:aZ ks)(hm:aZ ms):∃S1,bo X 74 53 [KK,aD ks,aD ms] [] (.bool (aH ks ms&&!aH ms ks)) S1:=by
 have hc:=s7 hk hm
 have Lt:aS (X.wth X.B (td3 ks ms)):=L.wth fun _ _ e=>e
 obtain⟨S1,e⟩:=pJ (dA (dA FC (aH ks ms)) (aH ms ks))
 exact⟨_,dL hc (kT (wf:=1000) Lt qO (C5 L hX hk hm) 4 _ _ _ _ _ e)⟩
end Mine
end
section
open PySem PySem.W PySem.Calls PyProof.Rows
namespace Mine
variable {X:Cx}
theorem B0{k:Nat}(hk:k < 8):kd k=ak (pk k 0)∧two k=false:=by
 have e:=eq_of_beq (aP yj hk)
 exact⟨by unfold kd pk;rw[e];rfl,by unfold two;rw[e]⟩
theorem FE{k m:Nat}(hk:k < 8):dy k m=eD (pk k 0) m:=by rw[jF (Nat.lt_trans hk (by decide)),(B0 hk).2];rfl
noncomputable def yz(ok:Bool)(v:AV)(S1:aa):Prop:=(ok=true→∃i,v=.ref i∧S1[i]?=some (.dict []))∧(ok=false→v=.none)
theorem yA{ok:Bool}{r:Option (AV×aa)}(h:mtB ok r=true):∃v S1,r=some (v,S1)∧yz ok v S1:=
 jb h fun v S1 e h=>⟨v,S1,e,by
  cases ok with
  | true=>exact⟨fun _=>aT h fun a b=>⟨_,sS a,d6 b⟩,fun h=>nomatch h⟩
  | false=>exact⟨fun h=>(nomatch h),fun _=>jk (G:=fun v=>v=.none) h nF fun _=>rfl⟩⟩
theorem yz.det{ok:Bool}{v:AV}{S1:aa}{td:Nat→AV}(h:yz ok v S1):yz ok (det td v) (S1.map (vr td)):=
 ⟨fun e=>(h.1 e).elim fun i q=>⟨i,by rw[q.1];rfl,by rw[List.getElem?_map,q.2];rfl⟩,fun e=>by rw[h.2 e];rfl⟩
theorem vF(L:aS X)(hX:∀i,noT (X.td i)=true){ks ms:List Nat}(hk:aZ ks)(h8:∀k∈ks,k < 8)(hm:aZ ms):∃v S1,bo X 66 50 [KK,aD ks,aD ms] [] v S1∧yz (aH ks ms) v S1:=by
 have cm:=(cu hm).1
 rcases hk with⟨k,rfl,hk⟩ | ⟨k,l,rfl,hk,hl⟩
 ·have k8:=h8 k (List.mem_singleton.mpr rfl)
  have hc:=pI (k:=k) (l:=k) hk hk (pM hm)
  obtain⟨w,n,r,o⟩:=yq L (ke hk).1 hm
  have Lt:aS (X.wth X.B (tdS k k (.tup (fnV::ms.map kd)))):=L.wth fun _ _ e=>e
  have O:=um (o0:=iJ 3) (X:=X) (td:=tdS k k (.tup (fnV::ms.map kd))) L hX hc rfl (cs:=fun _=>[]) (wo:=wm w n [4]) (fun a h=>absurd rfl h) (fun ts w' n' e=>aC e nN (kJ r rfl)) cm
  have hs:aH [k] ms=okO w:=by
   rw[o]
   rcases hm with⟨m,rfl,_⟩ | ⟨m,p,rfl,_⟩
   ·exact FE k8
   ·rfl
  obtain⟨v,S1,e,h⟩:=yA (aT (bp (yw n) w) fun a _=>a)
  have run:=dL hc (kT (wf:=1000) Lt qO O 5 _ _ _ _ _ e)
  have e1:aD [k]=aL [ak (pk k 0)]:=congrArg (fun v=>aL [v]) (B0 k8).1
  rw[hs,e1]
  exact⟨_,_,run,h.det⟩
 ·have k8:=h8 k (.head _)
  have l8:=h8 l (.tail _ (.head _))
  have hc:=pI (k:=k) (l:=l) hk hl (pM hm)
  obtain⟨w,n,r,o⟩:=rn L (ke hk).1 (ke hl).1 hm
  have Lt:aS (X.wth X.B (tdS k l (.tup (fnV::ms.map kd)))):=L.wth fun _ _ e=>e
  have O:=um (o0:=iJ 3) (X:=X) (td:=tdS k l (.tup (fnV::ms.map kd))) L hX hc rfl (cs:=fun _=>[]) (wo:=wm w n [4,6]) (fun a h=>absurd rfl h) (fun ts w' n' e=>aC e nN (kJ r rfl)) cm
  have hs:aH [k,l] ms=okO w:=by
   rw[o]
   rcases hm with⟨m,rfl,_⟩ | ⟨m,p,rfl,_⟩
   ·rfl
   ·show(dy k m&&dy l p)=_;rw[FE k8,FE l8];rfl
  obtain⟨v,S1,e,h⟩:=yA (aT (bp (yw n) w) fun _ a=>a)
  have run:=dL hc (kT (wf:=1000) Lt qO O 5 _ _ _ _ _ e)
  have e1:aD [k,l]=aL [ak (pk k 0),ak (pk l 0)]:=by show aL [kd k,kd l]=_;rw[(B0 k8).1,(B0 l8).1]
  rw[hs,e1]
  exact⟨_,_,run,h.det⟩
end Mine
end
section
open PySem PySem.W PySem.Calls PyProof.Rows
namespace Mine
variable {X:Cx} {td:Nat→AV}
noncomputable def dK(v:AV):Nat→Nat
 | 0=>29
 | k + 1=>am (eqX 60 v (kd k)) k (dK v k)
theorem C6{v:AV}:∀{n k:Nat},dK v n=k→k < 29→v=kd k
 | 0,k,e,h=>absurd (show 29=k from e) (Nat.ne_of_gt h)
 | n + 1,k,e,h=>aE e (fun q e=>by rw[←show n=k from e];exact(bE 60).1 _ _ q) fun _ e=>C6 e h
noncomputable def okL(ks:List Nat):Bool:=List.casesOn ks false fun _ r=>List.casesOn r true fun _ r=>List.casesOn r true fun _ _=>false
theorem lf{p:List Nat}{G:List Nat→Prop}(h:okL p=true)(K1:∀a,G [a])(K2:∀a b,G [a,b]):G p:=by
 cases p with
 | nil=>exact nomatch h
 | cons a r=>cases r with
  | nil=>exact K1 a
  | cons b r=>cases r with
   | nil=>exact K2 a b
   | cons c r=>exact nomatch h
noncomputable def okS(ks:List Nat):Bool:=okL ks&&ks.all fun k=>Nat.blt k 29
theorem yB{ks:List Nat}(h:okS ks=true):aZ ks:=aT h fun h1 h2=>lf (G:=fun ks=>(ks.all fun k=>Nat.blt k 29)=true→aZ ks) h1 (fun k q=>aT q fun a _=>.inl ⟨k,rfl,cK a⟩) (fun k l q=>aT q fun a q=>aT q fun b _=>.inr ⟨k,l,rfl,cK a,cK b⟩) h2
noncomputable def dS(v:AV):List Nat:=((els (atV (els v) 1)).drop 1).map fun v=>dK v 29
noncomputable def rtB(ks:List Nat):Bool:=(dS (aD ks)==ks)&&(okS ks&&(eqX 298 (aD ks) (aD ks)&&eqX 297 (aD ks) (aD ks)))
theorem B1:bD 29 (fun k=>rtB [k])=true:=by kernel_rfl
theorem B2:bD 29 (fun k=>bD 29 fun l=>rtB [k,l])=true:=by kernel_rfl
theorem C7{ks:List Nat}(h:aZ ks):rtB ks=true:=by
 rcases h with⟨k,rfl,hk⟩ | ⟨k,l,rfl,hk,hl⟩
 ·exact aP B1 hk
 ·exact aP (aP B2 hk) hl
theorem IK:eqX 299 KK KK=true:=by kernel_rfl
noncomputable def dM(a:Nat):Bool:=nmB a
noncomputable def sI(v:AV):Nat:=gY v (fun i=>i) 0
noncomputable def B3:List AV→Option (List Nat)
 | []=>some []
 | v::r=>ay (B3 r) (fun l=>am (eqX 10 v (ak (sI (atV (els v) 1)))&&dM (sI (atV (els v) 1))) (some (sI (atV (els v) 1)::l)) none) none
theorem pN:∀{l:List AV} {p:List Nat},B3 l=some p→l=p.map ak∧∀a∈p,dM a=true
 | [],p,e=>by rw[←Option.some.inj (show some []=some p from e)];exact⟨rfl,noM⟩
 | v::r,p,e=>ah e nN fun l q e=>aC e nN fun t e=>aT t fun t1 t2=>by
  rw[←Option.some.inj e,(bE 10).1 _ _ t1,(pN q).1]
  exact⟨rfl,List.forall_mem_cons.mpr ⟨t2,(pN q).2⟩⟩
noncomputable def O5a(f:Nat)(ks ms:List Nat)(T:aa):Option (AV×aa):=am (Nat.beq f 49) (some (.bool (aH ks ms&&aH ms ks),T)) (am (Nat.beq f 53) (some (.bool (aH ks ms&&!aH ms ks),T))
 (am (Nat.beq f 50&&ks.all fun k=>Nat.blt k 8) (am (aH ks ms) (some (.ref T.length,T++[.dict []])) (some (.none,T))) none))
noncomputable def O5b(f:Nat)(args:List AV)(T:aa)(ks ms:List Nat):Option (AV×aa):=am (okS ks&&(okS ms&&j6 300 args [KK,aD ks,aD ms])) (O5a f ks ms T) none
noncomputable def O5u(args:List AV)(T:aa)(i:Nat):Option (AV×aa):=am (j6 9 args [.ref i]) (bQ T[i]? (fun l=>ay (B3 l) (fun p=>am (okL p) (some (kOf p,T)) none) none) none) none
noncomputable def O5:CF:=fun f args T=>am (Nat.beq f 3) (O5u args T (rI (atV args 0))) (am (Nat.beq f 49||(Nat.beq f 53||Nat.beq f 50)) (O5b f args T (dS (atV args 1)) (dS (atV args 2))) none)
theorem yC{f:Nat}{ks ms:List Nat}{T:aa}(hf:Nat.beq f 3=false)(hg:(Nat.beq f 49||(Nat.beq f 53||Nat.beq f 50))=true)(hk:aZ ks)(hm:aZ ms):O5 f [KK,aD ks,aD ms] T=O5a f ks ms T:=
 aT (C7 hk) fun a1 q=>aT q fun a2 q=>aT q fun a3 _=>aT (C7 hm) fun b1 q=>aT q fun b2 q=>aT q fun _ b3=>by
  show am (Nat.beq f 3) _ (am (Nat.beq f 49||(Nat.beq f 53||Nat.beq f 50)) (O5b f [KK,aD ks,aD ms] T (dS (aD ks)) (dS (aD ms))) none)=_
  rw[hf,hg,eq_of_beq a1,eq_of_beq b1]
  show am (okS ks&&(okS ms&&(eqX 299 KK KK&&(eqX 298 (aD ks) (aD ks)&&(eqX 297 (aD ms) (aD ms)&&true))))) _ _=_
  rw[a2,b2,IK,a3,b3];rfl
theorem n8{a:Nat}(h:dM a=true):ix a < 8∧nm (ix a)=a:=pD h
theorem ib{f:List Nat→Bool}{p:List Nat}(c1:bD 8 (fun i=>f [nm i])=true)(c2:bD 8 (fun i=>bD 8 fun j=>f [nm i,nm j])=true)(hp:okL p=true)(hn:∀a∈p,dM a=true):f p=true:=
 lf (G:=fun p=>(∀a∈p,dM a=true)→f p=true) hp (fun a hn=>by
  have h:=n8 (hn a (.head _))
  have:=aP c1 h.1
  rw[h.2] at this;exact this) (fun a b hn=>by
  have h:=n8 (hn a (.head _))
  have h':=n8 (hn b (.tail _ (.head _)))
  have:=aP (aP c2 h.1) h'.1
  rw[h.2,h'.2] at this;exact this) hn
theorem vG(L:aS X){p:List Nat}(hp:okL p=true)(hn:∀a∈p,dM a=true):∃S1,bo X 40 3 [.ref 0] [.list (p.map ak)] (kOf p) S1∧S1[0]?=some (.list (p.map ak)):=
 jb (ib sU sV hp hn) fun v S1 e ck=>aT ck fun a b=>by
  rw[(bE 60).1 _ _ a] at e
  exact⟨S1,xU L 20 _ _ _ _ _ e,hY b⟩
noncomputable def kx(p:List Nat):Nat:=dK (kOf p) 29
theorem B4:bD 8 (fun i=>Nat.blt (kx [nm i]) 29)=true:=by kernel_rfl
theorem B5:bD 8 (fun i=>bD 8 fun j=>Nat.blt (kx [nm i,nm j]) 29)=true:=by kernel_rfl
theorem s8{p:List Nat}(hp:okL p=true)(hn:∀a∈p,dM a=true):kOf p=kd (kx p)∧kx p < 29:=
 have lt:=cK (ib (f:=fun p=>Nat.blt (kx p) 29) B4 B5 hp hn)
 ⟨C6 rfl lt,lt⟩
theorem yD{n f:Nat}{args:List AV}{T S1:aa}{v:AV}(hX:∀i,noT (X.td i)=true)(run:bo X n f args [] v S1)(hn:c7 args=true)(hv:noT v=true):bo X n f args T v T:=
 BH (X:=X) (td:=X.td) hX run (jE hn) hn (hZ hv) hv
theorem yE{n f i:Nat}{args:List AV}{T S1:aa}(run:bo X n f args [] (.ref i) S1)(na:c7 args=true)(g:S1[i]?=some (.dict [])):bo X n f args T (.ref T.length) (T++[.dict []]):=by
 have run':bo (X.wth X.B X.td) n f args [] (.ref i) S1:=run
 exact emb (ρ:=[]) (σ:=[i]) run' List.nodup_nil noM rfl nd1 (in1 ⟨Nat.zero_le _,ae g⟩) (by rw[List.length_append];rfl) (fun x _ hx=>List.getElem?_append_left hx) (fun ad h R xs ra=>⟨fun k c o e _=>noI e,VRs.retd (X:=X) (td:=X.td) (td':=X.td) na ra⟩)
  fun ad ad1 adB h objs oldB newB inB leB=>⟨fun k i c e=>noI e,fun j k' c g1 g2=>sW (G:=fun j k'=>ad1[k']?=some c→∃o,(T++[.dict []])[T.length + j]?=some o∧OR X adB h c o) g1
   (fun g2=>⟨_,by rw[List.getElem?_append_right (Nat.le_add_right _ _),Nat.add_sub_cancel_left];rfl,OR.dict0 (td:=X.td) (td':=X.td) (objs _ c _ g2 g)⟩) g2,fun x q=>q.onRef fun c g=>.ref (newB 0 _ _ rfl g)⟩
theorem yF:∀p:List Nat,c7 (p.map ak)=true
 | []=>rfl
 | a::r=>by show(true&&c7 (r.map ak))=true;rw[yF r];rfl
theorem vH(L:aS X){T:aa}{i:Nat}{p:List Nat}(hl:T[i]?=some (.list (p.map ak)))(q:okL p=true)(hn:∀a∈p,dM a=true):bo X 40 3 [.ref i] T (kOf p) T:=by
 obtain⟨S1,run,g⟩:=vG L q hn
 have run':bo (X.wth X.B X.td) 40 3 [.ref 0] [.list (p.map ak)] (kOf p) S1:=run
 have kc:noT (kOf p)=true:=by rw[(s8 q hn).1];exact(fc (s8 q hn).2).1
 have ll:(p.map ak).length≤lim:=by rw[List.length_map];exact lf (G:=fun p=>p.length≤lim) q (fun _=>Nat.le_of_ble_eq_true rfl) fun _ _=>Nat.le_of_ble_eq_true rfl
 have re:∀{ad ad':List au} {h:Heap} {xs:List Value},VRs (X.wth X.B X.td) ad h (p.map ak) xs→VRs (X.wth X.B X.td) ad' h (p.map ak) xs:=fun q=>VRs.retd (X:=X) (td:=X.td) (td':=X.td) (yF p) q
 exact emb (ρ:=[i]) (σ:=[]) run' nd1 (in1 (ae hl)) rfl List.nodup_nil noM rfl (fun _ _ _=>rfl) (fun ad h R xs ra=>⟨fun k c o e1 e2=>sW (G:=fun k o=>(sel [i] ad)[k]?=some c→OR X (sel [i] ad) h c o) e2 (fun e=>OR.listc (td:=X.td) (td':=X.td) ll (fun xs q=>re q) (R.onSel hl rfl e).2) e1,
   ra.on1 fun y r=>r.onRef fun c g=>.cons (.ref (eC (k:=0) rfl g)) .nil⟩)
  fun ad ad1 adB h objs oldB newB inB leB=>⟨fun k x c e1 e2=>sW (G:=fun k x=>ad1[k]?=some c→∃o,T[x]?=some o∧OR X adB h c o) e1 (fun e2=>⟨_,hl,OR.listc (td:=X.td) (td':=X.td) ll (fun xs q=>re q) (objs 0 c _ e2 g)⟩) e2,fun j k c e=>noI e,fun x r=>VR.retd (X:=X) (td:=X.td) (td':=X.td) kc r⟩
theorem IL(L:aS X)(hX:∀i,noT (X.td i)=true):Snd X 74 O5:=by
 intro f args T v T' e
 refine aE e (fun hf e=>?_) fun _ e=>aC e nN fun _ e=>aC e nN fun q e=>aT q fun q1 q=>aT q fun q2 q3=>?_
 ·refine aC e nN fun qa e=>c8 e nN fun l hl e=>ah e nN fun p hp e=>aC e nN fun q e=>?_
  rw[d5 hf,(bE 9).2.1 _ _ qa]
  have H:=pN hp
  rw[H.1] at hl
  exact dP (G:=fun v T'=>bo X 74 3 _ T v T') e ((vH L hl q H.2).up (by decide))
 ·rw[(bE 300).2.1 _ _ q3]
  generalize dS (atV args 1)=ks at *
  generalize dS (atV args 2)=ms at *
  have hk:=yB q1
  have hm:=yB q2
  have na:=FD n7 (cu hk).1 (cu hm).1
  refine aE e (fun hf e=>?_) fun _ e=>aE e (fun hf e=>?_) fun _ e=>aC e nN fun hf e=>aT hf fun hf q4=>?_
  ·rw[d5 hf]
   obtain⟨S1,run⟩:=yx L hX hk hm
   exact dP (G:=fun v T'=>bo X 74 49 _ T v T') e (yD hX run na rfl)
  ·rw[d5 hf]
   obtain⟨S1,run⟩:=yy L hX hk hm
   exact dP (G:=fun v T'=>bo X 74 53 _ T v T') e (yD hX run na rfl)
  ·rw[d5 hf]
   obtain⟨w,S1,run,h1,h2⟩:=vF L hX hk (fun k hk=>cK (List.all_eq_true.mp q4 k hk)) hm
   refine aE e (fun q5 e=>?_) fun q5 e=>?_
   ·obtain⟨i,rfl,g⟩:=h1 q5
    exact dP (G:=fun v T'=>bo X 74 50 _ T v T') e ((yE run na g).up (by decide))
   ·rw[h2 q5] at run
    exact dP (G:=fun v T'=>bo X 74 50 _ T v T') e ((yD hX run na rfl).up (by decide))
noncomputable def cfL:CF:=evO PQ 1000 O5 22
theorem FF(X':Cx)(L:aS X')(ht:∀i,X'.td i=.none):Snd X' 118 cfL:=kT (tq:=fun _ _=>none) L qO (IL L fun i=>by rw[ht];rfl) 22
end Mine
end
section
namespace Mine
variable {cf:CF} {loc loc1 loc':Loc} {S S1 S2 S3 T:aa} {v u a b k:AV} {vs:List AV} {r:Option (AV×aa)} {e e1 e2 t:IE} {l:List IE}
@[reducible] noncomputable def vI{β:Type}(b:Bool)(x y:β):β:=Bool.rec y x b
theorem av{α β:Type}{m:Option (α×aa)}{x:α}{K:α→aa→Option (β×aa)}(h:m=some (x,S)):bnd m K=K x S:=by rw[h];rfl
theorem oS{α β:Type}{k:α→β}{d:β}{o:Option α}{x:α}(h:o=some x):ay o k d=k x:=by rw[h];rfl
theorem oN{α β:Type}{k:α→β}{d:β}{o:Option α}(h:o=none):ay o k d=d:=by rw[h];rfl
theorem oLi{β:Type}{k:List AV→β}{d:β}{o:Option AO}{x:List AV}(h:o=some (.list x)):bQ o k d=k x:=by rw[h];rfl
theorem oDi{β:Type}{k:List (Nat×AV)→β}{d:β}{o:Option AO}{x:List (Nat×AV)}(h:o=some (.dict x)):jm o k d=k x:=by rw[h];rfl
theorem oI{β:Type}{k:Nat→List (Nat×AV)→β}{d:β}{o:Option AO}{c:Nat}{x:List (Nat×AV)}(h:o=some (.inst c x)):gO o k d=k c x:=by rw[h];rfl
theorem bT{β:Type}{x y:β}{b:Bool}(h:b=true):am b x y=x:=by rw[h];rfl
theorem bF{β:Type}{x y:β}{b:Bool}(h:b=false):am b x y=y:=by rw[h];rfl
theorem bV{i:Nat}{l:List AV}(h:S[i]?=some (.list l)):bj (.ref i) S=some l:=oLi h
theorem bk{i:Int}:evE PQ cf 1000 (.int i) loc S=some (.int i,S):=rfl
theorem iR{c:Nat}:evE PQ cf 1000 (.str c) loc S=some (.str c,S):=rfl
theorem fH:evE PQ cf 1000 .none loc S=some (.none,S):=rfl
theorem yG{c:Bool}:evE PQ cf 1000 (.bool c) loc S=some (.bool c,S):=rfl
theorem ag{x:Nat}(h:get? x loc=some v):evE PQ cf 1000 (.var x) loc S=some (v,S):=oS h
theorem yH{x:Nat}(h:PQ.glob x=some v):evE PQ cf 1000 (.glob x) loc S=some (v,S):=oS h
theorem rp(h:fK PQ cf 1000 l loc S=some (vs,S1)):evE PQ cf 1000 (.tup l) loc S=some (.tup vs,S1):=(av h).trans rfl
theorem r_list(h:fK PQ cf 1000 l loc S=some (vs,S1)):evE PQ cf 1000 (.list l) loc S=some (.ref S1.length,S1++[.list vs]):=(av h).trans aR
theorem uq:evE PQ cf 1000 .dict0 loc S=some (.ref S.length,S++[.dict []]):=cX
theorem bW{x:Nat}(h:evE PQ cf 1000 e loc S=some (u,S1))(q:tC PQ u x S1=r):evE PQ cf 1000 (.attr e x) loc S=r:=(av h).trans q
theorem cw(h:evE PQ cf 1000 e1 loc S=some (u,S1))(h2:evE PQ cf 1000 e2 loc S1=some (k,S2))(q:rS u k S2=r):evE PQ cf 1000 (.sub e1 e2) loc S=r:=(av h).trans ((av h2).trans q)
theorem FG(h:evE PQ cf 1000 e loc S=some (u,S1))(q:wd u S1=r):evE PQ cf 1000 (.last e) loc S=r:=(av h).trans q
theorem FH{n:Nat}(h:evE PQ cf 1000 e loc S=some (u,S1))(q:rT (List.take n) u S1=r):evE PQ cf 1000 (.take e n) loc S=r:=(av h).trans q
theorem FI{n:Nat}(h:evE PQ cf 1000 e loc S=some (u,S1))(q:rT (List.drop n) u S1=r):evE PQ cf 1000 (.drop e n) loc S=r:=(av h).trans q
theorem bO{f:Nat}(h:fK PQ cf 1000 l loc S=some (vs,S1))(q:cf f vs S1=r):evE PQ cf 1000 (.call f l) loc S=r:=(av h).trans q
theorem C8{c:Nat}(h:fK PQ cf 1000 l loc S=some (vs,S1))(q:wc PQ cf c vs S1=r):evE PQ cf 1000 (.new c l) loc S=r:=(av h).trans q
theorem b5{m:Nat}{c:Cal}(h:evE PQ cf 1000 e loc S=some (u,S1))(hc:jp PQ u m S1=some c)(h2:fK PQ cf 1000 l loc S1=some (vs,S2))(q:d8 PQ cf c u m vs S2=r):evE PQ cf 1000 (.meth e m l) loc S=r:=(av h).trans ((oS hc).trans ((av h2).trans q))
theorem iK{c:BI}(h:fK PQ cf 1000 l loc S=some (vs,S1))(q:biV c vs S1=r):evE PQ cf 1000 (.bi c l) loc S=r:=(av h).trans q
theorem b9{op:COp}(h:evE PQ cf 1000 e1 loc S=some (a,S1))(h2:evE PQ cf 1000 e2 loc S1=some (b,S2))(q:iE PQ.eqt op a b S2=r):evE PQ cf 1000 (.cmp op e1 e2) loc S=r:=(av h).trans ((av h2).trans q)
theorem cM{op:BOp}(h:evE PQ cf 1000 e1 loc S=some (a,S1))(h2:evE PQ cf 1000 e2 loc S1=some (b,S2))(q:pV PQ.emp op a b S2=r):evE PQ cf 1000 (.bin op e1 e2) loc S=r:=(av h).trans ((av h2).trans q)
theorem yI{c:Bool}(h:evT PQ cf 1000 t loc S=some (c,S1))(q:vI c (evE PQ cf 1000 e1 loc S1) (evE PQ cf 1000 e2 loc S1)=r):evE PQ cf 1000 (.ite t e1 e2) loc S=r:=(av h).trans q
theorem aF:fK PQ cf 1000 [] loc S=some ([],S):=rfl
theorem az(h:evE PQ cf 1000 e loc S=some (v,S1))(h2:fK PQ cf 1000 l loc S1=some (vs,S2)):fK PQ cf 1000 (e::l) loc S=some (v::vs,S2):=(av h).trans ((av h2).trans rfl)
theorem yJ{p:Bool}(h:evE PQ cf 1000 e1 loc S=some (.bool p,S1))(q:vI p (evE PQ cf 1000 e2 loc S1) (some (.bool false,S1))=r):evE PQ cf 1000 (.and [e1,e2]) loc S=r:=by
 refine(av h).trans ?_
 exact q
theorem C9{p:Bool}(h:evE PQ cf 1000 e1 loc S=some (.bool p,S1))(q:vI p (some (.bool true,S1)) (evE PQ cf 1000 e2 loc S1)=r):evE PQ cf 1000 (.or [e1,e2]) loc S=r:=by
 refine(av h).trans ?_
 exact q
theorem bI{p:Bool}(h:evE PQ cf 1000 e loc S=some (.bool p,S1)):evT PQ cf 1000 (.val e) loc S=some (p,S1):=(av h).trans rfl
theorem yK{p:Bool}(h:evT PQ cf 1000 e loc S=some (p,S1)):evT PQ cf 1000 (.not e) loc S=some (!p,S1):=(av h).trans (by simp)
theorem kf{p:Bool}{rb:Option (Bool×aa)}(h:evT PQ cf 1000 e1 loc S=some (p,S1))(q:vI p (gQ PQ cf 1000 [e2] loc S1) (some (false,S1))=rb):evT PQ cf 1000 (.and [e1,e2]) loc S=rb:=(av h).trans q
theorem FJ:gQ PQ cf 1000 [] loc S=some (true,S):=rfl
theorem vJ{p:Bool}{rb:Option (Bool×aa)}(h:evT PQ cf 1000 e loc S=some (p,S1))(q:vI p (gQ PQ cf 1000 l loc S1) (some (false,S1))=rb):gQ PQ cf 1000 (e::l) loc S=rb:=(av h).trans q
theorem iL{p:Bool}(h:evT PQ cf 1000 e loc S=some (p,S1)):gQ PQ cf 1000 [e] loc S=some (p,S1):=vJ h (by cases p<;>rfl)
theorem fW{src:Src}(h:evE PQ cf 1000 e loc S=some (v,S1))(q:tA S1 v=some src):evI PQ cf 1000 (.of e) loc S=some (src,S1):=(av h).trans (oS q)
theorem n9{n:Int}(h:evE PQ cf 1000 e loc S=some (.int n,S1))(h0:0≤n)(h1:n < 1000000):evI PQ cf 1000 (.rng e) loc S=some (.items ((List.range n.toNat).map fun k=>.int (Int.ofNat k)),S1):=(av h).trans ((bT (jQ (decide_eq_true h0) (decide_eq_true h1))).trans (aB _ _))
variable {st:IS} {sts:List IS} {fr:Option (Fl×aa)} {x:Nat} {b1 b2:List IS}
theorem bl(h:evE PQ cf 1000 e loc S=some (v,S1)):evS PQ cf 1000 (.assign (.name x) e) loc S=some (.next (upd x v loc),S1):=(av h).trans (aB _ _)
theorem IM{xs:List Nat}(h:evE PQ cf 1000 e loc S=some (v,S1))(q:cy xs v loc=some loc'):evS PQ cf 1000 (.assign (.tup xs) e) loc S=some (.next loc',S1):=(av h).trans (oS q)
theorem jd(h:evE PQ cf 1000 e loc S=some (v,S1)):evS PQ cf 1000 (.expr e) loc S=some (.next loc,S1):=(av h).trans rfl
theorem dC(h:evE PQ cf 1000 e loc S=some (v,S1)):evS PQ cf 1000 (.ret e) loc S=some (.ret v,S1):=(av h).trans rfl
theorem cN{c:Bool}(h:evT PQ cf 1000 t loc S=some (c,S1))(q:vI c (cC PQ cf 1000 b1 loc S1) (cC PQ cf 1000 b2 loc S1)=fr):evS PQ cf 1000 (.ite t b1 b2) loc S=fr:=(av h).trans q
theorem je{i c:Nat}{fl:List (Nat×AV)}(h:evE PQ cf 1000 e loc S=some (v,S1))(h2:evE PQ cf 1000 e1 loc S1=some (.ref i,S2))(hi:S2[i]?=some (.inst c fl))(hc:(PQ.init c).isSome=true)(hl:Nat.blt fl.length lim=true):
  evS PQ cf 1000 (.assign (.attr e1 x) e) loc S=some (.next loc,setAt S2 i (.inst c (dI x v fl))):=(av h).trans ((av h2).trans ((oI hi).trans ((bT (jQ hc hl)).trans ((aB _ _).trans bU))))
theorem s9{i:Nat}{j:Int}{vl:List AV}(h:evE PQ cf 1000 e loc S=some (v,S1))(h2:evE PQ cf 1000 e1 loc S1=some (.ref i,S2))(h3:evE PQ cf 1000 e2 loc S2=some (.int j,S3))(hi:S3[i]?=some (.list vl))(hj:0≤j∧j.toNat < vl.length):
  evS PQ cf 1000 (.assign (.sub e1 e2) e) loc S=some (.next loc,setAt S3 i (.list (setAt vl j.toNat v))):=(av h).trans ((av h2).trans ((av h3).trans ((oLi hi).trans ((bT (decide_eq_true hj)).trans ((aB _ _).trans bU)))))
theorem b6:cC PQ cf 1000 [] loc S=some (.next loc,S):=rfl
theorem aK(h:evS PQ cf 1000 st loc S=some (.next loc1,S1))(q:cC PQ cf 1000 sts loc1 S1=fr):cC PQ cf 1000 (st::sts) loc S=fr:=(av h).trans q
theorem d7(h:evS PQ cf 1000 st loc S=some (.ret v,S1)):cC PQ cf 1000 (st::sts) loc S=some (.ret v,S1):=(av h).trans rfl
theorem rq{l:List AV}{k:Nat}(h:l[k]?=some v):jI l (k:Int)=some v:=(bT (decide_eq_true (Int.natCast_nonneg k))).trans h
theorem bw{i k:Nat}{l:List AV}(h:S[i]?=some (.list l))(q:l[k]?=some v):rS (.ref i) (.int k) S=some (v,S):=(oS (bV h)).trans (oS (rq q))
theorem gA{i:Nat}{l:List AV}(h:S[i]?=some (.list l)):biV .len [.ref i] S=some (.int l.length,S):=(oS (bV h)).trans (aO _ _)
theorem aW{i c x:Nat}{fl:List (Nat×AV)}(h:S[i]?=some (.inst c fl))(hc:(PQ.init c).isSome=true)(q:cx x fl=some v):tC PQ (.ref i) x S=some (v,S):=by
 obtain⟨f,hf⟩:=Option.isSome_iff_exists.mp hc
 exact(oI h).trans ((oS hf).trans (oS q))
theorem af{S G:aa}{i:Nat}{o:AO}(h:S[i]?=some o):(S++G)[i]?=some o:=(List.getElem?_append_left (ae h)).trans h
theorem aw{S:aa}{o:AO}:(S++[o])[S.length]?=some o:=by simp
end Mine
end
section
namespace Mine
variable {cf:CF} {loc loc1 loc' loc2:Loc} {S S1 S2 S3 T G:aa} {v u a b k:AV} {vs:List AV} {e e1 e2 t:IE} {l:List AV}
theorem dN{α:Type}:∀(A:List α) (x y:α) (B:List α),setAt ((A++[x])++B) A.length y=(A++[y])++B
 | [],x,y,B=>rfl
 | a::A,x,y,B=>congrArg (a::·) (dN A x y B)
theorem B6{acc:List AV}{w:AV}(h:acc.length < lim):g5 S1.length w ((S1++[.list acc])++G)=some ((),(S1++[.list (acc++[w])])++G):=by
 have e:((S1++[AO.list acc])++G)[S1.length]?=some (.list acc):=by rw[List.getElem?_append_left (by simp)];simp
 have hb:Nat.blt acc.length lim=true:=Nat.ble_eq_true_of_le (Nat.succ_le_of_lt h)
 refine(oLi e).trans ?_
 rw[bT hb,aB,bU,dN]
theorem oa{f:AV→Unit→aa→Option (Unit×aa)}{p:AV→Bool}{g:AV→AV}:∀(l:List AV) (acc:List AV) (G:aa),acc.length + l.length≤lim→
  (∀v∈l,∀(acc:List AV) (G:aa),acc.length < lim→∃G',f v () ((S1++[.list acc])++G)=some ((),(S1++[.list (acc++if p v then [g v] else [])])++G'))→
  ∃G',ng f l () ((S1++[.list acc])++G)=some ((),(S1++[.list (acc++(l.filter p).map g)])++G')
 | [],acc,G,_,_=>⟨G,by simp[ng]⟩
 | v::r,acc,G,hl,H=>by
  simp only[List.length_cons] at hl
  obtain⟨G1,e1⟩:=H v List.mem_cons_self acc G (by omega)
  have hl2:(acc++if p v then [g v] else []).length + r.length≤lim:=by
   rw[List.length_append]
   split<;>simp<;>omega
  obtain⟨G2,e2⟩:=oa r _ G1 hl2 fun u hu=>H u (List.mem_cons_of_mem _ hu)
  refine⟨G2,(av e1).trans (e2.trans ?_)⟩
  congr 3
  cases hp:p v<;>simp[hp]
theorem og{f:AV→Unit→aa→Option (Unit×aa)}{p:AV→Bool}{g:AV→AV}{i:Nat}{l:List AV}(hi:S1[i]?=some (.list l)):∀(n k:Nat) (acc:List AV) (G:aa),l.length - k < n→acc.length +(l.length - k)≤lim→
  (∀v∈l,∀(acc:List AV) (G:aa),acc.length < lim→∃G',f v () ((S1++[.list acc])++G)=some ((),(S1++[.list (acc++if p v then [g v] else [])])++G'))→
  ∃G',jn f i n k () ((S1++[.list acc])++G)=some ((),(S1++[.list (acc++((l.drop k).filter p).map g)])++G')
 | 0,k,acc,G,h,_,_=>absurd h (Nat.not_lt_zero _)
 | n + 1,k,acc,G,h,hl,H=>by
  have ei:((S1++[AO.list acc])++G)[i]?=some (.list l):=af (af hi)
  have hL:∀r,ay l[k]? (fun v=>bnd (f v () ((S1++[AO.list acc])++G)) fun a S=>jn f i n (k + 1) a S) (some ((),(S1++[AO.list acc])++G))=r→jn f i (n + 1) k () ((S1++[AO.list acc])++G)=r:=fun _ e=>(oLi ei).trans e
  cases hk:l[k]? with
  | none=>
   have:l.length≤k:=by simpa using hk
   rw[List.drop_eq_nil_of_le this]
   exact⟨G,hL _ (by rw[hk,List.filter_nil,List.map_nil,List.append_nil];rfl)⟩
  | some v=>
   have lk:=ae hk
   obtain⟨G1,e1⟩:=H v (List.mem_of_getElem? hk) acc G (by omega)
   have hl2:(acc++if p v then [g v] else []).length +(l.length -(k + 1))≤lim:=by
    rw[List.length_append]
    split<;>simp<;>omega
   obtain⟨G2,e2⟩:=og hi n (k + 1) _ G1 (by omega) hl2 H
   refine⟨G2,hL _ ((oS hk).trans ((av e1).trans (e2.trans ?_)))⟩
   have hd:l.drop k=v::l.drop (k + 1):=by
    rw[List.drop_eq_getElem_cons lk]
    rw[List.getElem?_eq_getElem lk] at hk
    rw[Option.some.inj hk]
   rw[hd]
   congr 3
   cases hp:p v<;>simp[hp]
noncomputable def Da(S:aa)(src:Src)(l:List AV):Prop:=src=.items l∨∃i,src=.live i∧S[i]?=some (.list l)
noncomputable def ur(cf:CF)(tg:List Nat)(loc:Loc)(ifs:List IE)(elt:IE)(i:Nat)(v:AV)(_:Unit)(S:aa):Option (Unit×aa):=
 ay (cy tg v loc) (fun loc'=>bnd (gQ PQ cf 1000 ifs loc' S) fun b S=>am b (evC PQ cf 1000 (fun loc S=>bnd (evE PQ cf 1000 elt loc S) fun v S=>g5 i v S) [] loc' S) (some ((),S))) none
theorem jf{tg:List Nat}{it:It}{ifs:List IE}{elt:IE}{src:Src}{p:AV→Bool}{g:AV→AV}(h:evI PQ cf 1000 it loc S=some (src,S1))(hs:Da S1 src l)(hl:l.length < 1000)
  (H:∀v∈l,∃loc',cy tg v (aU (d9 tg []) loc)=some loc'∧∀G,(∃G1,gQ PQ cf 1000 ifs loc' (S1++G)=some (p v,(S1++G)++G1))∧(p v=true→∃G1,evE PQ cf 1000 elt loc' (S1++G)=some (g v,(S1++G)++G1))):
  ∃G,evE PQ cf 1000 (.comp elt [.mk tg it ifs]) loc S=some (.ref S1.length,(S1++[.list ((l.filter p).map g)])++G):=by
 have turn:∀v∈l,∀(acc:List AV) (G:aa),acc.length < lim→∃G',ur cf tg (aU (d9 tg []) loc) ifs elt S1.length v () ((S1++[.list acc])++G)=some ((),(S1++[.list (acc++if p v then [g v] else [])])++G'):=by
  intro v hv acc G ha
  obtain⟨loc',e1,K⟩:=H v hv
  unfold ur
  rw[e1]
  have as:∀G':aa,((S1++[AO.list acc])++G)++G'=(S1++[AO.list acc])++(G++G'):=fun G'=>List.append_assoc _ _ _
  have as2:(S1++[AO.list acc])++G=S1++([AO.list acc]++G):=List.append_assoc _ _ _
  obtain⟨⟨G1,e2⟩,K2⟩:=K ([AO.list acc]++G)
  rw[←as2,as] at e2
  change ∃G',bnd (gQ PQ cf 1000 ifs loc' ((S1++[AO.list acc])++G)) _=_
  rw[av e2]
  cases hp:p v with
  | false=>exact⟨G++G1,by show some _=some ((),(S1++[.list (acc++[])])++(G++G1));rw[List.append_nil]⟩
  | true=>
   obtain⟨_,K3⟩:=K ([AO.list acc]++(G++G1))
   obtain⟨G2,e3⟩:=K3 hp
   have as3:(S1++[AO.list acc])++(G++G1)=S1++([AO.list acc]++(G++G1)):=List.append_assoc _ _ _
   rw[←as3] at e3
   refine⟨(G++G1)++G2,?_⟩
   show bnd (evE PQ cf 1000 elt loc' _) (fun v S=>g5 S1.length v S)=_
   rw[av e3,List.append_assoc (S1++[AO.list acc])]
   exact B6 ha
 have hlim:lim=1000:=rfl
 have fin:∃G,loop (ur cf tg (aU (d9 tg []) loc) ifs elt S1.length) 1000 src () (S1++[.list []])=some ((),(S1++[.list ((l.filter p).map g)])++G):=by
  rcases hs with rfl | ⟨i,rfl,hi⟩
  ·obtain⟨G,e⟩:=oa (S1:=S1) (p:=p) (g:=g) l [] [] (by simp;omega) turn
   rw[List.append_nil] at e;exact⟨G,e⟩
  ·obtain⟨G,e⟩:=og (S1:=S1) (p:=p) (g:=g) hi 1000 0 [] [] (by omega) (by simp;omega) turn
   rw[List.append_nil] at e;exact⟨G,e⟩
 obtain⟨G,e⟩:=fin
 refine⟨G,(av h).trans ((av aR).trans ?_)⟩
 exact(aB _ _).trans ((av e).trans rfl)
end Mine
end
section
namespace Mine
variable {cf:CF} {loc loc1 loc' loc2:Loc} {S S1 S2 S3 T G:aa} {v u a b k:AV} {vs:List AV} {e e1 e2 t:IE} {l:List AV} {d:Nat}
noncomputable abbrev cfd(d:Nat):CF:=evO PQ 1000 O5 d
theorem rt{f:Nat}{F:Fn}{args:List AV}{loc:Loc}{fl:Fl}(hO:O5 f args S=none)(hf:PQ.fn f=some F)(hn:(Nat.ble args.length F.ps.length&&Nat.ble F.ps.length (args.length + F.dflt.length))=true)(hz:F.ps.zip (args++F.dflt.drop (F.dflt.length -(F.ps.length - args.length)))=loc)
  (h:cC PQ (cfd d) 1000 F.body loc S=some (fl,S1)):cfd (d + 1) f args S=jo fl (fun _=>some (.none,S1)) fun v=>some (v,S1):=by
 refine(oN hO).trans ((oS hf).trans ((bT hn).trans ((aB _ _).trans ?_)))
 rw[hz];exact av h
theorem bH{f:Nat}{F:Fn}{args:List AV}{loc:Loc}(hO:O5 f args S=none)(hf:PQ.fn f=some F)(hn:(Nat.ble args.length F.ps.length&&Nat.ble F.ps.length (args.length + F.dflt.length))=true)(hz:F.ps.zip (args++F.dflt.drop (F.dflt.length -(F.ps.length - args.length)))=loc)
  (h:cC PQ (cfd d) 1000 F.body loc S=some (.ret v,S1)):cfd (d + 1) f args S=some (v,S1):=rt hO hf hn hz h
theorem my{f:Nat}{F:Fn}{args:List AV}{loc:Loc}(hO:O5 f args S=none)(hf:PQ.fn f=some F)(hn:(Nat.ble args.length F.ps.length&&Nat.ble F.ps.length (args.length + F.dflt.length))=true)(hz:F.ps.zip (args++F.dflt.drop (F.dflt.length -(F.ps.length - args.length)))=loc)
  (h:cC PQ (cfd d) 1000 F.body loc S=some (.next loc',S1)):cfd (d + 1) f args S=some (.none,S1):=rt hO hf hn hz h
theorem ta{c:Nat}:cfd (d + 1) 83 [.str c] S=some (ak c,S):=by kernel_rfl
theorem FK{i j:Nat}(hi:S[i]?=some (.list l))(hj:S[j]?=some (.list [])):eqV S (.ref i) (.ref j)=some l.isEmpty:=by
 have li:=bV hi
 have lj:=bV hj
 have dj:isD eqN S (.ref j)=true:=(oLi hj:isD eqN S (.ref j)=eT 39 S [])
 show am (isD eqN S (.ref i)&&isD eqN S (.ref j)) (cR (eqA eqN S (.ref i) (.ref j)) some) (am (ay (bj (.ref i) S) (fun l=>!l.isEmpty) false&&ay (bj (.ref j) S) List.isEmpty false) (some false) _)=_
 rw[dj,Bool.and_true,li,lj,be]
 cases q:isD eqN S (.ref i) with
 | true=>
  show some (bQ S[i]? (fun x=>ay (bj (.ref j) S) (fun y=>eqL 39 S x y) false) false)=_
  rw[oLi hi,lj]
  cases l<;>rfl
 | false=>
  cases l with
  | nil=>exact nomatch q.symm.trans (oLi hi:isD eqN S (.ref i)=eT 39 S [])
  | cons x r=>rfl
theorem gB{i j:Nat}(hi:S[i]?=some (.list l))(hj:S[j]?=some (.list [])):iE PQ.eqt .eq (.ref i) (.ref j) S=some (.bool l.isEmpty,S)∧iE PQ.eqt .ne (.ref i) (.ref j) S=some (.bool (!l.isEmpty),S):=by
 have:=FK hi hj
 have e:eqT PQ.eqt S (.ref i) (.ref j)=some l.isEmpty:=oS this
 exact⟨oS e,(oS e).trans (be _ _)⟩
theorem B7{a c:Nat}(h:a≠c):Nat.beq a c=false:=Bool.eq_false_iff.mpr fun q=>h (Nat.eq_of_beq_eq_true q)
theorem yL:PQ.glob 80=some (.dct l80):=uc
theorem bb{i:Nat}(hi:S[i]?=some (.list l)):tA S (.ref i)=some (.live i):=oLi hi
theorem yM{a:Nat}{q:List Nat}:v8 S (.str a) (q.map .str)=some (ja a q):=by
 have h1:(isD eqN S (.str a)&&(q.map AV.str).all (isD eqN S))=true:=by
  rw[Bool.and_eq_true]
  refine⟨rfl,List.all_eq_true.mpr fun x hx=>?_⟩
  obtain⟨c,_,rfl⟩:=List.mem_map.mp hx
  rfl
 refine(bT h1).trans ((be _ _).trans (congrArg some ?_))
 clear h1
 induction q with
 | nil=>rfl
 | cons c r ih=>
  rw[List.map_cons,List.any_cons,ih]
  show(Nat.beq c a||ja a r)=(Nat.beq a c||ja a r)
  congr 1
  by_cases h:a=c
  ·subst h;rfl
  ·rw[B7 h,B7 (Ne.symm h)]
theorem yN{a i:Nat}{q:List Nat}(hi:S[i]?=some (.list (q.map .str))):iE PQ.eqt .inn (.str a) (.ref i) S=some (.bool (ja a q),S):=(oLi hi).trans ((oS yM).trans (be _ _))
noncomputable def Lx(c:Nat):Bool:=ay (cx c l80) (fun v=>eqX 60 v (.lst ((e8 c).map .str))) false
theorem B8:bD 8 (fun i=>Lx (nm i))=true:=by kernel_rfl
theorem FL{c:Nat}(h:dM c=true):cx c l80=some (.lst ((e8 c).map .str)):=by
 have h2:=n8 h
 have:=aP B8 h2.1
 rw[h2.2] at this
 exact ah this nF fun v e q=>e.trans (congrArg some ((bE 60).1 _ _ q))
theorem m8:bD 8 (fun i=>Nat.blt (e8 (nm i)).length 1000)=true:=by kernel_rfl
noncomputable def bq(p q:List Nat):Bool:=(p.filter fun c=>((e8 c).filter fun a=>ja a q).isEmpty).isEmpty
noncomputable def stP(f:Nat→Bool):AV→Bool
 | .str c=>f c
 | _=>false
theorem fe(f:Nat→Bool):∀l:List Nat,((l.map AV.str).filter (stP f)).map (fun v=>v)=(l.filter f).map .str
 | []=>rfl
 | c::r=>by
  rw[List.map_cons,List.filter_cons,List.filter_cons]
  show(if f c then _ else _:List AV).map _=_
  cases h:f c
  ·simpa [h] using fe f r
  ·simp only[if_true,List.map_cons];rw[fe f r]
theorem c0{α β:Type}(f:α→β)(l:List α):(l.map f).isEmpty=l.isEmpty:=by cases l<;>rfl
theorem tc{i j:Nat}{p q:List Nat}(hi:S[i]?=some (.list (p.map .str)))(hj:S[j]?=some (.list (q.map .str)))(hp:∀c∈p,dM c=true)(hlen:p.length < 1000):∃G,cfd (d + 1) 85 [.ref i,.ref j] S=some (.bool (bq p q),S++G):=by
 obtain⟨G,eo⟩:=jf (cf:=cfd d) (loc:=[(212,.ref i),(215,.ref j)]) (it:=.of (.var 212)) (tg:=[201]) (ifs:=[.val (.cmp .eq (.comp (.var 95) [.mk [95] (.of (.sub (.glob 80) (.var 201))) [.val (.cmp .inn (.var 95) (.var 215))]]) (.list []))]) (elt:=.var 201)
  (p:=stP fun c=>((e8 c).filter fun a=>ja a q).isEmpty) (g:=fun v=>v) (fW (ag rfl) (bb hi)) (.inr ⟨i,rfl,hi⟩) (by rw[List.length_map];exact hlen) (fun v hv=>by
   obtain⟨c,hc,rfl⟩:=List.mem_map.mp hv
   refine⟨[(212,.ref i),(215,.ref j),(201,.str c)],rfl,fun G=>⟨?_,fun _=>⟨[],by rw[List.append_nil];exact ag rfl⟩⟩⟩
   have hn:=hp c hc
   have hn2:=n8 hn
   have hcl:=aP m8 hn2.1
   rw[hn2.2] at hcl
   obtain⟨G1,e1⟩:=jf (cf:=cfd d) (loc:=[(212,.ref i),(215,.ref j),(201,.str c)]) (S:=S++G) (it:=.of (.sub (.glob 80) (.var 201))) (tg:=[95]) (ifs:=[.val (.cmp .inn (.var 95) (.var 215))]) (elt:=.var 95)
    (p:=stP fun a=>ja a q) (g:=fun v=>v) (fW (src:=.items ((e8 c).map .str)) (cw (yH yL) (ag rfl) (show rS (.dct l80) (.str c) (S++G)=some (.lst ((e8 c).map .str),S++G) from oS (FL hn))) rfl) (.inl rfl) (by rw[List.length_map];exact cK hcl) (fun v hv=>by
     obtain⟨a,_,rfl⟩:=List.mem_map.mp hv
     exact⟨[(212,.ref i),(215,.ref j),(201,.str c),(95,.str a)],rfl,fun G'=>⟨⟨[],by rw[List.append_nil];exact iL (bI (b9 (ag rfl) (ag rfl) (yN (af (af hj)))))⟩,fun _=>⟨[],by rw[List.append_nil];exact ag rfl⟩⟩⟩)
   rw[fe] at e1
   have g1:(((S++G)++[AO.list ((List.filter (fun a=>ja a q) (e8 c)).map .str)])++G1)[(S++G).length]?=some (.list ((List.filter (fun a=>ja a q) (e8 c)).map .str)):=af aw
   have cn:=(gB (af (G:=[AO.list []]) g1) aw).1
   rw[c0] at cn
   refine⟨[AO.list ((List.filter (fun a=>ja a q) (e8 c)).map .str)]++G1++[.list []],?_⟩
   exact(iL (bI (b9 (cf:=cfd d) e1 (r_list aF) cn))).trans (by simp[stP,List.append_assoc]))
 rw[fe] at eo
 have g1:((S++[AO.list ((List.filter (fun c=>((e8 c).filter fun a=>ja a q).isEmpty) p).map .str)])++G)[S.length]?=some (.list ((List.filter (fun c=>((e8 c).filter fun a=>ja a q).isEmpty) p).map .str)):=af aw
 have cn:=(gB (af (G:=[AO.list []]) g1) aw).1
 rw[c0] at cn
 refine⟨[AO.list ((List.filter (fun c=>((e8 c).filter fun a=>ja a q).isEmpty) p).map .str)]++G++[.list []],?_⟩
 refine bH (F:=f85) rfl (by kernel_rfl) rfl rfl ?_
 exact(d7 (sts:=[]) (dC (b9 eo (r_list aF) cn))).trans (by simp[bq,List.append_assoc])
end Mine
end
section
namespace Mine
variable {cf:CF} {loc loc1 loc' loc2:Loc} {S S1 S2 S3 T G:aa} {v u a b k:AV} {vs:List AV} {e e1 e2 t:IE} {l:List AV} {d:Nat}
noncomputable def inP(f:Nat→Bool):AV→Bool
 | .int i=>(match i with | .ofNat n=>f n | .negSucc _=>false)
 | _=>false
noncomputable abbrev aX(l:List Nat):List AV:=l.map fun k=>.int (Int.ofNat k)
theorem ig(f:Nat→Bool):∀l:List Nat,((aX l).filter (inP f)).map (fun v=>v)=aX (l.filter f)
 | []=>rfl
 | c::r=>by
  unfold aX
  rw[List.map_cons,List.filter_cons,List.filter_cons]
  show(if f c then _ else _:List AV).map _=_
  cases h:f c with
  | false=>simp only[Bool.false_eq_true,if_false];exact ig f r
  | true=>simp only[if_true,List.map_cons];exact congrArg _ (ig f r)
noncomputable def cV(S:aa)(i:Nat)(p:List Nat):Prop:=S[i]?=some (.list (p.map .str))
structure fg(S:aa)(i:Nat)(R:List (List Nat))(js:List Nat):Prop where
 at_:S[i]?=some (.list (js.map .ref))
 len:js.length=R.length
 part:∀(k j:Nat) (p:List Nat),js[k]?=some j→R[k]?=some p→cV S j p
theorem fg.app{i:Nat}{R:List (List Nat)}{js:List Nat}(h:fg S i R js):fg (S++G) i R js:=⟨af h.at_,h.len,fun k j p e e'=>af (h.part k j p e e')⟩
structure cc(R:List (List Nat)):Prop where
 len:R.length=1∨R.length=2
 okl:∀p∈R,okL p=true
 nam:∀p∈R,∀a∈p,dM a=true
theorem us{p:List Nat}(h:okL p=true):p.length < 1000:=lf (G:=fun p=>p.length < 1000) h (fun _=>Nat.le_of_ble_eq_true rfl) fun _ _=>Nat.le_of_ble_eq_true rfl
noncomputable def bc(R Q:List (List Nat)):Bool:=(R.length==Q.length)&&((List.range R.length).filter fun k=>!bq (R.getD k []) (Q.getD k [])).isEmpty
theorem jg{x y:Nat}:iE PQ.eqt .ne (.int x) (.int y) S=some (.bool (!(x==y)),S):=by
 have e0:eqV S (.int (x:Int)) (.int (y:Int))=cR ((x:Int)==(y:Int)) some:=rfl
 have this:eqT PQ.eqt S (.int (x:Int)) (.int (y:Int))=some ((x:Int)==(y:Int)):=by
  exact oS (e0.trans (be _ _))
 refine(oS this).trans ((be _ _).trans ?_)
 have e:((x:Int)==(y:Int))=(x==y):=by
  by_cases h:x=y
  ·subst h;rw[beq_self_eq_true,beq_self_eq_true]
  ·have:¬(x:Int)=(y:Int):=fun z=>h (Int.ofNat.inj z)
   rw[beq_eq_false_iff_ne.mpr this,beq_eq_false_iff_ne.mpr h]
 rw[e]
theorem dD{α:Type}{l:List α}{k:Nat}{x:α}{dv:α}(h:l[k]?=some x):l.getD k dv=x:=by rw[List.getD_eq_getElem?_getD,h];rfl
theorem dO{α β:Type}{l:List α}{f:α→β}{k:Nat}{x:α}(h:l[k]?=some x):(l.map f)[k]?=some (f x):=by rw[List.getElem?_map,h];rfl
theorem bt{α:Type}{l:List α}{k:Nat}(h:k < l.length):∃x,l[k]?=some x:=⟨_,List.getElem?_eq_getElem h⟩
theorem cA{i j:Nat}{R Q:List (List Nat)}{is js:List Nat}(hi:fg S i R is)(hj:fg S j Q js)(ok:cc R):∃G,cfd (d + 2) 86 [.ref i,.ref j] S=some (.bool (bc R Q),S++G):=by
 have ne:iE PQ.eqt .ne (.int ((is.map AV.ref).length:Nat)) (.int ((js.map AV.ref).length:Nat)) S=some (.bool (!(R.length==Q.length)),S):=by
  rw[jg,List.length_map,List.length_map,hi.len,hj.len]
 have t1:=bI (b9 (cf:=cfd (d + 1)) (iK (az (ag (x:=212) (loc:=[(212,.ref i),(215,.ref j)]) rfl) aF) (gA hi.at_)) (iK (az (ag (x:=215) rfl) aF) (gA hj.at_)) ne)
 cases hq:R.length==Q.length with
 | false=>
  rw[hq] at t1
  refine⟨[],?_⟩
  refine bH (F:=f86) rfl (by kernel_rfl) rfl rfl ?_
  exact(d7 (cN t1 (d7 (sts:=[]) (dC yG)))).trans (by simp[bc,hq])
 | true=>
  rw[hq] at t1
  have hl:R.length=Q.length:=eq_of_beq hq
  have hR:R.length < 1000:=by rcases ok.len with h | h<;>rw[h]<;>decide
  obtain⟨G,eo⟩:=jf (cf:=cfd (d + 1)) (loc:=[(212,.ref i),(215,.ref j)]) (it:=.rng (.bi .len [.var 212])) (tg:=[106]) (ifs:=[.not (.val (.call 85 [.sub (.var 212) (.var 106),.sub (.var 215) (.var 106)]))]) (elt:=.var 106)
   (p:=inP fun k=>!bq (R.getD k []) (Q.getD k [])) (g:=fun v=>v) (l:=aX (List.range R.length)) (S:=S) (S1:=S) (src:=.items (aX (List.range R.length)))
   (by
    have:=n9 (cf:=cfd (d + 1)) (loc:=[(212,.ref i),(215,.ref j)]) (iK (az (ag (x:=212) rfl) aF) (gA hi.at_)) (Int.natCast_nonneg _) (by rw[List.length_map,hi.len];omega)
    rw[List.length_map,hi.len] at this
    exact this) (.inl rfl) (by simpa using hR) (fun v hv=>by
    obtain⟨k,hk,rfl⟩:=List.mem_map.mp hv
    have hk:=List.mem_range.mp hk
    obtain⟨p,hp⟩:=bt (l:=R) hk
    obtain⟨q,hq⟩:=bt (l:=Q) (hl▸hk)
    obtain⟨x,hx⟩:=bt (l:=is) (by rw[hi.len];exact hk)
    obtain⟨y,hy⟩:=bt (l:=js) (by rw[hj.len,←hl];exact hk)
    refine⟨[(212,.ref i),(215,.ref j),(106,.int (Int.ofNat k))],rfl,fun G=>⟨?_,fun _=>⟨[],by rw[List.append_nil];exact ag rfl⟩⟩⟩
    have pm:=List.mem_of_getElem? hp
    obtain⟨G1,eu⟩:=tc (d:=d) (S:=S++G) (af (hi.part k x p hx hp)) (af (hj.part k y q hy hq)) (ok.nam p pm) (us (ok.okl p pm))
    refine⟨G1,?_⟩
    have:=iL (yK (bI (bO (cf:=cfd (d + 1)) (f:=85) (az (cw (ag (x:=212) (loc:=[(212,.ref i),(215,.ref j),(106,.int (Int.ofNat k))]) rfl) (ag (x:=106) rfl) (bw (af (G:=G) hi.at_) (dO hx))) (az (cw (ag (x:=215) rfl) (ag (x:=106) rfl) (bw (af (G:=G) hj.at_) (dO hy))) aF)) eu)))
    refine this.trans ?_
    show some (!bq p q,_)=some (!bq (R.getD k []) (Q.getD k []),_)
    rw[dD hp,dD hq])
  rw[ig] at eo
  have g1:=af (G:=G) (aw (S:=S) (o:=.list (aX ((List.range R.length).filter fun k=>!bq (R.getD k []) (Q.getD k [])))))
  have cn:=(gB (af (G:=[AO.list []]) g1) aw).1
  rw[c0] at cn
  refine⟨[AO.list (aX ((List.range R.length).filter fun k=>!bq (R.getD k []) (Q.getD k [])))]++G++[.list []],?_⟩
  refine bH (F:=f86) rfl (by kernel_rfl) rfl rfl ?_
  exact(aK (cN t1 b6) (d7 (sts:=[]) (dC (b9 eo (r_list aF) cn)))).trans (by simp[bc,hq,List.append_assoc])
end Mine
end
section
namespace Mine
variable {cf:CF} {loc loc1 loc' loc2:Loc} {S S1 S2 S3 T G:aa} {v u a b k:AV} {vs:List AV} {e e1 e2 t:IE} {l:List AV} {d:Nat}
theorem fX{f:Nat}{args:List AV}{r:AV×aa}(h:O5 f args S=some r):∀d,cfd d f args S=some r
 | 0=>h
 | _ + 1=>oS h
theorem rz:∀{p:List Nat},(∀a∈p,dM a=true)→B3 (p.map ak)=some p
 | [],_=>rfl
 | a::r,h=>(oS (rz fun b hb=>h b (List.mem_cons_of_mem _ hb))).trans (bT (jQ (jQ (Nat.beq_refl a) rfl) (h a List.mem_cons_self)))
theorem te{i:Nat}{p:List Nat}(hi:S[i]?=some (.list (p.map ak)))(hp:okL p=true)(hn:∀a∈p,dM a=true):cfd d 3 [.ref i] S=some (kOf p,S):=by
 refine fX ?_ d
 exact(bT (jQ (Nat.beq_refl i) rfl)).trans ((oLi hi).trans ((oS (rz hn)).trans (bT hp)))
theorem mz:∀p:List Nat,oE (p.map .str)=some p
 | []=>rfl
 | _::r=>oS (mz r)
noncomputable def gK(S:aa)(v:AV):AV:=dH v (fun j=>bQ S[j]? (fun l=>ay (oE l) kOf .none) .none) .none
theorem Db{j:Nat}{p:List Nat}(h:cV S j p):gK S (.ref j)=kOf p:=(oLi h).trans (oS (mz p))
theorem yO{R:List (List Nat)}{js:List Nat}(len:js.length=R.length)(part:∀(k j:Nat) (p:List Nat),js[k]?=some j→R[k]?=some p→cV S j p):(js.map AV.ref).map (gK S)=R.map kOf:=by
 refine List.ext_getElem? fun k=>?_
 rw[List.map_map,List.getElem?_map,List.getElem?_map]
 rcases Nat.lt_or_ge k js.length with h | h
 ·obtain⟨j,hj⟩:=bt h
  obtain⟨p,hp⟩:=bt (l:=R) (len▸h)
  rw[hj,hp]
  exact congrArg some (Db (part k j p hj hp))
 ·rw[List.getElem?_eq_none h,List.getElem?_eq_none (len▸h)];rfl
noncomputable def IN(v:AV):AV:=gY v ak .none
theorem yP(p:List Nat):(p.map AV.str).map IN=p.map ak:=by rw[List.map_map];rfl
theorem kK(l:List AV):l.filter (fun _=>true)=l:=by simp
theorem fh{R:List (List Nat)}(ok:cc R):aL (R.map kOf)=aD (R.map kx)∧aZ (R.map kx):=by
 have each:∀p∈R,kOf p=kd (kx p)∧kx p < 29:=fun p hp=>s8 (ok.okl p hp) (ok.nam p hp)
 constructor
 ·unfold aD
  rw[List.map_map]
  congr 1
  exact List.map_congr_left fun p hp=>(each p hp).1
 ·rcases ok.len with h | h
  ·match R,h with
   | [p],_=>exact .inl ⟨kx p,rfl,(each p (by simp)).2⟩
  ·match R,h with
   | [p,q],_=>exact .inr ⟨kx p,kx q,rfl,(each p (by simp)).2,(each q (by simp)).2⟩
theorem kg{i j:Nat}{l1 l2:List AV}(hi:S[i]?=some (.list l1))(hj:S[j]?=some (.list l2))(h:(l1++l2).length≤lim):pV PQ.emp .add (.ref i) (.ref j) S=some (.ref S.length,S++[.list (l1++l2)]):=(oS (bV hi)).trans ((oS (bV hj)).trans ((bT (Nat.ble_eq_true_of_le h)).trans aR))
theorem vK{i:Nat}(hi:S[i]?=some (.list l)):biV .tuple [.ref i] S=some (.tup l,S):=oS (bV hi)
theorem mB{i:Nat}{R:List (List Nat)}{js:List Nat}(hi:fg S i R js)(ok:cc R):∃G,cfd (d + 2) 87 [.ref i] S=some (aD (R.map kx),S++G):=by
 have hR:R.length≤2:=by rcases ok.len with h | h<;>omega
 obtain⟨G,eo⟩:=jf (cf:=cfd (d + 1)) (loc:=[(221,.ref i)]) (it:=.of (.var 221)) (tg:=[220]) (ifs:=[]) (elt:=.call 3 [.comp (.call 83 [.var 201]) [.mk [201] (.of (.var 220)) []]]) (p:=fun _=>true) (g:=gK S) (fW (ag rfl) (bb hi.at_)) (.inr ⟨i,rfl,hi.at_⟩) (by rw[List.length_map,hi.len];omega) (fun v hv=>by
   obtain⟨j,hj,rfl⟩:=List.mem_map.mp hv
   obtain⟨k,hk,ek⟩:=List.getElem_of_mem hj
   have gk:js[k]?=some j:=by rw[List.getElem?_eq_getElem hk,ek]
   obtain⟨p,hp⟩:=bt (l:=R) (hi.len▸hk)
   have pm:=List.mem_of_getElem? hp
   have pa:=hi.part k j p gk hp
   refine⟨[(221,.ref i),(220,.ref j)],rfl,fun G=>⟨⟨[],by rw[List.append_nil];exact FJ⟩,fun _=>?_⟩⟩
   obtain⟨G1,e1⟩:=jf (cf:=cfd (d + 1)) (loc:=[(221,.ref i),(220,.ref j)]) (S:=S++G) (it:=.of (.var 220)) (tg:=[201]) (ifs:=[]) (elt:=.call 83 [.var 201]) (p:=fun _=>true) (g:=IN) (fW (ag rfl) (bb (af pa))) (.inr ⟨j,rfl,af pa⟩) (by rw[List.length_map];exact us (ok.okl p pm)) (fun v hv=>by
     obtain⟨c,_,rfl⟩:=List.mem_map.mp hv
     exact⟨[(221,.ref i),(220,.ref j),(201,.str c)],rfl,fun G'=>⟨⟨[],by rw[List.append_nil];exact FJ⟩,fun _=>⟨[],by rw[List.append_nil];exact bO (az (ag (x:=201) rfl) aF) ta⟩⟩⟩)
   rw[kK,yP] at e1
   have g1:=af (G:=G1) (aw (S:=S++G) (o:=.list (p.map ak)))
   refine⟨[AO.list (p.map ak)]++G1,?_⟩
   exact(bO (az e1 aF) (te g1 (ok.okl p pm) (ok.nam p pm))).trans (by rw[Db pa];simp[List.append_assoc]))
 rw[kK,yO hi.len hi.part] at eo
 have g1:=af (G:=G) (aw (S:=S) (o:=.list (R.map kOf)))
 have g2:=af (G:=[AO.list [.tup [.str 135,.str 131]]]) g1
 have ad:=kg (l1:=[.tup [.str 135,.str 131]]) (aw (S:=(S++[AO.list (R.map kOf)])++G)) g2 (by rw[List.length_append,List.length_map];exact Nat.le_trans (Nat.add_le_add_left hR 1) (by decide))
 refine⟨[AO.list (R.map kOf)]++G++[.list [.tup [.str 135,.str 131]]]++[.list ([.tup [.str 135,.str 131]]++R.map kOf)],?_⟩
 refine bH (F:=f87) rfl (by kernel_rfl) rfl rfl ?_
 refine(aK (bl eo) (d7 (sts:=[]) (dC (rp (az iR (az (iK (az (cM (r_list (az (rp (az iR (az iR aF))) aF)) (ag rfl) ad) aF) (vK aw)) (az fH aF))))))).trans ?_
 rw[←(fh ok).1]
 simp[aL,fnV,List.append_assoc]
noncomputable def jh(e:AV)(w:Int):Bool:=fs e (fun x=>decide (w < x)) true
theorem yQ{x y:Int}:iE PQ.eqt .le (.int x) (.int y) S=some (.bool (decide (x≤y)),S):=be (decide (x≤y)) fun b=>some (AV.bool b,S)
theorem yR{x y:Int}:iE PQ.eqt .lt (.int x) (.int y) S=some (.bool (decide (x < y)),S):=be (decide (x < y)) fun b=>some (AV.bool b,S)
theorem oh{w:Int}{ev:AV}{ee ew:IE}(he:ev=.none∨∃x,ev=.int x)(h:evE PQ cf 1000 ee loc S=some (ev,S))(hw:evE PQ cf 1000 ew loc S=some (.int w,S)):evE PQ cf 1000 (.or [.cmp .isNone ee .none,.cmp .lt ew ee]) loc S=some (.bool (jh ev w),S):=by
 rcases he with rfl | ⟨x,rfl⟩
 ·exact C9 (p:=true) (b9 h fH rfl) rfl
 ·exact C9 (p:=false) (b9 h fH rfl) (b9 hw h yR)
theorem tf{s q k:Nat}{sp:List AV}{b w:Int}{ev:AV}(hs:S[s]?=some (.list sp))(hk:sp[k]?=some (.ref q))(hq:S[q]?=some (.list [.int b,ev]))(he:ev=.none∨∃x,ev=.int x):
  cfd (d + 1) 88 [.ref s,.int k,.int w] S=some (.bool (decide (b≤w)&&jh ev w),S):=by
 refine bH (F:=f88) rfl (by kernel_rfl) rfl rfl ?_
 have s0:evE PQ (cfd d) 1000 (.sub (.sub (.var 246) (.var 106)) (.int 0)) [(246,.ref s),(106,.int k),(295,.int w)] S=some (.int b,S):=cw (cw (ag rfl) (ag rfl) (bw hs hk)) bk (bw (k:=0) hq rfl)
 have s1:evE PQ (cfd d) 1000 (.sub (.sub (.var 246) (.var 106)) (.int 1)) [(246,.ref s),(106,.int k),(295,.int w)] S=some (ev,S):=cw (cw (ag rfl) (ag rfl) (bw hs hk)) bk (bw (k:=1) hq rfl)
 refine d7 (dC (yJ (b9 s0 (ag rfl) yQ) ?_))
 cases decide (b≤w) with
 | false=>rfl
 | true=>exact oh he s1 (ag rfl)
theorem pO{i:Nat}{x1 x2 x3 x4:AV}{b w:Int}{ev:AV}(hi:S[i]?=some (.inst 3 [(243,x1),(140,x2),(143,x3),(283,x4),(107,.int b),(129,ev)]))(he:ev=.none∨∃x,ev=.int x):cfd (d + 1) 55 [.ref i,.int w] S=some (.bool (decide (b≤w)&&jh ev w),S):=by
 refine bH (F:=f55) rfl (by kernel_rfl) rfl rfl ?_
 have s0:evE PQ (cfd d) 1000 (.attr (.var 238) 107) [(238,.ref i),(295,.int w)] S=some (.int b,S):=bW (ag rfl) (aW hi rfl rfl)
 have s1:evE PQ (cfd d) 1000 (.attr (.var 238) 129) [(238,.ref i),(295,.int w)] S=some (ev,S):=bW (ag rfl) (aW hi rfl rfl)
 refine d7 (dC (yJ (b9 s0 (ag rfl) yQ) ?_))
 cases decide (b≤w) with
 | false=>rfl
 | true=>exact oh he s1 (ag rfl)
end Mine
end
section
namespace Mine
variable {cf:CF} {loc loc1 loc' loc2:Loc} {S S1 S2 S3 T G:aa} {v u a b k:AV} {vs:List AV} {e e1 e2 t:IE} {l:List AV} {d:Nat}
noncomputable def yS(l:List AV)(stop:Nat→Bool)(Inv:Nat→Loc→aa→Prop)(Post:Nat→AV→aa→Prop)(r:Option (Fl×aa)):Prop:=
 (∃k,k < l.length∧stop k=true∧(∀j,j < k→stop j=false)∧∃v T,r=some (.ret v,T)∧Post k v T)∨((∀j,j < l.length→stop j=false)∧∃loc T,r=some (.next loc,T)∧Inv l.length loc T)
noncomputable def FM(f:AV→Loc→aa→Option (Fl×aa))(l:List AV)(stop:Nat→Bool)(Inv:Nat→Loc→aa→Prop)(Post:Nat→AV→aa→Prop):Prop:=
 ∀k v loc T,l[k]?=some v→Inv k loc T→(stop k=true→∃r T',f v loc T=some (.ret r,T')∧Post k r T')∧(stop k=false→∃loc' T',f v loc T=some (.next loc',T')∧Inv (k + 1) loc' T')
theorem oj{f:AV→Loc→aa→Option (Fl×aa)}{i:Nat}{stop:Nat→Bool}{Inv:Nat→Loc→aa→Prop}{Post:Nat→AV→aa→Prop}(hi:∀k loc T,Inv k loc T→T[i]?=some (.list l))(H:FM f l stop Inv Post):
  ∀(n k:Nat) (loc:Loc) (T:aa),l.length - k < n→k≤l.length→(∀j,j < k→stop j=false)→Inv k loc T→yS l stop Inv Post (rQ f i n k loc T)
 | 0,k,loc,T,h,_,_,_=>absurd h (Nat.not_lt_zero _)
 | n + 1,k,loc,T,h,hk,hb,I=>by
  have hL:∀r,ay l[k]? (fun v=>bnd (f v loc T) fun x S=>jo x (fun a=>rQ f i n (k + 1) a S) fun u=>some (.ret u,S)) (some (.next loc,T))=r→rQ f i (n + 1) k loc T=r:=fun _ e=>(oLi (hi k loc T I)).trans e
  cases e:l[k]? with
  | none=>
   have q:k=l.length:=Nat.le_antisymm hk (by simpa using e)
   subst q
   exact .inr ⟨hb,loc,T,hL _ (oN e),I⟩
  | some v=>
   have lk:=ae e
   obtain⟨h1,h2⟩:=H k v loc T e I
   cases hs:stop k with
   | true=>
    obtain⟨r,T',e1,p⟩:=h1 hs
    exact .inl ⟨k,lk,hs,hb,r,T',hL _ ((oS e).trans (av e1)),p⟩
   | false=>
    obtain⟨loc',T',e1,I'⟩:=h2 hs
    have:=oj hi H n (k + 1) loc' T' (by omega) (by omega) (fun j hj=>by
     rcases Nat.lt_succ_iff_lt_or_eq.mp hj with q | rfl
     ·exact hb j q
     ·exact hs) I'
    rw[hL _ ((oS e).trans (av e1))];exact this
theorem vL{f:AV→Loc→aa→Option (Fl×aa)}{stop:Nat→Bool}{Inv:Nat→Loc→aa→Prop}{Post:Nat→AV→aa→Prop}(H:FM f l stop Inv Post):
  ∀(k:Nat) (loc:Loc) (T:aa),k≤l.length→(∀j,j < k→stop j=false)→Inv k loc T→yS l stop Inv Post (uE f (l.drop k) loc T):=by
 intro k
 generalize hm:l.length - k=m
 induction m generalizing k with
 | zero=>
  intro loc T hk hb I
  have q:k=l.length:=by omega
  subst q
  rw[List.drop_length]
  exact .inr ⟨hb,loc,T,rfl,I⟩
 | succ m ih=>
  intro loc T hk hb I
  have lk:k < l.length:=by omega
  obtain⟨v,e⟩:=bt lk
  have hd:l.drop k=v::l.drop (k + 1):=by
   rw[List.drop_eq_getElem_cons lk]
   rw[List.getElem?_eq_getElem lk] at e
   rw[Option.some.inj e]
  rw[hd]
  obtain⟨h1,h2⟩:=H k v loc T e I
  unfold uE
  cases hs:stop k with
  | true=>
   obtain⟨r,T',e1,p⟩:=h1 hs
   exact .inl ⟨k,lk,hs,hb,r,T',av e1,p⟩
  | false=>
   obtain⟨loc',T',e1,I'⟩:=h2 hs
   rw[av e1]
   exact ih (k + 1) (by omega) loc' T' (by omega) (fun j hj=>by
     rcases Nat.lt_succ_iff_lt_or_eq.mp hj with q | rfl
     ·exact hb j q
     ·exact hs) I'
noncomputable def yT(cf:CF)(tg:List Nat)(b:List IS)(v:AV)(loc:Loc)(S:aa):Option (Fl×aa):=ay (cy tg v loc) (fun loc'=>cC PQ cf 1000 b loc' S) none
theorem bL{tg:List Nat}{b:List IS}{r:Option (Fl×aa)}(h:cy tg v loc=some loc')(q:cC PQ cf 1000 b loc' S=r):yT cf tg b v loc S=r:=(oS h).trans q
theorem jG{tg:List Nat}{it:It}{b:List IS}{src:Src}{stop:Nat→Bool}{Inv:Nat→Loc→aa→Prop}{Post:Nat→AV→aa→Prop}(h:evI PQ cf 1000 it loc S=some (src,S1))(hs:src=.items l∨∃i,src=.live i∧∀k loc T,Inv k loc T→T[i]?=some (.list l))(hl:l.length < 1000)
  (I0:Inv 0 loc S1)(H:FM (yT cf tg b) l stop Inv Post):yS l stop Inv Post (evS PQ cf 1000 (.for tg it b) loc S):=by
 have key:evS PQ cf 1000 (.for tg it b) loc S=Dl (yT cf tg b) 1000 src loc S1:=av h
 rw[key]
 rcases hs with rfl | ⟨i,rfl,hi⟩
 ·exact vL H 0 loc S1 (Nat.zero_le _) (fun j hj=>absurd hj (Nat.not_lt_zero _)) I0
 ·exact oj hi H 1000 0 loc S1 (by omega) (Nat.zero_le _) (fun j hj=>absurd hj (Nat.not_lt_zero _)) I0
theorem yS.all{stop:Nat→Bool}{Inv:Nat→Loc→aa→Prop}{Post:Nat→AV→aa→Prop}{r:Option (Fl×aa)}(h:yS l stop Inv Post r)(q:∀j,j < l.length→stop j=false):∃loc T,r=some (.next loc,T)∧Inv l.length loc T:=by
 rcases h with⟨k,hk,hs,_⟩ | ⟨_,h⟩
 ·rw[q k hk] at hs;cases hs
 ·exact h
end Mine
end
section
namespace Mine
variable {cf:CF} {loc loc1 loc' loc2:Loc} {S S1 S2 S3 T G:aa} {v u a b k:AV} {vs:List AV} {e e1 e2 t:IE} {l:List AV} {d:Nat}
structure Rw where
 parts:List (List Nat)
 b:Int
 e:AV
structure fi(S:aa)(t dd:Nat)(hs:List Nat)(rows:List Rw)(w:Int):Prop where
 tab:S[t]?=some (.inst 4 [(173,KK),(231,.ref dd),(295,.int w)])
 dic:(rows=[]∧S[dd]?=some (.dict []))∨∃rl,S[dd]?=some (.dict [(131,.ref rl)])∧S[rl]?=some (.list (hs.map .ref))
 len:hs.length=rows.length
 row:∀(k i:Nat) (rw:Rw),hs[k]?=some i→rows[k]?=some rw→∃n x,S[i]?=some (.inst 3 [(243,aD (rw.parts.map kx)),(140,.none),(143,.int n),(283,x),(107,.int rw.b),(129,rw.e)])
 ok:∀rw∈rows,cc rw.parts∧(rw.e=.none∨∃x,rw.e=.int x)
 nd:hs.Nodup
 few:rows.length≤4
theorem fi.app{t dd:Nat}{hs:List Nat}{rows:List Rw}{w:Int}(h:fi S t dd hs rows w):fi (S++G) t dd hs rows w:=
 ⟨af h.tab,h.dic.elim (fun q=>.inl ⟨q.1,af q.2⟩) fun⟨rl,q⟩=>.inr ⟨rl,af q.1,af q.2⟩,h.len,fun k i rw e e'=>let⟨n,x,g⟩:=h.row k i rw e e';⟨n,x,af g⟩,h.ok,h.nd,h.few⟩
noncomputable def om(r:Rw)(w:Int):Bool:=decide (r.b≤w)&&jh r.e w
noncomputable def dE(rows:List Rw)(k:Nat):Rw:=rows.getD k ⟨[],0,.none⟩
noncomputable def kL(rows:List Rw)(w:Int):List Nat:=(List.range rows.length).filter fun k=>om (dE rows k) w
noncomputable abbrev bP(hs:List Nat)(k:Nat):AV:=.ref (hs.getD k 0)
theorem th(hs:List Nat):hs.map AV.ref=(List.range hs.length).map (bP hs):=by
 refine List.ext_getElem? fun k=>?_
 rw[List.getElem?_map,List.getElem?_map]
 rcases Nat.lt_or_ge k hs.length with h | h
 ·rw[List.getElem?_range h,List.getElem?_eq_getElem h]
  show some (AV.ref hs[k])=some (bP hs k)
  unfold bP
  rw[dD (List.getElem?_eq_getElem h)]
 ·rw[List.getElem?_eq_none h,List.getElem?_eq_none (by simpa using h)];rfl
noncomputable def pL(S:aa)(w:Int)(v:AV):Bool:=dH v (fun i=>gO S[i]? (fun _ l=>ay (l[4]?) (fun p=>fs p.2 (fun b=>ay (l[5]?) (fun q=>decide (b≤w)&&jh q.2 w) false) false) false) false) false
theorem Dc{i c:Nat}{n1 n2 n3 n4 n5 n6:Nat}{x1 x2 x3 x4 ev:AV}{b w:Int}(h:S[i]?=some (.inst c [(n1,x1),(n2,x2),(n3,x3),(n4,x4),(n5,.int b),(n6,ev)])):pL S w (.ref i)=(decide (b≤w)&&jh ev w):=oI h
theorem c4{i c m f:Nat}{fl:List (Nat×AV)}(h:S[i]?=some (.inst c fl))(hc:(PQ.init c).isSome=true)(hd:cx m fl=none)(hm:PQ.meth c m=some f):jp PQ (.ref i) m S=some (.fn f):=by
 obtain⟨g,hg⟩:=Option.isSome_iff_exists.mp hc
 exact(oI h).trans ((oS hg).trans ((oN hd).trans (oS hm)))
theorem oIl{β:Type}{k:Nat→List (Nat×AV)→β}{d:β}{o:Option AO}{x:List AV}(h:o=some (.list x)):gO o k d=d:=by rw[h];rfl
theorem oId{β:Type}{k:Nat→List (Nat×AV)→β}{d:β}{o:Option AO}{x:List (Nat×AV)}(h:o=some (.dict x)):gO o k d=d:=by rw[h];rfl
theorem oLd{β:Type}{k:List AV→β}{d:β}{o:Option AO}{x:List (Nat×AV)}(h:o=some (.dict x)):bQ o k d=d:=by rw[h];rfl
theorem b4{i m:Nat}(h:S[i]?=some (.list l)):jp PQ (.ref i) m S=some .lst:=(oIl h).trans (oLi h)
theorem dY{i m:Nat}{dl:List (Nat×AV)}(h:S[i]?=some (.dict dl)):jp PQ (.ref i) m S=some .dct:=(oId h).trans ((oLd h).trans (oDi h))
theorem fm{i:Nat}(h:S[i]?=some (.list l))(hl:l.length < lim):d8 PQ cf .lst (.ref i) 102 [v] S=some (.none,setAt S i (.list (l++[v]))):=
 (oLi h).trans ((show ly PQ i l 102 [v] S=_ from bT (Nat.ble_eq_true_of_le (Nat.succ_le_of_lt hl))).trans ((aB _ _).trans bU))
theorem mF{i c:Nat}{dl:List (Nat×AV)}(h:S[i]?=some (.dict dl)):d8 PQ cf .dct (.ref i) 142 [.str c,v] S=some ((cx c dl).getD v,S):=(oDi h).trans (by
 show ay (cx c dl) (fun v=>some (v,S)) (some (v,S))=_
 cases cx c dl<;>rfl)
theorem cO:(PQ.init 4).isSome=true:=by kernel_rfl
theorem ii:(PQ.init 3).isSome=true:=by kernel_rfl
theorem B9{t dd c:Nat}{hs:List Nat}{rows:List Rw}{w:Int}{le ne:IE}(h:fi S t dd hs rows w)(ht:evE PQ cf 1000 le loc S=some (.ref t,S))(hn:∀T,evE PQ cf 1000 ne loc T=some (.str c,T))(hc:c=131∨c=141):
  ∃r,evE PQ cf 1000 (.meth (.attr le 231) 142 [ne,.list []]) loc S=some (.ref r,S++[.list []])∧(S++[AO.list []])[r]?=some (.list (if c=131 then hs.map .ref else [])):=by
 have ha:evE PQ cf 1000 (.attr le 231) loc S=some (.ref dd,S):=bW ht (aW h.tab cO rfl)
 rcases h.dic with⟨q,hd⟩ | ⟨rl,hd,hl⟩
 ·subst q
  have hz:hs=[]:=List.eq_nil_of_length_eq_zero h.len
  subst hz
  refine⟨S.length,b5 ha (dY hd) (az (hn S) (az (r_list aF) aF)) ((mF (af hd)).trans rfl),?_⟩
  rw[aw];split<;>rfl
 ·rcases hc with rfl | rfl
  ·exact⟨rl,b5 ha (dY hd) (az (hn S) (az (r_list aF) aF)) ((mF (af hd)).trans rfl),by rw[if_pos rfl];exact af hl⟩
  ·exact⟨S.length,b5 ha (dY hd) (az (hn S) (az (r_list aF) aF)) ((mF (af hd)).trans rfl),by rw[if_neg (by decide)];exact aw⟩
theorem Ca:PQ.meth 3 161=some 55:=by kernel_rfl
theorem vM{t dd c:Nat}{hs:List Nat}{rows:List Rw}{w w':Int}(h:fi S t dd hs rows w)(hc:c=131∨c=141):
  ∃r G,cfd (d + 2) 58 [.ref t,.str c,.int w'] S=some (.ref r,S++G)∧S.length≤r∧(S++G)[r]?=some (.list (if c=131 then(kL rows w').map (bP hs) else [])):=by
 obtain⟨r,e1,g1⟩:=B9 (cf:=cfd (d + 1)) (loc:=[(238,.ref t),(201,.str c),(295,.int w')]) (le:=.var 238) (ne:=.var 201) h (ag rfl) (fun T=>ag rfl) hc
 have h':=h.app (G:=[AO.list []])
 obtain⟨G,eo⟩:=jf (cf:=cfd (d + 1)) (loc:=[(238,.ref t),(201,.str c),(295,.int w')]) (it:=.of (.meth (.attr (.var 238) 231) 142 [.var 201,.list []])) (tg:=[230]) (ifs:=[.val (.meth (.var 230) 161 [.var 295])]) (elt:=.var 230) (p:=pL S w') (g:=fun v=>v)
  (fW e1 (bb g1)) (.inr ⟨r,rfl,g1⟩) (by have:=h.len;have:=h.few;split<;>simp<;>omega) (fun v hv=>by
   split at hv
   ·obtain⟨i,hi,rfl⟩:=List.mem_map.mp hv
    obtain⟨k,hk,ek⟩:=List.getElem_of_mem hi
    have gk:hs[k]?=some i:=by rw[List.getElem?_eq_getElem hk,ek]
    obtain⟨rw_,hrw⟩:=bt (l:=rows) (h.len▸hk)
    obtain⟨n,x,gi⟩:=h.row k i rw_ gk hrw
    have okk:=(h.ok rw_ (List.mem_of_getElem? hrw)).2
    refine⟨[(238,.ref t),(201,.str c),(295,.int w'),(230,.ref i)],rfl,fun G=>⟨⟨[],?_⟩,fun _=>⟨[],by rw[List.append_nil];exact ag rfl⟩⟩⟩
    rw[List.append_nil]
    have gi':=af (G:=G) (af (G:=[AO.list []]) gi)
    refine(iL (bI (b5 (ag rfl) (c4 gi' ii rfl Ca) (az (ag rfl) aF) (show d8 PQ (cfd (d + 1)) (.fn 55) (.ref i) 161 [.int w'] _=_ from pO gi' okk)))).trans ?_
    rw[Dc gi]
   ·exact(nomatch hv))
 refine⟨(S++[AO.list []]).length,[AO.list []]++[AO.list (if c=131 then(kL rows w').map (bP hs) else [])]++G,?_,by simp,?_⟩
 ·refine bH (F:=f58) rfl (by kernel_rfl) rfl rfl ?_
  refine(d7 (sts:=[]) (dC eo)).trans ?_
  have:((if c=131 then hs.map AV.ref else []).filter (pL S w')).map (fun v=>v)=(if c=131 then(kL rows w').map (bP hs) else []):=by
   rw[List.map_id']
   split
   ·rw[th,List.filter_map]
    congr 1
    unfold kL
    rw[h.len]
    refine List.filter_congr fun k hk=>?_
    have hk:=List.mem_range.mp hk
    obtain⟨rw_,hrw⟩:=bt (l:=rows) hk
    obtain⟨i,gi⟩:=bt (l:=hs) (h.len▸hk)
    obtain⟨n,x,g⟩:=h.row k i rw_ gi hrw
    show pL S w' (.ref (hs.getD k 0))=om (dE rows k) w'
    unfold dE
    rw[dD gi,dD hrw]
    rw[Dc g];rfl
   ·rfl
  rw[this]
  simp[List.append_assoc]
 ·have:=af (G:=G) (aw (S:=S++[AO.list []]) (o:=.list (if c=131 then(kL rows w').map (bP hs) else [])))
  simpa [List.append_assoc] using this
end Mine
end
section
namespace Mine
variable {cf:CF} {loc loc1 loc' loc2:Loc} {S S1 S2 S3 T G:aa} {v u a b k:AV} {vs:List AV} {e e1 e2 t:IE} {l:List AV} {d:Nat}
noncomputable abbrev items(hs K ms:List Nat):List AV:=List.zipWith (fun k m=>.tup [bP hs k,.ref m]) K ms
structure iB(T:aa)(f:Nat)(hs K ms:List Nat):Prop where
 at_:T[f]?=some (.list (items hs K ms))
 len:ms.length=K.length
 dic:∀m∈ms,T[m]?=some (.dict [])
theorem iB.app{f:Nat}{hs K ms:List Nat}(h:iB T f hs K ms):iB (T++G) f hs K ms:=⟨af h.at_,h.len,fun m hm=>af (h.dic m hm)⟩
noncomputable def fit(rows:List Rw)(ks:List Nat)(k:Nat):Bool:=aH ks ((dE rows k).parts.map kx)
theorem ti{ks ms:List Nat}(hk:aZ ks)(h8:∀k∈ks,k < 8)(hm:aZ ms)(d:Nat):cfd d 50 [KK,aD ks,aD ms] T=am (aH ks ms) (some (AV.ref T.length,T++[AO.dict []])) (some (AV.none,T)):=by
 have hall:(ks.all fun k=>Nat.blt k 8)=true:=List.all_eq_true.mpr fun k hk=>Nat.ble_eq_true_of_le (Nat.succ_le_of_lt (h8 k hk))
 have key:O5 50 [KK,aD ks,aD ms] T=am (aH ks ms) (some (AV.ref T.length,T++[AO.dict []])) (some (AV.none,T)):=(yC rfl rfl hk hm).trans (by
  show am (ks.all fun k=>Nat.blt k 8) (am (aH ks ms) _ _) none=_
  rw[hall];rfl)
 cases hs:aH ks ms with
 | true=>rw[hs] at key;exact fX key d
 | false=>rw[hs] at key;exact fX key d
theorem vN{ks ms:List Nat}(hk:aZ ks)(hm:aZ ms)(d:Nat):cfd d 49 [KK,aD ks,aD ms] T=some (.bool (aH ks ms&&aH ms ks),T):=fX (yC rfl rfl hk hm) d
theorem vO{ks ms:List Nat}(hk:aZ ks)(hm:aZ ms)(d:Nat):cfd d 53 [KK,aD ks,aD ms] T=some (.bool (aH ks ms&&!aH ms ks),T):=fX (yC rfl rfl hk hm) d
theorem tj{hs K ms:List Nat}(h:ms.length=K.length)(k m:Nat):items hs (K++[k]) (ms++[m])=items hs K ms++[.tup [bP hs k,.ref m]]:=by
 unfold items
 rw[List.zipWith_append h.symm];rfl
theorem iC{hs K ms:List Nat}(h:ms.length=K.length):(items hs K ms).length=K.length:=by unfold items;rw[List.length_zipWith,h,Nat.min_self]
theorem mG{t dd:Nat}{hs:List Nat}{rows:List Rw}{w:Int}(h:fi S t dd hs rows w){k:Nat}(hk:k < rows.length):∃i n x,hs[k]?=some i∧bP hs k=.ref i∧S[i]?=some (.inst 3 [(243,aD ((dE rows k).parts.map kx)),(140,.none),(143,.int n),(283,x),(107,.int (dE rows k).b),(129,(dE rows k).e)])∧cc (dE rows k).parts:=by
 obtain⟨rw_,hrw⟩:=bt hk
 obtain⟨i,gi⟩:=bt (l:=hs) (h.len▸hk)
 obtain⟨n,x,g⟩:=h.row k i rw_ gi hrw
 have e:dE rows k=rw_:=dD hrw
 rw[e]
 exact⟨i,n,x,gi,by unfold bP;rw[dD gi],g,(h.ok rw_ (List.mem_of_getElem? hrw)).1⟩
noncomputable def bm(rows:List Rw)(w:Int)(c:Nat):List Nat:=if c=131 then kL rows w else []
theorem rA{rows:List Rw}{w:Int}{c k:Nat}(h:k∈bm rows w c):k < rows.length:=by
 unfold bm at h
 split at h
 ·exact List.mem_range.mp (List.mem_filter.mp h).1
 ·exact(nomatch h)
theorem kh{rows:List Rw}{w:Int}{c:Nat}(h:rows.length≤4):(bm rows w c).length≤4:=by
 unfold bm
 split
 ·exact Nat.le_trans (List.length_filter_le _ _) (by simpa using h)
 ·exact Nat.zero_le _
theorem Cb:PQ.meth 4 182=some 58:=by kernel_rfl
theorem rB{L:List Nat}{f:Nat→Bool}{j k:Nat}(h:L[j]?=some k):(L.take (j + 1)).filter f=(L.take j).filter f++(if f k then [k] else []):=by
 rw[List.take_add_one,h,List.filter_append]
 congr 1
 show List.filter f [k]=_
 cases hf:f k<;>simp[hf]
theorem ab{x y:Nat}{loc:Loc}{v w:AV}(h:get? y loc=some w)(ne:y≠x):get? y (upd x v loc)=some w:=by rw[eW,if_neg ne];exact h
theorem aq{x:Nat}{loc:Loc}{v:AV}:get? x (upd x v loc)=some v:=by rw[eW,if_pos rfl]
theorem c5{x:Nat}{loc:Loc}{v:AV}:cy [x] v loc=some (upd x v loc):=aB _ _
noncomputable abbrev Cc:List IS:=[.assign (.name 267) (.call 50 [.attr (.var 238) 173,.var 171,.attr (.var 230) 243]),.ite (.val (.cmp .isNotNone (.var 267) (.none))) [.expr (.meth (.var 136) 102 [.tup [.var 230,.var 267]])] []]
theorem pR{t dd c:Nat}{hs ks:List Nat}{rows:List Rw}{w w':Int}(h:fi S t dd hs rows w)(hc:c=131∨c=141)(hk:aZ ks)(h8:∀k∈ks,k < 8):
  ∃G ms,cfd (d + 3) 59 [.ref t,.str c,aD ks,.int w'] S=some (.ref S.length,S++G)∧iB (S++G) S.length hs ((bm rows w' c).filter (fit rows ks)) ms:=by
 have h':=h.app (G:=[AO.list []])
 obtain⟨lv,G0,e1,llv,g1⟩:=vM (d:=d) (w':=w') h' hc
 rw[show(if c=131 then(kL rows w').map (bP hs) else [])=(bm rows w' c).map (bP hs) by unfold bm;split<;>rfl] at g1
 have lv1:S.length < lv:=by simp at llv;omega
 obtain⟨loc2,T2,e2,i1,i2,i3,ms,G2,rfl,j1,j2,j3⟩:=(jG (cf:=cfd (d + 2)) (loc:=[(238,.ref t),(201,.str c),(171,aD ks),(295,.int w'),(136,.ref S.length)]) (S:=S++[AO.list []]) (tg:=[230]) (it:=.of (.meth (.var 238) 182 [.var 201,.var 295])) (b:=Cc) (l:=(bm rows w' c).map (bP hs)) (stop:=fun _=>false)
  (Inv:=fun j loc T=>get? 238 loc=some (.ref t)∧get? 171 loc=some (aD ks)∧get? 136 loc=some (.ref S.length)∧∃ms G,T=(S++[.list (items hs (((bm rows w' c).take j).filter (fit rows ks)) ms)])++G∧ms.length=(((bm rows w' c).take j).filter (fit rows ks)).length∧(∀m∈ms,T[m]?=some (.dict [])∧m≠S.length)∧T[lv]?=some (.list ((bm rows w' c).map (bP hs))))
  (Post:=fun _ _ _=>True)
  (fW (b5 (ag rfl) (c4 h'.tab cO rfl Cb) (az (ag rfl) (az (ag rfl) aF)) (show d8 PQ (cfd (d + 2)) (.fn 58) (.ref t) 182 [.str c,.int w'] _=_ from e1)) (bb g1)) (.inr ⟨lv,rfl,fun k loc T I=>I.2.2.2.elim fun ms q=>q.elim fun G q=>q.2.2.2⟩)
  (by have:=kh (w:=w') (c:=c) h.few;simp;omega)
  ⟨rfl,rfl,rfl,[],G0,by simp[items],rfl,fun m hm=>(nomatch hm),g1⟩
  (fun j v loc T hv I=>⟨fun q=>(nomatch q),fun _=>by
   obtain⟨i1,i2,i3,ms,G,rfl,j1,j2,j3⟩:=I
   rw[List.getElem?_map] at hv
   cases hL:(bm rows w' c)[j]? with
   | none=>rw[hL] at hv;cases hv
   | some k=>
    rw[hL] at hv;cases hv
    obtain⟨i,n,x,gi,ri,gr,okr⟩:=mG h (rA (List.mem_of_getElem? hL))
    rw[ri]
    have gr':∀{A:AO} {G:aa},((S++[A])++G)[i]?=_:=fun {A G}=>af (G:=G) (af (G:=[A]) gr)
    have gt':∀{A:AO} {G:aa},((S++[A])++G)[t]?=_:=fun {A G}=>af (G:=G) (af (G:=[A]) h.tab)
    have ea:fK PQ (cfd (d + 2)) 1000 [.attr (.var 238) 173,.var 171,.attr (.var 230) 243] (upd 230 (.ref i) loc) ((S++[.list (items hs (((bm rows w' c).take j).filter (fit rows ks)) ms)])++G)=some ([KK,aD ks,aD ((dE rows k).parts.map kx)],(S++[.list (items hs (((bm rows w' c).take j).filter (fit rows ks)) ms)])++G):=
     az (bW (ag (ab i1 (by decide))) (aW gt' cO rfl)) (az (ag (ab i2 (by decide))) (az (bW (ag aq) (aW gr' ii rfl)) aF))
    have em:=ti (T:=(S++[.list (items hs (((bm rows w' c).take j).filter (fit rows ks)) ms)])++G) hk h8 (fh okr).2 (d + 2)
    simp only[rB hL]
    cases hf:aH ks ((dE rows k).parts.map kx) with
    | false=>
     rw[hf] at em
     have hf':fit rows ks k=false:=hf
     rw[hf',if_neg Bool.false_ne_true,List.append_nil]
     refine⟨upd 267 .none (upd 230 (.ref i) loc),_,bL c5 (aK (bl (bO ea em)) (aK (cN (bI (b9 (ag aq) fH rfl)) b6) b6)),ab (ab i1 (by decide)) (by decide),ab (ab i2 (by decide)) (by decide),ab (ab i3 (by decide)) (by decide),ms,G,rfl,j1,j2,j3⟩
    | true=>
     rw[hf] at em
     have hf':fit rows ks k=true:=hf
     rw[hf',if_pos rfl]
     have len:=iC (hs:=hs) j1
     have lens:(items hs (((bm rows w' c).take j).filter (fit rows ks)) ms).length < lim:=by
      rw[len]
      refine Nat.lt_of_le_of_lt (List.length_filter_le _ _) (Nat.lt_of_le_of_lt (List.length_take_le _ _) ?_)
      have:=kh (w:=w') (c:=c) h.few
      have L:lim=1000:=rfl
      have:=ae hL
      omega
     have gf:(((S++[AO.list (items hs (((bm rows w' c).take j).filter (fit rows ks)) ms)])++G)++[AO.dict []])[S.length]?=some (.list (items hs (((bm rows w' c).take j).filter (fit rows ks)) ms)):=af (af aw)
     have ap:=fm (cf:=cfd (d + 2)) (v:=.tup [.ref i,.ref ((S++[AO.list (items hs (((bm rows w' c).take j).filter (fit rows ks)) ms)])++G).length]) gf lens
     rw[List.append_assoc (S++[AO.list (items hs (((bm rows w' c).take j).filter (fit rows ks)) ms)]) G,dN] at ap
     refine⟨upd 267 (.ref ((S++[AO.list (items hs (((bm rows w' c).take j).filter (fit rows ks)) ms)])++G).length) (upd 230 (.ref i) loc),_,bL c5 (aK (bl (bO ea em)) (aK (cN (bI (b9 (ag aq) fH rfl)) (aK (jd (b5 (ag (ab (ab i3 (by decide)) (by decide))) (b4 gf) (az (rp (az (ag (ab aq (by decide))) (az (ag aq) aF))) aF)
      ((congrArg (d8 PQ (cfd (d + 2)) .lst (.ref S.length) 102 _) (List.append_assoc (S++[AO.list (items hs (((bm rows w' c).take j).filter (fit rows ks)) ms)]) G [AO.dict []])).trans ap))) b6)) b6)),ab (ab i1 (by decide)) (by decide),ab (ab i2 (by decide)) (by decide),ab (ab i3 (by decide)) (by decide),ms++[((S++[AO.list (items hs (((bm rows w' c).take j).filter (fit rows ks)) ms)])++G).length],G++[.dict []],?_,by simp[j1],fun m hm=>?_,?_⟩
     ·rw[tj j1,ri]
     ·have moved:∀{A B:AO} {H:aa} {x:Nat},x≠S.length→((S++[A])++H)[x]?=((S++[B])++H)[x]?:=fun {A B H x} hx=>by
       rcases Nat.lt_or_ge x S.length with q | q
       ·rw[List.append_assoc,List.append_assoc,List.getElem?_append_left q,List.getElem?_append_left q]
       ·rw[List.getElem?_append_right (by simp;omega),List.getElem?_append_right (by simp;omega)];simp
      rcases List.mem_append.mp hm with hm | hm
      ·obtain⟨a1,a2⟩:=j2 m hm
       refine⟨?_,a2⟩
       rw[moved (B:=AO.list (items hs (((bm rows w' c).take j).filter (fit rows ks)) ms)) a2,←List.append_assoc]
       exact af a1
      ·simp at hm
       subst hm
       refine⟨?_,by simp⟩
       rw[moved (B:=AO.list (items hs (((bm rows w' c).take j).filter (fit rows ks)) ms)) (by simp)]
       have:=aw (S:=(S++[AO.list (items hs (((bm rows w' c).take j).filter (fit rows ks)) ms)])++G) (o:=.dict [])
       simpa [List.append_assoc] using this
     ·have moved:∀{A B:AO} {H:aa} {x:Nat},S.length < x→((S++[A])++H)[x]?=((S++[B])++H)[x]?:=fun {A B H x} hx=>by
       rw[List.getElem?_append_right (by simp;omega),List.getElem?_append_right (by simp;omega)];simp
      rw[moved (B:=AO.list (items hs (((bm rows w' c).take j).filter (fit rows ks)) ms)) lv1,←List.append_assoc]
      exact af j3⟩)).all fun _ _=>rfl
 have hfull:(bm rows w' c).take ((bm rows w' c).map (bP hs)).length=bm rows w' c:=List.take_of_length_le (by simp)
 rw[hfull] at e2 j1 j2
 refine⟨[.list (items hs ((bm rows w' c).filter (fit rows ks)) ms)]++G2,ms,?_,⟨?_,j1,fun m hm=>?_⟩⟩
 ·refine bH (F:=f59) rfl (by kernel_rfl) rfl rfl ?_
  exact(aK (bl (r_list aF)) (aK e2 (d7 (sts:=[]) (dC (ag i3))))).trans (by simp[List.append_assoc])
 ·have:=af (G:=G2) (aw (S:=S) (o:=.list (items hs ((bm rows w' c).filter (fit rows ks)) ms)))
  simpa [List.append_assoc] using this
 ·have:=(j2 m hm).1
  simpa [List.append_assoc] using this
end Mine
end
section
namespace Mine
noncomputable def tl(p q:List Nat):Bool:=dy (kx p) (kx q)==bq p q
theorem FN:bD 8 (fun k=>bD 8 fun i=>tl [nm i] [nm k])=true:=by kernel_rfl
theorem FO:bD 8 (fun k=>bD 8 fun m=>bD 8 fun i=>tl [nm i] [nm k,nm m])=true:=by kernel_rfl
theorem FP:bD 8 (fun k=>bD 8 fun i=>bD 8 fun j=>tl [nm i,nm j] [nm k])=true:=by kernel_rfl
theorem FQ:bD 8 (fun k=>bD 8 fun m=>bD 8 fun i=>bD 8 fun j=>tl [nm i,nm j] [nm k,nm m])=true:=by kernel_rfl
theorem vP{p q:List Nat}(hp:okL p=true)(hn:∀a∈p,dM a=true)(hq:okL q=true)(hm:∀a∈q,dM a=true):dy (kx p) (kx q)=bq p q:=
 eq_of_beq (ib (f:=fun p=>tl p q) (ib (f:=fun q=>bD 8 fun i=>tl [nm i] q) FN FO hq hm) (ib (f:=fun q=>bD 8 fun i=>bD 8 fun j=>tl [nm i,nm j] q) FP FQ hq hm) hp hn)
theorem ki{α:Type}{f:α→Bool}{x:α}:([x].filter fun k=>!f k).isEmpty=f x:=by cases h:f x<;>simp[h]
theorem fY{R Q:List (List Nat)}(oR:cc R)(oQ:cc Q):aH (R.map kx) (Q.map kx)=bc R Q:=by
 have key:∀p∈R,∀q∈Q,dy (kx p) (kx q)=bq p q:=fun p hp q hq=>vP (oR.okl p hp) (oR.nam p hp) (oQ.okl q hq) (oQ.nam q hq)
 rcases oR.len with hR | hR<;>rcases oQ.len with hQ | hQ
 ·match R,hR,Q,hQ with
  | [p],_,[q],_=>
   show dy (kx p) (kx q)=(true&&([0].filter fun k=>!bq ([p].getD k []) ([q].getD k [])).isEmpty)
   rw[key p (by simp) q (by simp),Bool.true_and,ki (f:=fun k=>bq ([p].getD k []) ([q].getD k []))];rfl
 ·match R,hR,Q,hQ with
  | [p],_,[q,q'],_=>rfl
 ·match R,hR,Q,hQ with
  | [p,p'],_,[q],_=>rfl
 ·match R,hR,Q,hQ with
  | [p,p'],_,[q,q'],_=>
   show(dy (kx p) (kx q)&&dy (kx p') (kx q'))=(true&&([0,1].filter fun k=>!bq ([p,p'].getD k []) ([q,q'].getD k [])).isEmpty)
   rw[key p (by simp) q (by simp),key p' (by simp) q' (by simp),Bool.true_and]
   have e0:bq ([p,p'].getD 0 []) ([q,q'].getD 0 [])=bq p q:=rfl
   have e1:bq ([p,p'].getD 1 []) ([q,q'].getD 1 [])=bq p' q':=rfl
   rw[List.filter_cons,List.filter_cons,e0,e1]
   cases bq p q<;>cases bq p' q'<;>rfl
end Mine
end
section
namespace Mine
variable {cf:CF} {loc loc1 loc' loc2:Loc} {S S1 S2 S3 T G:aa} {v u a b k:AV} {vs:List AV} {e e1 e2 t:IE} {l:List AV} {d:Nat}
theorem rC{α β:Type}{L:List α}{h:α→β}{p:β→Bool}{f:α→Bool}(H:∀k∈L,p (h k)=f k):(L.map h).filter p=(L.filter f).map h:=by
 induction L with
 | nil=>rfl
 | cons x r ih=>
  have ih:=ih fun k hk=>H k (List.mem_cons_of_mem _ hk)
  rw[List.map_cons,List.filter_cons,List.filter_cons,H x List.mem_cons_self]
  cases f x
  ·simpa using ih
  ·simp[ih]
open Classical in
theorem gH{tg:List Nat}{it:It}{ifs:List IE}{elt:IE}{src:Src}{L:List Nat}{h:Nat→AV}{f:Nat→Bool}{g:Nat→AV}(hI:evI PQ cf 1000 it loc S=some (src,S1))(hs:Da S1 src (L.map h))(hl:L.length < 1000)
  (inj:∀j∈L,∀k∈L,h j=h k→f j=f k∧g j=g k)
  (H:∀k∈L,∃loc',cy tg (h k) (aU (d9 tg []) loc)=some loc'∧∀G,(∃G1,gQ PQ cf 1000 ifs loc' (S1++G)=some (f k,(S1++G)++G1))∧(f k=true→∃G1,evE PQ cf 1000 elt loc' (S1++G)=some (g k,(S1++G)++G1))):
  ∃G,evE PQ cf 1000 (.comp elt [.mk tg it ifs]) loc S=some (.ref S1.length,(S1++[.list ((L.filter f).map g)])++G):=by
 let dec:AV→Nat:=fun v=>if q:∃k,k∈L∧h k=v then Classical.choose q else 0
 have hd:∀k∈L,f (dec (h k))=f k∧g (dec (h k))=g k:=fun k hk=>by
  have q:∃j,j∈L∧h j=h k:=⟨k,hk,rfl⟩
  have e:dec (h k)=Classical.choose q:=dif_pos q
  have sp:=Classical.choose_spec q
  rw[e]
  exact inj _ sp.1 _ hk sp.2
 obtain⟨G,eo⟩:=jf (cf:=cf) (loc:=loc) (S:=S) (elt:=elt) (ifs:=ifs) (p:=fun v=>f (dec v)) (g:=fun v=>g (dec v)) hI hs (by rw[List.length_map];exact hl) fun v hv=>by
  obtain⟨k,hk,rfl⟩:=List.mem_map.mp hv
  obtain⟨h1,h2⟩:=hd k hk
  obtain⟨loc',b,R⟩:=H k hk
  refine⟨loc',b,fun G=>?_⟩
  rw[h1,h2]
  exact R G
 refine⟨G,eo.trans ?_⟩
 rw[rC (h:=h) (p:=fun v=>f (dec v)) (f:=f) fun k hk=>(hd k hk).1,List.map_map]
 have:(L.filter f).map ((fun v=>g (dec v))∘ h)=(L.filter f).map g:=List.map_congr_left fun k hk=>(hd k (List.mem_filter.mp hk).1).2
 rw[this]
theorem bz{xs:List Nat}{y:Nat}(h:get? y loc=some v)(ne:y∉xs):get? y (aU xs loc)=some v:=by rw[jw,if_neg ne];exact h
theorem ut{x y:Nat}:cy [x,y] (.tup [a,b]) loc=some (upd y b (upd x a loc)):=aB _ _
theorem FR{i j:Nat}:iE PQ.eqt .isNot (.ref i) (.ref j) S=some (.bool (!Nat.beq i j),S):=by
 show cR (!Nat.beq i j) (fun b=>some (AV.bool b,S))=_;rw[be]
theorem on{α:Type}{L:List α}{f:α→Bool}{j:Nat}{x:α}(hx:L[j]?=some x)(h:f x=true)(hb:∀i,i < j→∀y,L[i]?=some y→f y=false):L.find? f=some x:=by
 induction L generalizing j with
 | nil=>cases hx
 | cons y r ih=>
  cases j with
  | zero=>cases hx;rw[List.find?_cons_of_pos h]
  | succ j=>
   rw[List.find?_cons_of_neg (by rw[hb 0 (Nat.succ_pos _) y rfl];decide)]
   exact ih hx fun i hi z hz=>hb (i + 1) (Nat.succ_lt_succ hi) z hz
theorem oo{α:Type}{L:List α}{f:α→Bool}(hb:∀(i:Nat) (y:α),L[i]?=some y→f y=false):L.find? f=none:=by
 refine List.find?_eq_none.mpr fun y hy=>?_
 obtain⟨i,hi,e⟩:=List.getElem_of_mem hy
 rw[hb i y (by rw[List.getElem?_eq_getElem hi,e])];decide
noncomputable def ru(rows:List Rw)(j k:Nat):Bool:=bc (dE rows j).parts (dE rows k).parts
noncomputable def oth(F:List Nat)(k:Nat):List Nat:=F.filter fun j=>!(j==k)
noncomputable def pS(rows:List Rw)(F:List Nat)(k:Nat):Bool:=((oth F k).filter fun j=>!(ru rows k j&&!ru rows j k)).isEmpty
theorem yU{hs F ms:List Nat}{j k:Nat}(len:ms.length=F.length)(h:F[j]?=some k):∃m,ms[j]?=some m∧(items hs F ms)[j]?=some (.tup [bP hs k,.ref m]):=by
 obtain⟨m,hm⟩:=bt (l:=ms) (len▸ae h)
 refine⟨m,hm,?_⟩
 unfold items
 rw[List.getElem?_zipWith,h,hm]
theorem oq{hs F ms:List Nat}(len:ms.length=F.length)(nd:F.Nodup):∃mm:Nat→Nat,items hs F ms=F.map fun k=>.tup [bP hs k,.ref (mm k)]:=by
 induction F generalizing ms with
 | nil=>exact⟨fun _=>0,rfl⟩
 | cons k r ih=>
  match ms,len with
  | m::ms,len=>
   obtain⟨mm,e⟩:=ih (ms:=ms) (Nat.succ.inj len) (List.nodup_cons.mp nd).2
   refine⟨fun j=>if j=k then m else mm j,?_⟩
   show _::items hs r ms=_::_
   dsimp only
   rw[e,if_pos rfl]
   congr 1
   refine List.map_congr_left fun j hj=>?_
   have ne:¬j=k:=fun q=>(List.nodup_cons.mp nd).1 (by rw[←q];exact hj)
   rw[if_neg ne]
theorem jH{hs:List Nat}(nd:hs.Nodup){j k:Nat}(hj:j < hs.length)(hk:k < hs.length)(e:bP hs j=bP hs k):j=k:=by
 have e:=AV.ref.inj e
 rw[dD (List.getElem?_eq_getElem hj),dD (List.getElem?_eq_getElem hk)] at e
 have pw:=List.pairwise_iff_getElem.mp nd
 rcases Nat.lt_trichotomy j k with q | q | q
 ·exact absurd e (pw j k hj hk q)
 ·exact q
 ·exact absurd e.symm (pw k j hk hj q)
theorem Cd:PQ.meth 4 134=some 59:=by kernel_rfl
noncomputable abbrev ji(rows:List Rw)(ks:List Nat)(w:Int)(c:Nat):List Nat:=(bm rows w c).filter (fit rows ks)
theorem uu{rows:List Rw}{ks:List Nat}{w:Int}{c:Nat}:(ji rows ks w c).Nodup:=by
 refine List.Pairwise.filter _ ?_
 unfold bm
 split
 ·exact List.Pairwise.filter _ List.nodup_range
 ·exact List.Pairwise.nil
theorem uv{rows:List Rw}{ks:List Nat}{w:Int}{c k:Nat}(h:k∈ji rows ks w c):k < rows.length:=rA (List.mem_filter.mp h).1
theorem mH{rows:List Rw}{ks:List Nat}{w:Int}{c:Nat}(h:rows.length≤4):(ji rows ks w c).length≤4:=Nat.le_trans (List.length_filter_le _ _) (kh h)
noncomputable abbrev yV:List IS:=[.assign (.name 216) (.comp (.var 215) [.mk [215,198] (.of (.var 136)) [.val (.cmp .isNot (.var 215) (.var 230))]]),.ite (.val (.cmp .eq (.comp (.var 215) [.mk [215] (.of (.var 216)) [.not (.val (.call 53 [.attr (.var 238) 173,.attr (.var 230) 243,.attr (.var 215) 243]))]]) (.list []))) [.ret (.tup [.var 230,.var 267])] []]
theorem yW{hs:List Nat}(nd:hs.Nodup){j k:Nat}(hj:j < hs.length)(hk:k < hs.length):(!Nat.beq (hs.getD j 0) (hs.getD k 0))=!(j==k):=by
 by_cases q:j=k
 ·subst q;simp
 ·have:hs.getD j 0≠hs.getD k 0:=fun e=>q (jH nd hj hk (congrArg AV.ref e))
  rw[B7 this,beq_eq_false_iff_ne.mpr q]
theorem kM{t dd c:Nat}{hs ks:List Nat}{rows:List Rw}{w w':Int}(h:fi S t dd hs rows w)(hc:c=131∨c=141)(hk:aZ ks)(h8:∀k∈ks,k < 8):
  ∃v G,cfd (d + 4) 60 [.ref t,.str c,aD ks,.int w'] S=some (v,S++G)∧
   ((∃k m,(ji rows ks w' c).find? (pS rows (ji rows ks w' c))=some k∧v=.tup [bP hs k,.ref m]∧(S++G)[m]?=some (.dict []))∨((ji rows ks w' c).find? (pS rows (ji rows ks w' c))=none∧∃f ms,v=.ref f∧iB (S++G) f hs (ji rows ks w' c) ms)):=by
 obtain⟨G1,ms,e1,fa⟩:=pR (d:=d) (w':=w') h hc hk h8
 obtain⟨F,hF⟩:∃F,F=ji rows ks w' c:=⟨_,rfl⟩
 have fa:iB (S++G1) S.length hs F ms:=by rw[hF];exact fa
 have ndF:F.Nodup:=by rw[hF];exact uu
 have ltF:∀k∈F,k < rows.length:=fun k hk=>uv (by rw[←hF];exact hk)
 have fewF:F.length≤4:=by rw[hF];exact mH h.few
 rw[←hF]
 obtain⟨mm,him⟩:=oq (hs:=hs) fa.len ndF
 have lp:=jG (cf:=cfd (d + 3)) (loc:=[(238,.ref t),(201,.str c),(171,aD ks),(295,.int w'),(136,.ref S.length)]) (S:=S++G1) (tg:=[230,267]) (it:=.of (.var 136)) (b:=yV) (l:=items hs F ms) (stop:=fun j=>ay F[j]? (pS rows F) false)
  (Inv:=fun _ loc T=>get? 238 loc=some (.ref t)∧get? 136 loc=some (.ref S.length)∧∃G,T=(S++G1)++G)
  (Post:=fun j v T=>∃k m,F[j]?=some k∧v=.tup [bP hs k,.ref m]∧T[m]?=some (.dict [])∧∃G,T=(S++G1)++G)
  (fW (ag rfl) (bb fa.at_)) (.inr ⟨_,rfl,fun k loc T I=>I.2.2.elim fun G q=>q▸af fa.at_⟩) (by rw[iC fa.len];omega) ⟨rfl,rfl,[],by simp⟩
  (fun j v loc T hv I=>by
   obtain⟨i1,i2,G,rfl⟩:=I
   have hj:j < F.length:=by rw[←iC (hs:=hs) fa.len];exact ae hv
   obtain⟨k,gk⟩:=bt hj
   obtain⟨m,gm,ev⟩:=yU (hs:=hs) fa.len gk
   rw[ev] at hv
   cases hv
   have kF:=List.mem_of_getElem? gk
   have dm:=fa.dic m (List.mem_of_getElem? gm)
   simp only[gk]
   have hh:=h.app (G:=G1++G)
   rw[←List.append_assoc] at hh
   obtain⟨Ga,ea⟩:=gH (cf:=cfd (d + 3)) (loc:=upd 267 (.ref m) (upd 230 (bP hs k) loc)) (S:=(S++G1)++G) (tg:=[215,198]) (it:=.of (.var 136)) (ifs:=[.val (.cmp .isNot (.var 215) (.var 230))]) (elt:=.var 215)
    (L:=F) (h:=fun k=>.tup [bP hs k,.ref (mm k)]) (f:=fun j=>!(j==k)) (g:=bP hs)
    (fW (ag (ab (ab i2 (by decide)) (by decide))) (bb (af fa.at_))) (.inr ⟨_,rfl,him▸af fa.at_⟩) (by omega)
    (fun a ha b hb e=>by
     have e:bP hs a=bP hs b:=(List.cons.inj (AV.tup.inj e)).1
     have:=jH h.nd (h.len▸ltF a ha) (h.len▸ltF b hb) e
     subst this;exact⟨rfl,rfl⟩)
    (fun a ha=>⟨_,ut,fun G'=>⟨⟨[],by
     rw[List.append_nil]
     refine iL (bI (b9 (ag (ab aq (by decide))) (ag (ab (ab (bz (ab aq (by decide)) (by decide)) (by decide)) (by decide))) (FR.trans ?_)))
     rw[yW h.nd (h.len▸ltF a ha) (h.len▸ltF k kF)]⟩,fun _=>⟨[],by rw[List.append_nil];exact ag (ab aq (by decide))⟩⟩⟩)
   have ga:=af (G:=Ga) (aw (S:=(S++G1)++G) (o:=.list ((F.filter fun j=>!(j==k)).map (bP hs))))
   have hh2:=hh.app (G:=[AO.list ((F.filter fun j=>!(j==k)).map (bP hs))]++Ga)
   rw[←List.append_assoc] at hh2
   obtain⟨ik,nk,xk,gik,rik,grk,okk⟩:=mG hh2 (ltF k kF)
   obtain⟨Gb,eb⟩:=gH (cf:=cfd (d + 3)) (loc:=upd 216 (.ref ((S++G1)++G).length) (upd 267 (.ref m) (upd 230 (bP hs k) loc))) (S:=(((S++G1)++G)++[AO.list ((F.filter fun j=>!(j==k)).map (bP hs))])++Ga) (tg:=[215]) (it:=.of (.var 216)) (ifs:=[.not (.val (.call 53 [.attr (.var 238) 173,.attr (.var 230) 243,.attr (.var 215) 243]))]) (elt:=.var 215)
    (L:=oth F k) (h:=bP hs) (f:=fun j=>!(ru rows k j&&!ru rows j k)) (g:=bP hs)
    (fW (ag aq) (bb ga)) (.inr ⟨_,rfl,ga⟩) (Nat.lt_of_le_of_lt (List.length_filter_le _ _) (by omega))
    (fun a ha b hb e=>by
     have:=jH h.nd (h.len▸ltF a (List.mem_filter.mp ha).1) (h.len▸ltF b (List.mem_filter.mp hb).1) e
     subst this;exact⟨rfl,rfl⟩)
    (fun a ha=>⟨_,c5,fun G'=>⟨⟨[],by
     obtain⟨ia,na,xa,gia,ria,gra,oka⟩:=mG hh2 (ltF a (List.mem_filter.mp ha).1)
     rw[List.append_nil,ria,rik]
     have m1:=vO (T:=((((S++G1)++G)++[AO.list ((F.filter fun j=>!(j==k)).map (bP hs))])++Ga)++G') (fh okk).2 (fh oka).2 (d + 3)
     rw[fY okk oka,fY oka okk] at m1
     exact iL (yK (bI (bO (az (bW (ag (ab (bz (ab (ab (ab i1 (by decide)) (by decide)) (by decide)) (by decide)) (by decide))) (aW (af hh2.tab) cO rfl)) (az (bW (ag (ab (bz (ab (ab aq (by decide)) (by decide)) (by decide)) (by decide))) (aW (af grk) ii rfl)) (az (bW (ag aq) (aW (af gra) ii rfl)) aF))) m1)))⟩,fun _=>⟨[],by rw[List.append_nil];exact ag aq⟩⟩⟩)
   have gb:=af (G:=Gb) (aw (S:=(((S++G1)++G)++[AO.list ((F.filter fun j=>!(j==k)).map (bP hs))])++Ga) (o:=.list (((oth F k).filter fun j=>!(ru rows k j&&!ru rows j k)).map (bP hs))))
   have cn:=(gB (af (G:=[AO.list []]) gb) aw).1
   rw[c0] at cn
   have tst:=bI (b9 (cf:=cfd (d + 3)) eb (r_list aF) cn)
   constructor
   ·intro st
    have st:((oth F k).filter fun j=>!(ru rows k j&&!ru rows j k)).isEmpty=true:=st
    rw[st] at tst
    refine⟨_,_,bL ut (aK (bl ea) (d7 (cN tst (d7 (dC (rp (az (ag (ab (ab aq (by decide)) (by decide))) (az (ag (ab aq (by decide))) aF)))))))),k,m,rfl,rfl,?_,?_⟩
    ·exact af (af (af (af (af (af dm)))))
    ·exact⟨G++[AO.list ((F.filter fun j=>!(j==k)).map (bP hs))]++Ga++[AO.list (((oth F k).filter fun j=>!(ru rows k j&&!ru rows j k)).map (bP hs))]++Gb++[AO.list []],by simp only[List.append_assoc]⟩
   ·intro st
    have st:((oth F k).filter fun j=>!(ru rows k j&&!ru rows j k)).isEmpty=false:=st
    rw[st] at tst
    exact⟨_,_,bL ut (aK (bl ea) (aK (cN tst b6) b6)),ab (ab (ab i1 (by decide)) (by decide)) (by decide),ab (ab (ab i2 (by decide)) (by decide)) (by decide),G++[AO.list ((F.filter fun j=>!(j==k)).map (bP hs))]++Ga++[AO.list (((oth F k).filter fun j=>!(ru rows k j&&!ru rows j k)).map (bP hs))]++Gb++[AO.list []],by simp only[List.append_assoc]⟩)
 have first:=bl (cf:=cfd (d + 3)) (x:=136) (loc:=[(238,.ref t),(201,.str c),(171,aD ks),(295,.int w')]) (b5 (ag (x:=238) rfl) (c4 h.tab cO rfl Cd) (az (ag (x:=201) rfl) (az (ag (x:=171) rfl) (az (ag (x:=295) rfl) aF))) (show d8 PQ (cfd (d + 3)) (.fn 59) (.ref t) 134 [.str c,aD ks,.int w'] S=_ from e1))
 rcases lp with⟨j,hj,st,bef,v,T,el,k,m,gk,ev,dm,G,rfl⟩ | ⟨bef,loc,T,el,i1,i2,G,rfl⟩
 ·refine⟨v,G1++G,?_,.inl ⟨k,m,?_,ev,by rw[←List.append_assoc];exact dm⟩⟩
  ·refine bH (F:=f60) rfl (by kernel_rfl) rfl rfl ?_
   rw[←List.append_assoc]
   exact aK first (d7 el)
  ·simp only[gk] at st
   exact on gk st fun i hi y gy=>(oS gy).symm.trans (bef i hi)
 ·refine⟨.ref S.length,G1++G,?_,.inr ⟨?_,S.length,ms,rfl,by rw[←List.append_assoc];exact fa.app⟩⟩
  ·refine bH (F:=f60) rfl (by kernel_rfl) rfl rfl ?_
   rw[←List.append_assoc]
   exact aK first (aK el (d7 (dC (ag i2))))
  ·exact oo fun i y gy=>(oS gy).symm.trans (bef i (by rw[iC fa.len];exact ae gy))
end Mine
end
section
namespace Mine
variable {cf:CF} {loc loc1 loc' loc2:Loc} {S S1 S2 S3 T G:aa} {v u a b k:AV} {vs:List AV} {e e1 e2 t:IE} {l:List AV} {d:Nat}
theorem rD{n:Nat}:∀F:List Nat,F.length < n→eqL (n + 1) S (aX F) (aX F)=true
 | [],h=>rfl
 | k::r,h=>by
  match n,h with
  | n + 1,h=>
   show(((Int.ofNat k==Int.ofNat k):Bool)&&eqL (n + 1) S (aX r) (aX r))=true
   rw[beq_self_eq_true,Bool.true_and]
   exact rD r (Nat.lt_of_succ_lt_succ h)
theorem kl{n:Nat}:∀F:List Nat,F.length < n→eT (n + 1) S (aX F)=true
 | [],h=>rfl
 | k::r,h=>by
  match n,h with
  | n + 1,h=>
   show(true&&eT (n + 1) S (aX r))=true
   rw[Bool.true_and]
   exact kl r (Nat.lt_of_succ_lt_succ h)
theorem Ce{i j:Nat}{F:List Nat}(hF:F.length < 38)(hi:S[i]?=some (.list (aX F)))(hj:S[j]?=some (.list (aX F))):iE PQ.eqt .ne (.ref i) (.ref j) S=some (.bool false,S):=by
 have di:isD eqN S (.ref i)=true:=(oLi hi:isD eqN S (.ref i)=eT 39 S (aX F)).trans (kl F hF)
 have dj:isD eqN S (.ref j)=true:=(oLi hj:isD eqN S (.ref j)=eT 39 S (aX F)).trans (kl F hF)
 have e:eqV S (.ref i) (.ref j)=some true:=(bT (jQ di dj)).trans ((be _ _).trans (congrArg some ((oLi hi:eqA eqN S (.ref i) (.ref j)=_).trans ((oS (bV hj)).trans (rD F hF)))))
 exact(oS (oS e)).trans rfl
theorem yX{i j:Nat}(hi:S[i]?=some (.dict []))(hj:S[j]?=some (.dict [])):iE PQ.eqt .eq (.ref i) (.ref j) S=some (.bool true,S):=by
 have di:isD eqN S (.ref i)=false:=oLd hi
 have li:bj (.ref i) S=none:=oLd hi
 have e:eqV S (.ref i) (.ref j)=some true:=(bF (by rw[di];rfl)).trans ((bF (by rw[li];rfl)).trans (bT (jQ (oDi hi) (oDi hj))))
 exact oS (oS e)
theorem FS{i k:Nat}:∀{hs:List Nat} {n:Nat},hs.Nodup→hs[k]?=some i→iW i (hs.map .ref) n=some (n + k):=by
 induction k with
 | zero=>
  intro hs n nd h
  match hs,h with
  | _::r,rfl=>
   exact bT (Nat.beq_refl i)
 | succ k ih=>
  intro hs n nd h
  match hs,nd,h with
  | j::r,nd,h=>
   have nd:=List.nodup_cons.mp nd
   have h:r[k]?=some i:=h
   have ne:i≠j:=fun q=>nd.1 (q▸List.mem_of_getElem? h)
   refine(bF (B7 ne)).trans ((ih nd.2 h).trans ?_)
   congr 1;omega
theorem mJ{i j k:Nat}{hs:List Nat}(hi:S[i]?=some (.list (hs.map .ref)))(nd:hs.Nodup)(hk:hs[k]?=some j)(inst:∀x∈hs,∃fl,S[x]?=some (.inst 3 fl)):d8 PQ cf .lst (.ref i) 152 [.ref j] S=some (.int (Int.ofNat k),S):=by
 have al:kW PQ S (.ref j::hs.map .ref)=true:=by
  refine List.all_eq_true.mpr fun v hv=>?_
  have one:∀x∈hs,(gO S[x]? (fun c _=>(PQ.init c).isSome) false)=true:=fun x hx=>by
   obtain⟨fl,g⟩:=inst x hx
   exact(oI g).trans ii
  rcases List.mem_cons.mp hv with rfl | hv
  ·exact one j (List.mem_of_getElem? hk)
  ·obtain⟨x,hx,rfl⟩:=List.mem_map.mp hv
   exact one x hx
 refine(oLi hi).trans ((show ly PQ i (hs.map .ref) 152 [.ref j] S=ay (iW j (hs.map .ref) 0) (fun n=>bA (n:Nat) fun i=>some (.int i,S)) none from bT al).trans ((oS (FS nd hk)).trans ((aO _ _).trans ?_)))
 rw[Nat.zero_add];rfl
theorem Cf:bD 8 (fun i=>Nat.blt (kx [nm i]) 8)=true:=by kernel_rfl
theorem kx8{R:List (List Nat)}(h:∀p∈R,∃a,p=[a]∧dM a=true):∀k∈R.map kx,k < 8:=fun k hk=>by
 obtain⟨p,hp,rfl⟩:=List.mem_map.mp hk
 obtain⟨a,rfl,ha⟩:=h p hp
 have q:=n8 ha
 have:=aP Cf q.1
 rw[q.2] at this
 exact cK this
theorem Dd{t dd:Nat}{hs:List Nat}{rows:List Rw}{w:Int}(h:fi S t dd hs rows w):∀x∈hs,∃fl,S[x]?=some (.inst 3 fl):=fun x hx=>by
 obtain⟨k,hk,e⟩:=List.getElem_of_mem hx
 have gk:hs[k]?=some x:=by rw[List.getElem?_eq_getElem hk,e]
 obtain⟨rw_,hr⟩:=bt (l:=rows) (h.len▸hk)
 obtain⟨n,y,g⟩:=h.row k x rw_ gk hr
 exact⟨_,g⟩
theorem uw:PQ.meth 4 223=some 60:=by kernel_rfl
noncomputable def Ans(S:aa)(rows:List Rw)(F:List Nat)(v:AV):Prop:=(∃k,F.find? (pS rows F)=some k∧v=.int (Int.ofNat k))∨(F.find? (pS rows F)=none∧∃r,v=.ref r∧S[r]?=some (.list (aX F)))
theorem Cg{t dd hd p:Nat}{hs js:List Nat}{R:List (List Nat)}{rows:List Rw}{w w':Int}(h:fi S t dd hs rows w)(hh:S[hd]?=some (.list (hs.map .ref)))(hp:fg S p R js)(ok:cc R)(one:∀p∈R,∃a,p=[a]∧dM a=true):
  ∃v G,cfd (d + 5) 90 [.ref t,.ref hd,.ref p,.int w'] S=some (v,S++G)∧Ans (S++G) rows (ji rows (R.map kx) w' 131) v:=by
 obtain⟨G0,e0⟩:=mB (d:=d + 2) hp ok
 obtain⟨v,G1,e1,A⟩:=kM (d:=d) (w':=w') (h.app (G:=G0)) (.inl rfl) (fh ok).2 (kx8 one)
 obtain⟨F,hF⟩:∃F,F=ji rows (R.map kx) w' 131:=⟨_,rfl⟩
 rw[←hF] at A
 rw[←hF]
 have ndF:F.Nodup:=by rw[hF];exact uu
 have ltF:∀k∈F,k < rows.length:=fun k hk=>uv (by rw[←hF];exact hk)
 have fewF:F.length≤4:=by rw[hF];exact mH h.few
 have hh1:((S++G0)++G1)[hd]?=some (.list (hs.map .ref)):=af (af hh)
 have h1:fi ((S++G0)++G1) t dd hs rows w:=(h.app).app
 have st1:=bl (cf:=cfd (d + 4)) (x:=171) (loc:=[(262,.ref t),(149,.ref hd),(117,.ref p),(295,.int w')]) (bO (az (ag (x:=117) rfl) aF) e0)
 have st2:=bl (cf:=cfd (d + 4)) (x:=136) (loc:=[(262,.ref t),(149,.ref hd),(117,.ref p),(295,.int w'),(171,aD (R.map kx))]) (b5 (ag (x:=262) rfl) (c4 (h.app (G:=G0)).tab cO rfl uw) (az (iR (c:=131)) (az (ag (x:=171) rfl) (az (ag (x:=295) rfl) aF))) (show d8 PQ (cfd (d + 4)) (.fn 60) (.ref t) 223 [.str 131,aD (R.map kx),.int w'] (S++G0)=_ from e1))
 rcases A with⟨k,m,fk,rfl,dm⟩ | ⟨fn,f,ms,rfl,fa⟩
 ·have kF:=List.mem_of_find?_eq_some fk
  obtain⟨i,n,x,gi,ri,gr,okr⟩:=mG h1 (ltF k kF)
  refine⟨.int (Int.ofNat k),(G0++G1)++[.dict []],?_,.inl ⟨k,fk,rfl⟩⟩
  refine bH (F:=f90) rfl (by kernel_rfl) rfl rfl ?_
  have cm:=yX (af (G:=[AO.dict []]) dm) (aw (S:=(S++G0)++G1))
  have ix:=mJ (cf:=cfd (d + 4)) (af (G:=[AO.dict []]) hh1) h.nd gi (Dd (h1.app))
  rw[←ri] at ix
  rw[show S++((G0++G1)++[AO.dict []])=((S++G0)++G1)++[AO.dict []] by simp only[List.append_assoc]]
  exact aK st1 (aK st2 (d7 (cN (bI (iK (az (ag (x:=136) rfl) aF) rfl)) (d7 (dC (yI (bI (b9 (cw (ag (x:=136) rfl) bk rfl) uq cm)) (b5 (ag (x:=149) rfl) (b4 (af hh1)) (az (cw (ag (x:=136) rfl) bk rfl) aF) ix)))))))
 ·obtain⟨mm,him⟩:=oq (hs:=hs) fa.len ndF
  obtain⟨G2,e2⟩:=gH (cf:=cfd (d + 4)) (loc:=[(262,.ref t),(149,.ref hd),(117,.ref p),(295,.int w'),(171,aD (R.map kx)),(136,.ref f)]) (S:=(S++G0)++G1) (tg:=[230,267]) (it:=.of (.var 136)) (ifs:=[]) (elt:=.meth (.var 149) 152 [.var 230])
   (L:=F) (h:=fun k=>.tup [bP hs k,.ref (mm k)]) (f:=fun _=>true) (g:=fun k=>.int (Int.ofNat k)) (fW (ag rfl) (bb fa.at_)) (.inr ⟨_,rfl,him▸fa.at_⟩) (by omega)
   (fun a ha b hb e=>by
     have e:bP hs a=bP hs b:=(List.cons.inj (AV.tup.inj e)).1
     have:=jH h.nd (h.len▸ltF a ha) (h.len▸ltF b hb) e
     subst this;exact⟨rfl,rfl⟩)
   (fun a ha=>⟨_,ut,fun G'=>⟨⟨[],by rw[List.append_nil];exact FJ⟩,fun _=>⟨[],by
    obtain⟨i,n,x,gi,ri,gr,okr⟩:=mG h1 (ltF a ha)
    have ix:=mJ (cf:=cfd (d + 4)) (af (G:=G') hh1) h.nd gi (Dd (h1.app))
    rw[←ri] at ix
    rw[List.append_nil]
    exact b5 (ag (ab (ab (bz (loc:=[(262,.ref t),(149,.ref hd),(117,.ref p),(295,.int w'),(171,aD (R.map kx)),(136,.ref f)]) rfl (by decide)) (by decide)) (by decide))) (b4 (af hh1)) (az (ag (ab aq (by decide))) aF) ix⟩⟩⟩)
  rw[List.filter_eq_self.mpr fun _ _=>rfl] at e2
  refine⟨.ref ((S++G0)++G1).length,(G0++G1)++[.list (aX F)]++G2,?_,.inr ⟨fn,_,rfl,?_⟩⟩
  ·refine bH (F:=f90) rfl (by kernel_rfl) rfl rfl ?_
   rw[show S++((G0++G1)++[AO.list (aX F)]++G2)=(((S++G0)++G1)++[AO.list (aX F)])++G2 by simp only[List.append_assoc]]
   exact aK st1 (aK st2 (aK (cN (bI (iK (c:=.isTuple) (az (ag (x:=136) rfl) aF) (oS (bV fa.at_)))) b6) (d7 (dC e2))))
  ·have:=af (G:=G2) (aw (S:=(S++G0)++G1) (o:=.list (aX F)))
   simpa only[List.append_assoc] using this
end Mine
end
section
namespace Mine
variable {cf:CF} {loc loc1 loc' loc2:Loc} {S S1 S2 S3 T G:aa} {v u a b k:AV} {vs:List AV} {e e1 e2 t:IE} {l:List AV} {d:Nat}
structure im(S:aa)(rr sp:Nat)(rs ps:List Nat)(rows:List Rw):Prop where
 rl:S[rr]?=some (.list (rs.map .ref))
 sl:S[sp]?=some (.list (ps.map .ref))
 rlen:rs.length=rows.length
 slen:ps.length=rows.length
 row:∀(k r:Nat) (rw:Rw),rs[k]?=some r→rows[k]?=some rw→∃js,fg S r rw.parts js
 span:∀(k q:Nat) (rw:Rw),ps[k]?=some q→rows[k]?=some rw→S[q]?=some (.list [.int rw.b,rw.e])
 ok:∀rw∈rows,cc rw.parts∧(rw.e=.none∨∃x,rw.e=.int x)
 few:rows.length≤4
theorem im.app{rr sp:Nat}{rs ps:List Nat}{rows:List Rw}(h:im S rr sp rs ps rows):im (S++G) rr sp rs ps rows:=
 ⟨af h.rl,af h.sl,h.rlen,h.slen,fun k r rw e e'=>let⟨js,q⟩:=h.row k r rw e e';⟨js,q.app⟩,fun k q rw e e'=>af (h.span k q rw e e'),h.ok,h.few⟩
theorem im.at{rr sp:Nat}{rs ps:List Nat}{rows:List Rw}(h:im S rr sp rs ps rows){k:Nat}(hk:k < rows.length):∃r q js,rs[k]?=some r∧ps[k]?=some q∧fg S r (dE rows k).parts js∧S[q]?=some (.list [.int (dE rows k).b,(dE rows k).e])∧cc (dE rows k).parts∧((dE rows k).e=.none∨∃x,(dE rows k).e=.int x):=by
 obtain⟨rw_,hrw⟩:=bt hk
 obtain⟨r,gr⟩:=bt (l:=rs) (h.rlen▸hk)
 obtain⟨q,gq⟩:=bt (l:=ps) (h.slen▸hk)
 have e:dE rows k=rw_:=dD hrw
 rw[e]
 obtain⟨js,rj⟩:=h.row k r rw_ gr hrw
 have okk:=h.ok rw_ (List.mem_of_getElem? hrw)
 exact⟨r,q,js,gr,gq,rj,h.span k q rw_ gq hrw,okk.1,okk.2⟩
theorem lm{L:List Nat}{f:Nat→Bool}{g:Nat→AV}:∀j∈L,∀k∈L,(AV.int (Int.ofNat j))=AV.int (Int.ofNat k)→f j=f k∧g j=g k:=fun j _ k _ e=>by
 have:j=k:=Int.ofNat.inj (AV.int.inj e)
 subst this;exact⟨rfl,rfl⟩
noncomputable abbrev Ch(rows:List Rw)(R:List (List Nat))(w:Int):List Nat:=(List.range rows.length).filter fun k=>om (dE rows k) w&&bc R (dE rows k).parts
theorem Ci{rows:List Rw}{R:List (List Nat)}{w:Int}(ok:∀rw∈rows,cc rw.parts∧(rw.e=.none∨∃x,rw.e=.int x))(hR:cc R):Ch rows R w=ji rows (R.map kx) w 131:=by
 unfold Ch ji bm kL
 rw[if_pos rfl,List.filter_filter]
 refine List.filter_congr fun k hk=>?_
 have hk:=List.mem_range.mp hk
 obtain⟨rw_,hrw⟩:=bt hk
 have e:dE rows k=rw_:=dD hrw
 have okk:=ok rw_ (List.mem_of_getElem? hrw)
 unfold fit
 rw[e,fY hR okk.1,Bool.and_comm]
noncomputable def IP(rows:List Rw)(F:List Nat)(k:Nat):Bool:=((oth F k).filter (fun j=>!ru rows k j)++(oth F k).filter fun j=>ru rows j k).isEmpty
theorem FT{rows:List Rw}{F:List Nat}{k:Nat}:IP rows F k=pS rows F k:=by
 unfold IP pS
 generalize oth F k=L
 induction L with
 | nil=>rfl
 | cons x r ih=>
  rw[List.filter_cons,List.filter_cons,List.filter_cons]
  cases ru rows k x<;>cases ru rows x k
  ·simp
  ·simp
  ·simpa using ih
  ·simp
noncomputable abbrev Cj:List IS:=[.assign (.name 229) (.comp (.var 248) [.mk [248] (.of (.var 183)) [.val (.cmp .ne (.var 248) (.var 106))]]),.assign (.name 215) (.comp (.var 248) [.mk [248] (.of (.var 229)) [.not (.val (.call 86 [.sub (.var 231) (.var 106),.sub (.var 231) (.var 248)]))]]),.ite (.val (.cmp .eq (.bin .add (.var 215) (.comp (.var 248) [.mk [248] (.of (.var 229)) [.val (.call 86 [.sub (.var 231) (.var 248),.sub (.var 231) (.var 106)])]])) (.list []))) [.ret (.var 106)] []]
theorem FU{rr sp p:Nat}{rs ps js:List Nat}{R:List (List Nat)}{rows:List Rw}{w':Int}(h:im S rr sp rs ps rows)(hp:fg S p R js)(ok:cc R):
  ∃v G,cfd (d + 3) 89 [.ref rr,.ref sp,.ref p,.int w'] S=some (v,S++G)∧Ans (S++G) rows (Ch rows R w') v:=by
 have fr:=h.few
 obtain⟨G1,e1⟩:=gH (cf:=cfd (d + 2)) (loc:=[(231,.ref rr),(246,.ref sp),(117,.ref p),(295,.int w')]) (S:=S) (tg:=[106]) (it:=.rng (.bi .len [.var 231])) (ifs:=[.and [.val (.call 88 [.var 246,.var 106,.var 295]),.val (.call 86 [.var 117,.sub (.var 231) (.var 106)])]]) (elt:=.var 106)
  (L:=List.range rows.length) (h:=fun k=>.int (Int.ofNat k)) (f:=fun k=>om (dE rows k) w'&&bc R (dE rows k).parts) (g:=fun k=>.int (Int.ofNat k))
  (by
   have:=n9 (cf:=cfd (d + 2)) (loc:=[(231,.ref rr),(246,.ref sp),(117,.ref p),(295,.int w')]) (iK (az (ag (x:=231) rfl) aF) (gA h.rl)) (Int.natCast_nonneg _) (by rw[List.length_map,h.rlen];omega)
   rw[List.length_map,h.rlen] at this
   exact this) (.inl rfl) (by rw[List.length_range];omega) lm
  (fun k hk=>⟨[(231,.ref rr),(246,.ref sp),(117,.ref p),(295,.int w'),(106,.int (Int.ofNat k))],rfl,fun G=>by
   obtain⟨r,q,ks,gr,gq,rj,sq,okk,ek⟩:=h.at (List.mem_range.mp hk)
   have c1:=bI (bO (cf:=cfd (d + 2)) (loc:=[(231,.ref rr),(246,.ref sp),(117,.ref p),(295,.int w'),(106,.int (Int.ofNat k))]) (f:=88) (az (ag (x:=246) rfl) (az (ag (x:=106) rfl) (az (ag (x:=295) rfl) aF))) (tf (d:=d + 1) (w:=w') (af (G:=G) h.sl) (dO gq) (af sq) ek))
   refine⟨?_,fun _=>⟨[],by rw[List.append_nil];exact ag rfl⟩⟩
   unfold om
   cases hl:decide ((dE rows k).b≤w')&&jh (dE rows k).e w' with
   | false=>
    rw[hl] at c1
    exact⟨[],by rw[List.append_nil];exact iL (kf c1 rfl)⟩
   | true=>
    rw[hl] at c1
    obtain⟨G2,e2⟩:=cA (d:=d) (hp.app (G:=G)) (rj.app (G:=G)) ok
    exact⟨G2,iL (kf c1 (iL (bI (bO (az (ag rfl) (az (cw (ag rfl) (ag rfl) (bw (af h.rl) (dO gr))) aF)) e2))))⟩⟩)
 obtain⟨F,hF⟩:∃F,F=Ch rows R w':=⟨_,rfl⟩
 rw[show(List.filter (fun k=>om (dE rows k) w'&&bc R (dE rows k).parts) (List.range rows.length))=F from hF.symm] at e1
 rw[←hF]
 have ltF:∀k∈F,k < rows.length:=fun k hk=>by rw[hF] at hk;exact List.mem_range.mp (List.mem_filter.mp hk).1
 have fewF:F.length≤4:=by rw[hF];exact Nat.le_trans (List.length_filter_le _ _) (by rw[List.length_range];omega)
 have gm:∀{G:aa},(((S++[AO.list (aX F)])++G1)++G)[S.length]?=some (.list (aX F)):=fun {G}=>af (af aw)
 have lp:=jG (cf:=cfd (d + 2)) (loc:=[(231,.ref rr),(246,.ref sp),(117,.ref p),(295,.int w'),(183,.ref S.length)]) (S:=(S++[AO.list (aX F)])++G1) (tg:=[106]) (it:=.of (.var 183)) (b:=Cj) (l:=aX F) (stop:=fun j=>match F[j]? with | some k=>pS rows F k | none=>false)
  (Inv:=fun _ loc T=>get? 231 loc=some (.ref rr)∧get? 183 loc=some (.ref S.length)∧∃G,T=((S++[AO.list (aX F)])++G1)++G)
  (Post:=fun j v T=>∃k,F[j]?=some k∧v=.int (Int.ofNat k)∧∃G,T=((S++[AO.list (aX F)])++G1)++G)
  (fW (ag rfl) (bb (af aw))) (.inr ⟨_,rfl,fun k loc T I=>I.2.2.elim fun G q=>q▸gm⟩) (by rw[List.length_map];omega) ⟨rfl,rfl,[],by rw[List.append_nil]⟩
  (fun j v loc T hv I=>by
   obtain⟨i1,i2,G,rfl⟩:=I
   obtain⟨k,gk⟩:∃k,F[j]?=some k:=bt (by have:=ae hv;rwa [List.length_map] at this)
   rw[List.getElem?_map,gk] at hv
   cases hv
   have kF:=List.mem_of_getElem? gk
   simp only[gk]
   have hh:=h.app (G:=[AO.list (aX F)]++G1++G)
   rw[show S++([AO.list (aX F)]++G1++G)=((S++[AO.list (aX F)])++G1)++G by simp only[List.append_assoc]] at hh
   obtain⟨S0,hS0⟩:∃S0,S0=((S++[AO.list (aX F)])++G1)++G:=⟨_,rfl⟩
   have gm0:S0[S.length]?=some (.list (aX F)):=by rw[hS0];exact gm
   rw[←hS0] at hh ⊢
   obtain⟨Ga,ea⟩:=gH (cf:=cfd (d + 2)) (loc:=upd 106 (.int (Int.ofNat k)) loc) (S:=S0) (tg:=[248]) (it:=.of (.var 183)) (ifs:=[.val (.cmp .ne (.var 248) (.var 106))]) (elt:=.var 248)
    (L:=F) (h:=fun k=>.int (Int.ofNat k)) (f:=fun j=>!(j==k)) (g:=fun k=>.int (Int.ofNat k)) (fW (ag (ab i2 (by decide))) (bb gm0)) (.inr ⟨_,rfl,gm0⟩) (by omega) lm
    (fun a ha=>⟨_,c5,fun G'=>⟨⟨[],by rw[List.append_nil];exact iL (bI (b9 (ag aq) (ag (ab (bz aq (by decide)) (by decide))) jg))⟩,fun _=>⟨[],by rw[List.append_nil];exact ag aq⟩⟩⟩)
   obtain⟨Sa,hSa⟩:∃Sa,Sa=(S0++[AO.list (aX (oth F k))])++Ga:=⟨_,rfl⟩
   have ga:Sa[S0.length]?=some (.list (aX (oth F k))):=by rw[hSa];exact af aw
   have ea:evE PQ (cfd (d + 2)) 1000 (.comp (.var 248) [.mk [248] (.of (.var 183)) [.val (.cmp .ne (.var 248) (.var 106))]]) (upd 106 (.int (Int.ofNat k)) loc) S0=some (.ref S0.length,Sa):=by rw[hSa];exact ea
   have hha:=hh.app (G:=[AO.list (aX (oth F k))]++Ga)
   rw[←List.append_assoc,←hSa] at hha
   have othF:∀a∈oth F k,a < rows.length:=fun a ha=>ltF a (List.mem_filter.mp ha).1
   have othN:(oth F k).length < 1000:=Nat.lt_of_le_of_lt (List.length_filter_le _ _) (by omega)
   obtain⟨rk,qk,kj,grk,gqk,rjk,sqk,okk,ekk⟩:=hha.at (ltF k kF)
   obtain⟨Gb,eb⟩:=gH (cf:=cfd (d + 2)) (loc:=upd 229 (.ref S0.length) (upd 106 (.int (Int.ofNat k)) loc)) (S:=Sa) (tg:=[248]) (it:=.of (.var 229)) (ifs:=[.not (.val (.call 86 [.sub (.var 231) (.var 106),.sub (.var 231) (.var 248)]))]) (elt:=.var 248)
    (L:=oth F k) (h:=fun k=>.int (Int.ofNat k)) (f:=fun j=>!ru rows k j) (g:=fun k=>.int (Int.ofNat k)) (fW (ag aq) (bb ga)) (.inr ⟨_,rfl,ga⟩) othN lm
    (fun a ha=>⟨_,c5,fun G'=>by
     obtain⟨ra,qa,aj,gra,gqa,rja,sqa,oka,eka⟩:=hha.at (othF a ha)
     obtain⟨G2,e2⟩:=cA (d:=d) (rjk.app (G:=G')) (rja.app (G:=G')) okk
     exact⟨⟨G2,iL (yK (bI (bO (az (cw (ag (ab (bz (ab (ab i1 (by decide)) (by decide)) (by decide)) (by decide))) (ag (ab (bz (ab aq (by decide)) (by decide)) (by decide))) (bw (af hha.rl) (dO grk))) (az (cw (ag (ab (bz (ab (ab i1 (by decide)) (by decide)) (by decide)) (by decide))) (ag aq) (bw (af hha.rl) (dO gra))) aF)) e2)))⟩,fun _=>⟨[],by rw[List.append_nil];exact ag aq⟩⟩⟩)
   obtain⟨Sb,hSb⟩:∃Sb,Sb=(Sa++[AO.list (aX ((oth F k).filter fun j=>!ru rows k j))])++Gb:=⟨_,rfl⟩
   have gb:Sb[Sa.length]?=some (.list (aX ((oth F k).filter fun j=>!ru rows k j))):=by rw[hSb];exact af aw
   have eb:evE PQ (cfd (d + 2)) 1000 (.comp (.var 248) [.mk [248] (.of (.var 229)) [.not (.val (.call 86 [.sub (.var 231) (.var 106),.sub (.var 231) (.var 248)]))]]) (upd 229 (.ref S0.length) (upd 106 (.int (Int.ofNat k)) loc)) Sa=some (.ref Sa.length,Sb):=by rw[hSb];exact eb
   have hhb:=hha.app (G:=[AO.list (aX ((oth F k).filter fun j=>!ru rows k j))]++Gb)
   rw[←List.append_assoc,←hSb] at hhb
   have gab:Sb[S0.length]?=some (.list (aX (oth F k))):=by rw[hSb];exact af (af ga)
   obtain⟨rk,qk,kj,grk,gqk,rjk,sqk,okk,ekk⟩:=hhb.at (ltF k kF)
   obtain⟨Gc,ec⟩:=gH (cf:=cfd (d + 2)) (loc:=upd 215 (.ref Sa.length) (upd 229 (.ref S0.length) (upd 106 (.int (Int.ofNat k)) loc))) (S:=Sb) (tg:=[248]) (it:=.of (.var 229)) (ifs:=[.val (.call 86 [.sub (.var 231) (.var 248),.sub (.var 231) (.var 106)])]) (elt:=.var 248)
    (L:=oth F k) (h:=fun k=>.int (Int.ofNat k)) (f:=fun j=>ru rows j k) (g:=fun k=>.int (Int.ofNat k)) (fW (ag (ab aq (by decide))) (bb gab)) (.inr ⟨_,rfl,gab⟩) othN lm
    (fun a ha=>⟨_,c5,fun G'=>by
     obtain⟨ra,qa,aj,gra,gqa,rja,sqa,oka,eka⟩:=hhb.at (othF a ha)
     obtain⟨G2,e2⟩:=cA (d:=d) (rja.app (G:=G')) (rjk.app (G:=G')) oka
     exact⟨⟨G2,iL (bI (bO (az (cw (ag (ab (bz (ab (ab (ab i1 (by decide)) (by decide)) (by decide)) (by decide)) (by decide))) (ag aq) (bw (af hhb.rl) (dO gra))) (az (cw (ag (ab (bz (ab (ab (ab i1 (by decide)) (by decide)) (by decide)) (by decide)) (by decide))) (ag (ab (bz (ab (ab aq (by decide)) (by decide)) (by decide)) (by decide))) (bw (af hhb.rl) (dO grk))) aF)) e2))⟩,fun _=>⟨[],by rw[List.append_nil];exact ag aq⟩⟩⟩)
   obtain⟨Sc,hSc⟩:∃Sc,Sc=(Sb++[AO.list (aX ((oth F k).filter fun j=>ru rows j k))])++Gc:=⟨_,rfl⟩
   have gc:Sc[Sb.length]?=some (.list (aX ((oth F k).filter fun j=>ru rows j k))):=by rw[hSc];exact af aw
   have ec:evE PQ (cfd (d + 2)) 1000 (.comp (.var 248) [.mk [248] (.of (.var 229)) [.val (.call 86 [.sub (.var 231) (.var 248),.sub (.var 231) (.var 106)])]]) (upd 215 (.ref Sa.length) (upd 229 (.ref S0.length) (upd 106 (.int (Int.ofNat k)) loc))) Sb=some (.ref Sb.length,Sc):=by rw[hSc];exact ec
   have gbc:Sc[Sa.length]?=some (.list (aX ((oth F k).filter fun j=>!ru rows k j))):=by rw[hSc];exact af (af gb)
   have ad:=kg gbc gc (by
    have h1:=List.length_filter_le (fun j=>!ru rows k j) (oth F k)
    have h2:=List.length_filter_le (fun j=>ru rows j k) (oth F k)
    have h3:(oth F k).length≤F.length:=List.length_filter_le _ _
    have L:lim=1000:=rfl
    rw[List.length_append,List.length_map,List.length_map];omega)
   rw[←List.map_append] at ad
   have cn:=(gB (af (G:=[AO.list []]) (aw (S:=Sc) (o:=.list (aX ((oth F k).filter (fun j=>!ru rows k j)++(oth F k).filter fun j=>ru rows j k))))) aw).1
   rw[c0,show((oth F k).filter (fun j=>!ru rows k j)++(oth F k).filter fun j=>ru rows j k).isEmpty=pS rows F k from FT] at cn
   have tst:=bI (b9 (cf:=cfd (d + 2)) (cM (ag (x:=215) aq) ec ad) (r_list aF) cn)
   have fin:∃G',(Sc++[AO.list (aX ((oth F k).filter (fun j=>!ru rows k j)++(oth F k).filter fun j=>ru rows j k))])++[AO.list []]=((S++[AO.list (aX F)])++G1)++G':=⟨G++[AO.list (aX (oth F k))]++Ga++[AO.list (aX ((oth F k).filter fun j=>!ru rows k j))]++Gb++[AO.list (aX ((oth F k).filter fun j=>ru rows j k))]++Gc++[AO.list (aX ((oth F k).filter (fun j=>!ru rows k j)++(oth F k).filter fun j=>ru rows j k))]++[AO.list []],by rw[hSc,hSb,hSa,hS0];simp only[List.append_assoc]⟩
   constructor
   ·intro st
    rw[st] at tst
    exact⟨_,_,bL c5 (aK (bl ea) (aK (bl eb) (d7 (cN tst (d7 (dC (ag (ab (ab aq (by decide)) (by decide))))))))),k,rfl,rfl,fin⟩
   ·intro st
    rw[st] at tst
    exact⟨_,_,bL c5 (aK (bl ea) (aK (bl eb) (aK (cN tst b6) b6))),ab (ab (ab i1 (by decide)) (by decide)) (by decide),ab (ab (ab i2 (by decide)) (by decide)) (by decide),fin⟩)
 have first:=bl (x:=183) e1
 rcases lp with⟨j,hj,st,bef,v,T,el,k,gk,ev,G,rfl⟩ | ⟨bef,loc,T,el,i1,i2,G,rfl⟩
 ·refine⟨v,[AO.list (aX F)]++G1++G,?_,.inl ⟨k,?_,ev⟩⟩
  ·refine bH (F:=f89) rfl (by kernel_rfl) rfl rfl ?_
   rw[show S++([AO.list (aX F)]++G1++G)=((S++[AO.list (aX F)])++G1)++G by simp only[List.append_assoc]]
   exact aK first (d7 el)
  ·simp only[gk] at st
   exact on gk st fun i hi y gy=>by have:=bef i hi;simpa only[gy] using this
 ·refine⟨.ref S.length,[AO.list (aX F)]++G1++G,?_,.inr ⟨?_,S.length,rfl,?_⟩⟩
  ·refine bH (F:=f89) rfl (by kernel_rfl) rfl rfl ?_
   rw[show S++([AO.list (aX F)]++G1++G)=((S++[AO.list (aX F)])++G1)++G by simp only[List.append_assoc]]
   exact aK first (aK el (d7 (dC (ag i2))))
  ·exact oo fun i y gy=>by have:=bef i (by rw[List.length_map];exact ae gy);simpa only[gy] using this
  ·rw[show S++([AO.list (aX F)]++G1++G)=((S++[AO.list (aX F)])++G1)++G by simp only[List.append_assoc]]
   exact gm
end Mine
end
section
namespace Mine
variable {cf:CF} {loc loc1 loc' loc2:Loc} {S S1 S2 S3 T G:aa} {v u a b k:AV} {vs:List AV} {e e1 e2 t:IE} {l:List AV} {d:Nat}
theorem fq{x y:Int}:pV PQ.emp .add (.int x) (.int y) S=some (.int (x + y),S):=aO (x + y) fun i=>some (AV.int i,S)
theorem pT{x y:Int}(h:lx x=true)(h2:lx y=true):pV PQ.emp .mul (.int x) (.int y) S=some (.int (x * y),S):=(bT (jQ h h2)).trans (aO (x * y) fun i=>some (AV.int i,S))
theorem mK{x y:Int}(h:0 < y)(h2:y < 1000000000):pV PQ.emp .fdiv (.int x) (.int y) S=some (.int (Int.fdiv x y),S):=(bT (jQ (decide_eq_true h) (decide_eq_true h2))).trans (aO (Int.fdiv x y) fun i=>some (AV.int i,S))
theorem lq{x y:Int}(h:0 < y):pV PQ.emp .mod (.int x) (.int y) S=some (.int (Int.fmod x y),S):=(bT (decide_eq_true h)).trans (aO (Int.fmod x y) fun i=>some (AV.int i,S))
theorem mM{x:Int}(h:0≤x)(h2:x < 2000000):lx x=true:=by
 have e:big=18446744073709551616:=by decide
 unfold lx
 rw[e]
 simp
 omega
theorem ls{x y:Int}(h:0 < y):0≤Int.fmod x y∧Int.fmod x y < y:=⟨Int.fmod_nonneg_of_pos x h,Int.fmod_lt_of_pos x h⟩
theorem mO{α:Type}:∀(A B:List α) (i:Nat) (y:α),i < A.length→setAt (A++B) i y=setAt A i y++B
 | [],B,i,y,h=>absurd h (Nat.not_lt_zero _)
 | a::A,B,0,y,h=>rfl
 | a::A,B,i + 1,y,h=>congrArg (a::·) (mO A B i y (Nat.lt_of_succ_lt_succ h))
theorem io{α:Type}:∀(A:List α) (i:Nat) (x y:α),setAt (setAt A i x) i y=setAt A i y
 | [],i,x,y=>rfl
 | a::A,0,x,y=>rfl
 | a::A,i + 1,x,y=>congrArg (a::·) (io A i x y)
theorem gI{α:Type}:∀(A:List α) (i:Nat) (x:α),(setAt A i x).length=A.length
 | [],i,x=>rfl
 | a::A,0,x=>rfl
 | a::A,i + 1,x=>congrArg Nat.succ (gI A i x)
theorem fZ{α:Type}:∀(A:List α) (i:Nat) (x:α),i < A.length→(setAt A i x)[i]?=some x
 | [],i,x,h=>absurd h (Nat.not_lt_zero _)
 | a::A,0,x,h=>rfl
 | a::A,i + 1,x,h=>by
  show(setAt A i x)[i]?=some x
  exact fZ A i x (Nat.lt_of_succ_lt_succ h)
theorem eG{α:Type}:∀(A:List α) (i j:Nat) (x:α),i≠j→(setAt A i x)[j]?=A[j]?
 | [],i,j,x,h=>rfl
 | a::A,0,0,x,h=>absurd rfl h
 | a::A,0,j + 1,x,h=>rfl
 | a::A,i + 1,0,x,h=>rfl
 | a::A,i + 1,j + 1,x,h=>by
  show(setAt A i x)[j]?=A[j]?
  exact eG A i j x fun q=>h (congrArg Nat.succ q)
noncomputable def cW(S:aa)(q:Nat):Prop:=∃a b:Int,S[q]?=some (.list [.int a,.int b])∧0≤b∧b < 1999771
noncomputable def bG(S:aa)(q:Nat)(S':aa):Prop:=∃a b G,S'=setAt S q (.list [.int a,.int b])++G∧0≤b∧b < 1999771
theorem cW.lt{q:Nat}(h:cW S q):q < S.length:=let⟨a,b,g,_⟩:=h;ae g
theorem bG.at{q:Nat}(h:cW S q)(D:bG S q S1):cW S1 q:=by
 obtain⟨a,b,G,rfl,h1,h2⟩:=D
 exact⟨a,b,af (fZ _ _ _ h.lt),h1,h2⟩
theorem bG.le{q:Nat}(D:bG S q S1):S.length≤S1.length:=by
 obtain⟨a,b,G,rfl,_⟩:=D
 rw[List.length_append,gI];exact Nat.le_add_right _ _
theorem bG.other{q i:Nat}{o:AO}(D:bG S q S1)(h:S[i]?=some o)(ne:i≠q):S1[i]?=some o:=by
 obtain⟨a,b,G,rfl,_⟩:=D
 exact af ((eG _ _ _ _ (Ne.symm ne)).trans h)
theorem bG.app{q:Nat}(D:bG S q S1):bG S q (S1++G):=by
 obtain⟨a,b,G',rfl,h⟩:=D
 exact⟨a,b,G'++G,List.append_assoc _ _ _,h⟩
theorem rE{α:Type}:∀(A:List α) (i:Nat) (x:α),A[i]?=some x→setAt A i x=A
 | [],i,x,h=>rfl
 | a::A,0,x,h=>by cases h;rfl
 | a::A,i + 1,x,h=>congrArg (a::·) (rE A i x h)
theorem bG.refl{q:Nat}(h:cW S q):bG S q S:=by
 obtain⟨a,b,g,h1,h2⟩:=h
 exact⟨a,b,[],by rw[List.append_nil,rE _ _ _ g],h1,h2⟩
theorem bG.trans{q:Nat}(h:cW S q)(D:bG S q S1)(D2:bG S1 q S2):bG S q S2:=by
 obtain⟨a,b,G,rfl,_⟩:=D
 obtain⟨a',b',G',rfl,h'⟩:=D2
 refine⟨a',b',G++G',?_,h'⟩
 rw[mO _ _ _ _ (by rw[gI];exact h.lt),io,List.append_assoc]
theorem vQ{q:Nat}{m:Int}(h:cW S q)(h0:0 < m)(h1:m < 1000000000):∃r S',cfd (d + 1) 82 [.ref q,.int m] S=some (.int r,S')∧bG S q S'∧S'.length=S.length∧0≤r∧r < m:=by
 obtain⟨a,b,g,b0,b1⟩:=h
 have lt:=ae g
 have v0:∀{T:aa} {L:Loc} {j:Nat} {x y z:Int},T[q]?=some (.list [.int x,.int y])→get? 237 L=some (.ref q)→(j=0∧z=x∨j=1∧z=y)→evE PQ (cfd d) 1000 (.sub (.var 237) (.int j)) L T=some (.int z,T):=fun {T L j x y z} gT gL hz=>by
  rcases hz with⟨rfl,rfl⟩ | ⟨rfl,rfl⟩
  ·exact cw (ag gL) bk (bw (k:=0) gT rfl)
  ·exact cw (ag gL) bk (bw (k:=1) gT rfl)
 have st1:=s9 (cf:=cfd d) (loc:=[(237,.ref q),(186,.int m)]) (e1:=.var 237) (e2:=.int 1) (j:=1)
  (cM (op:=.mod) (cM (op:=.add) (cM (op:=.mul) (v0 (j:=1) g rfl (.inr ⟨rfl,rfl⟩)) (bk (i:=6449)) (pT (mM b0 (by omega)) rfl)) (bk (i:=733)) fq) (bk (i:=1999771)) (lq (by decide))) (ag rfl) bk g ⟨by decide,by simp⟩
 have fb:=ls (x:=b * 6449 + 733) (y:=1999771) (by decide)
 have g1:(setAt S q (.list [.int a,.int (Int.fmod (b * 6449 + 733) 1999771)]))[q]?=some (.list [.int a,.int (Int.fmod (b * 6449 + 733) 1999771)]):=fZ _ _ _ lt
 have st2:=bl (cf:=cfd d) (x:=146) (loc:=[(237,.ref q),(186,.int m)]) (cM (op:=.mod) (cM (op:=.add) (v0 (j:=0) g1 rfl (.inl ⟨rfl,rfl⟩)) (cM (op:=.fdiv) (v0 (j:=1) g1 rfl (.inr ⟨rfl,rfl⟩)) (bk (i:=23)) (mK (by decide) (by decide))) fq) (ag (x:=186) rfl) (lq h0))
 have st3:=s9 (cf:=cfd d) (loc:=[(237,.ref q),(186,.int m),(146,.int (Int.fmod (a + Int.fdiv (Int.fmod (b * 6449 + 733) 1999771) 23) m))]) (e1:=.var 237) (e2:=.int 0) (j:=0)
  (cM (op:=.fdiv) (v0 (j:=0) g1 rfl (.inl ⟨rfl,rfl⟩)) (ag (x:=186) rfl) (mK h0 h1)) (ag rfl) bk g1 ⟨by decide,by simp⟩
 have fr:=ls (x:=a + Int.fdiv (Int.fmod (b * 6449 + 733) 1999771) 23) h0
 refine⟨Int.fmod (a + Int.fdiv (Int.fmod (b * 6449 + 733) 1999771) 23) m,setAt (setAt S q (.list [.int a,.int (Int.fmod (b * 6449 + 733) 1999771)])) q (.list [.int (Int.fdiv a m),.int (Int.fmod (b * 6449 + 733) 1999771)]),?_,?_,by rw[gI,gI],fr.1,fr.2⟩
 ·refine bH (F:=f82) rfl (by kernel_rfl) rfl rfl ?_
  exact aK st1 (aK st2 (aK st3 (d7 (dC (ag rfl)))))
 ·exact⟨Int.fdiv a m,_,[],by rw[io,List.append_nil],fb.1,fb.2⟩
end Mine
end
section
namespace Mine
variable {cf:CF} {loc loc1 loc' loc2:Loc} {S S1 S2 S3 T G:aa} {v u a b k:AV} {vs:List AV} {e e1 e2 t:IE} {l:List AV} {d:Nat}
theorem kN{α:Type}:∀(A B:List α) (i:Nat) (y:α),A.length≤i→setAt (A++B) i y=A++setAt B (i - A.length) y
 | [],B,i,y,h=>rfl
 | a::A,B,0,y,h=>absurd h (Nat.not_succ_le_zero _)
 | a::A,B,i + 1,y,h=>by
  rw[List.length_cons,Nat.succ_sub_succ]
  exact congrArg (a::·) (kN A B i y (Nat.le_of_succ_le_succ h))
theorem bG.set{q j:Nat}{o:AO}(D:bG S q S1)(h:S.length≤j):bG S q (setAt S1 j o):=by
 obtain⟨a,b,G,rfl,h1⟩:=D
 exact⟨a,b,_,kN _ _ _ _ (by rw[gI];exact h),h1⟩
theorem rF{x y:Int}:iE PQ.eqt .eq (.int x) (.int y) S=some (.bool (x==y),S):=by
 have e0:eqV S (.int x) (.int y)=cR (x==y) some:=rfl
 have this:eqT PQ.eqt S (.int x) (.int y)=some (x==y):=oS (e0.trans (be _ _))
 exact oS this
noncomputable def NL:List Nat:=ku (List.map (fun p:Nat×AV=>p.1) l80)
theorem yY:(NL.all dM&&Nat.beq NL.length 8)=true:=by kernel_rfl
theorem FV:NL.length=8:=by have:=yY;rw[Bool.and_eq_true] at this;exact Nat.eq_of_beq_eq_true this.2
theorem yZ{c:Nat}(h:c∈NL):dM c=true:=by have:=yY;rw[Bool.and_eq_true] at this;exact List.all_eq_true.mp this.1 c h
theorem Ck:Nat.ble l80.length 60=true:=by kernel_rfl
theorem za:biV .sorted [.dct l80] S=some (.ref S.length,S++[.list (NL.map .str)]):=(show _=am (Nat.ble l80.length 60) (newList (NL.map .str) S) none from rfl).trans ((bT Ck).trans aR)
theorem mP{q:Nat}{m:Int}{em:IE}(hq:get? 237 loc=some (.ref q))(hm:∀T,(T=S)→evE PQ (cfd (d + 1)) 1000 em loc T=some (.int m,T))(h:cW S q)(h0:0 < m)(h1:m < 1000000000):
  ∃k S',evE PQ (cfd (d + 1)) 1000 (.call 82 [.var 237,em]) loc S=some (.int (Int.ofNat k),S')∧bG S q S'∧S'.length=S.length∧(Int.ofNat k) < m:=by
 obtain⟨r,S',e,D,sl,r0,r1⟩:=vQ (d:=d) h h0 h1
 obtain⟨k,rfl⟩:=Int.eq_ofNat_of_zero_le r0
 exact⟨k,S',bO (az (ag hq) (az (hm S rfl) aF)) e,D,sl,r1⟩
theorem zb{q i:Nat}{em:IE}{L:List AV}{x:Nat}(hq:get? 237 loc=some (.ref q))(hx:get? x loc=some (.ref i))(hi:S[i]?=some (.list L))(ne:i≠q)(h:cW S q)(h0:0 < L.length)(h1:L.length < 1000):
  ∃(k:Nat) (w:AV) (S':aa),L[k]?=some w∧evE PQ (cfd (d + 1)) 1000 (.sub (.var x) (.call 82 [.var 237,.bi .len [.var x]])) loc S=some (w,S')∧bG S q S'∧S'.length=S.length:=by
 obtain⟨k,S',e,D,sl,lt⟩:=mP (d:=d) (em:=.bi .len [.var x]) (m:=L.length) hq (fun T hT=>by subst hT;exact iK (az (ag hx) aF) (gA hi)) h (by omega) (by omega)
 have lt:k < L.length:=by have:((k:Nat):Int) < (L.length:Int):=lt;omega
 obtain⟨w,gw⟩:=bt lt
 exact⟨k,w,S',gw,cw (ag hx) e (bw (D.other hi ne) gw),D,sl⟩
theorem zc{q:Nat}(h:cW S q):∃j S' p,cfd (d + 2) 84 [.ref q] S=some (.ref j,S')∧bG S q S'∧S.length≤j∧cV S' j p∧okL p=true∧∀a∈p,dM a=true:=by
 have qlt:=h.lt
 have st1:=bl (cf:=cfd (d + 1)) (x:=203) (loc:=[(237,.ref q)]) (iK (c:=.sorted) (az (yH (S:=S) yL) aF) za)
 have h1:cW (S++[.list (NL.map .str)]) q:=let⟨a,b,g,r⟩:=h;⟨a,b,af g,r⟩
 have nl:(NL.map AV.str).length=8:=by rw[List.length_map,FV]
 have pX:∀{L:Loc} {T:aa},get? 237 L=some (.ref q)→get? 203 L=some (.ref S.length)→T[S.length]?=some (.list (NL.map .str))→cW T q→∃c S',c∈NL∧evE PQ (cfd (d + 1)) 1000 (.sub (.var 203) (.call 82 [.var 237,.bi .len [.var 203]])) L T=some (.str c,S')∧bG T q S'∧S'.length=T.length:=fun {L T} a1 a2 a3 a4=>by
  obtain⟨k,w,S',gw,e,D,sl⟩:=zb (d:=d) (em:=.none) a1 a2 a3 (Nat.ne_of_gt qlt) a4 (by rw[nl];decide) (by rw[nl];decide)
  rw[List.getElem?_map] at gw
  cases hc:NL[k]? with
  | none=>rw[hc] at gw;cases gw
  | some c=>rw[hc] at gw;cases gw;exact⟨c,S',List.mem_of_getElem? hc,e,D,sl⟩
 obtain⟨c,S2,hc,e2,D2,l2⟩:=pX (L:=[(237,.ref q),(203,.ref S.length)]) rfl rfl aw h1
 have dq:bG S q S2:=((bG.refl h).app).trans h D2
 have h2:=dq.at h
 have st2:=bl (cf:=cfd (d + 1)) (x:=244) (r_list (az e2 aF))
 have g2:S2[S.length]?=some (.list (NL.map .str)):=D2.other aw (Nat.ne_of_gt qlt)
 have l2':S.length < S2.length:=by rw[l2];simp
 have h3:cW (S2++[.list [.str c]]) q:=let⟨a,b,g,r⟩:=h2;⟨a,b,af g,r⟩
 obtain⟨r,S3,e3,D3,l3,lt3⟩:=mP (d:=d) (loc:=[(237,.ref q),(203,.ref S.length),(244,.ref S2.length)]) (em:=.int 4) (m:=4) rfl (fun T _=>bk) h3 (by decide) (by decide)
 have d3:bG S q S3:=(dq.app).trans h D3
 have ne2:S2.length≠q:=fun z=>by have:=qlt;omega
 have g3:S3[S2.length]?=some (.list [.str c]):=D3.other aw ne2
 have tst:=bI (b9 (cf:=cfd (d + 1)) (op:=.eq) e3 (bk (i:=0)) rF)
 cases hb:(Int.ofNat r==(0:Int)) with
 | false=>
  rw[hb] at tst
  refine⟨S2.length,S3,[c],?_,d3,Nat.le_of_lt l2',g3,rfl,fun a ha=>?_⟩
  ·refine bH (F:=f84) rfl (by kernel_rfl) rfl rfl ?_
   exact aK st1 (aK st2 (aK (cN tst b6) (d7 (dC (ag rfl)))))
  ·rw[List.mem_singleton] at ha;subst ha;exact yZ hc
 | true=>
  rw[hb] at tst
  have g3':S3[S.length]?=some (.list (NL.map .str)):=D3.other (af g2) (Nat.ne_of_gt qlt)
  obtain⟨c2,S4,hc2,e4,D4,l4⟩:=pX (L:=[(237,.ref q),(203,.ref S.length),(244,.ref S2.length)]) rfl rfl g3' (d3.at h)
  have g4:S4[S2.length]?=some (.list [.str c]):=D4.other g3 ne2
  have ap:=fm (cf:=cfd (d + 1)) (v:=.str c2) g4 (by show 1 < lim;decide)
  refine⟨S2.length,setAt S4 S2.length (.list [.str c,.str c2]),[c,c2],?_,(d3.trans h D4).set (Nat.le_of_lt l2'),Nat.le_of_lt l2',(show(setAt S4 S2.length (.list [.str c,.str c2]))[S2.length]?=_ from fZ _ _ _ (ae g4)),rfl,fun a ha=>?_⟩
  ·refine bH (F:=f84) rfl (by kernel_rfl) rfl rfl ?_
   exact aK st1 (aK st2 (aK (cN tst (aK (jd (b5 (ag rfl) (b4 g3) (az e4 aF) ap)) b6)) (d7 (dC (ag rfl)))))
  ·rcases List.mem_cons.mp ha with rfl | ha
   ·exact yZ hc
   ·rw[List.mem_singleton] at ha;subst ha;exact yZ hc2
theorem Cl{ns:List Int}{k:Nat}(hk:k < 2):∃a b:Int,cfd (d + 1) 81 [.lst (ns.map .int),.int (Int.ofNat k)] S=some (.ref S.length,S++[.list [.int a,.int b]])∧0≤b∧b < 1999771:=by
 have ln:evE PQ (cfd d) 1000 (.bi .len [.var 235]) [(235,.lst (ns.map .int)),(170,.int (Int.ofNat k))] S=some (.int ns.length,S):=iK (az (ag rfl) aF) (by
  show bA (((ns.map AV.int).length:Nat):Int) (fun i=>some (AV.int i,S))=_
  rw[aO,List.length_map])
 have tst:=bI (b9 (op:=.lt) (ag (x:=170) rfl) ln yR)
 obtain⟨x,x0,ex⟩:∃x:Int,0≤x∧evE PQ (cfd d) 1000 (.ite (.val (.cmp .lt (.var 170) (.bi .len [.var 235]))) (.bi .abs [.sub (.var 235) (.var 170)]) (.int 0)) [(235,.lst (ns.map .int)),(170,.int (Int.ofNat k))] S=some (.int x,S):=by
  cases hd:decide ((Int.ofNat k:Int) < (ns.length:Int)) with
  | false=>rw[hd] at tst;exact⟨0,Int.le_refl _,yI tst bk⟩
  | true=>
   rw[hd] at tst
   have lt:k < ns.length:=by have:((k:Nat):Int) < (ns.length:Int):=of_decide_eq_true hd;omega
   obtain⟨y,gy⟩:=bt lt
   refine⟨Int.ofNat y.natAbs,Int.natCast_nonneg _,yI tst (iK (az (cw (ag rfl) (ag rfl) (show rS (.lst (ns.map .int)) (.int (k:Int)) S=some (.int y,S) from ?_)) aF) (show bA (Int.ofNat y.natAbs) (fun i=>some (AV.int i,S))=_ by rw[aO]))⟩
   exact oS (rq (dO gy))
 have fx:=ls (x:=x) (y:=1000303) (by decide)
 have fb:=ls (x:=(Int.fmod x 1000303 + 41 *(Int.ofNat k)+ 9)* 887) (y:=1999771) (by decide)
 have hk':(Int.ofNat k:Int) < 2:=Int.ofNat_lt.mpr hk
 have hk0:(0:Int)≤Int.ofNat k:=Int.natCast_nonneg _
 refine⟨x,Int.fmod ((Int.fmod x 1000303 + 41 *(Int.ofNat k)+ 9)* 887) 1999771,?_,fb.1,fb.2⟩
 refine bH (F:=f81) rfl (by kernel_rfl) rfl rfl ?_
 exact aK (bl ex) (d7 (dC (r_list (az (ag rfl) (az (cM (cM (cM (cM (cM (ag rfl) bk (lq (by decide))) (cM bk (ag rfl) (pT rfl (mM hk0 (by omega)))) fq) bk fq) bk (pT (mM (by omega) (by omega)) rfl)) bk (lq (by decide))) aF)))))
end Mine
end
section
namespace Mine
variable {cf:CF} {loc loc1 loc' loc2:Loc} {S S1 S2 S3 T G:aa} {v u a b k:AV} {vs:List AV} {e e1 e2 t:IE} {l:List AV} {d:Nat}
theorem rG{i:Nat}{acc:List AV}{w:AV}(h:T[i]?=some (.list acc))(hl:acc.length < lim):g5 i w T=some ((),setAt T i (.list (acc++[w]))):=(oLi h).trans ((bT (Nat.ble_eq_true_of_le (Nat.succ_le_of_lt hl))).trans ((aB _ _).trans bU))
theorem tm{tg:List Nat}{it:It}{elt:IE}{Inv:Nat→List AV→aa→Prop}(h:evI PQ cf 1000 it loc S=some (.items l,S1))(hl:l.length < 1000)(I0:Inv 0 [] (S1++[.list []]))
  (H:∀(k:Nat) (v:AV) (acc:List AV) (T:aa),l[k]?=some v→Inv k acc T→acc.length=k→∃loc' u T',cy tg v (aU (d9 tg []) loc)=some loc'∧evE PQ cf 1000 elt loc' T=some (u,T')∧T'[S1.length]?=some (.list acc)∧Inv (k + 1) (acc++[u]) (setAt T' S1.length (.list (acc++[u])))):
  ∃acc T,evE PQ cf 1000 (.comp elt [.mk tg it []]) loc S=some (.ref S1.length,T)∧Inv l.length acc T∧acc.length=l.length:=by
 have run:∀(m k:Nat) (acc:List AV) (T:aa),l.length - k=m→k≤l.length→Inv k acc T→acc.length=k→∃acc' T',ng (ur cf tg (aU (d9 tg []) loc) [] elt S1.length) (l.drop k) () T=some ((),T')∧Inv l.length acc' T'∧acc'.length=l.length:=by
  intro m
  induction m with
  | zero=>
   intro k acc T hm hk I ha
   have q:k=l.length:=by omega
   subst q
   exact⟨acc,T,by rw[List.drop_length];rfl,I,ha⟩
  | succ m ih=>
   intro k acc T hm hk I ha
   have lk:k < l.length:=by omega
   obtain⟨v,ev⟩:=bt lk
   have hd:l.drop k=v::l.drop (k + 1):=by
    rw[List.drop_eq_getElem_cons lk]
    rw[List.getElem?_eq_getElem lk] at ev
    rw[Option.some.inj ev]
   obtain⟨loc',u,T',b,e,g,I'⟩:=H k v acc T ev I ha
   obtain⟨acc',T2,e2,r⟩:=ih (k + 1) (acc++[u]) _ (by omega) (by omega) I' (by rw[List.length_append,ha];rfl)
   refine⟨acc',T2,?_,r⟩
   rw[hd]
   refine(av ?_).trans e2
   refine(oS b).trans ((av (S:=T) (x:=true) rfl).trans ?_)
   show bnd (evE PQ cf 1000 elt loc' T) (fun v S=>g5 S1.length v S)=_
   rw[av e]
   have L:lim=1000:=rfl
   exact rG g (by omega)
 obtain⟨acc,T,e,r⟩:=run l.length 0 [] _ rfl (Nat.zero_le _) I0 rfl
 refine⟨acc,T,(av h).trans ((av aR).trans ?_),r⟩
 simp only[aB]
 exact(av e).trans rfl
theorem eE{α:Type}{l:List α}{x y:α}{i:Nat}(h:(l++[x])[i]?=some y):l[i]?=some y∨(i=l.length∧x=y):=by
 rcases Nat.lt_or_ge i l.length with q | q
 ·rw[List.getElem?_append_left q] at h;exact .inl h
 ·rw[List.getElem?_append_right q] at h
  have:i - l.length=0:=by have:=ae h;simp at this;omega
  rw[this] at h
  exact .inr ⟨by omega,Option.some.inj h⟩
theorem zd{q:Nat}(hq:get? 237 loc=some (.ref q))(h:cW S q):
  ∃r S' R js,evE PQ (cfd (d + 2)) 1000 (.comp (.call 84 [.var 237]) [.mk [248] (.rng (.bin .add (.int 1) (.call 82 [.var 237,.int 2]))) []]) loc S=some (.ref r,S')∧bG S q S'∧S.length≤r∧fg S' r R js∧(∀j∈js,S.length≤j)∧cc R:=by
 have qlt:=h.lt
 obtain⟨k,S1,e1,D1,l1,lt⟩:=mP (d:=d + 1) (em:=.int 2) (m:=2) hq (fun T _=>bk) h (by decide) (by decide)
 have lt:k < 2:=by have:((k:Nat):Int) < 2:=lt;omega
 have tn:(1 + Int.ofNat k).toNat=1 + k:=by
  show(1 +((k:Nat):Int)).toNat=1 + k
  omega
 have hi:=n9 (cM (op:=.add) (bk (i:=1)) e1 fq) (by show(0:Int)≤1 +((k:Nat):Int);omega) (by show 1 +((k:Nat):Int) < 1000000;omega)
 rw[tn] at hi
 have ll:((List.range (1 + k)).map fun k=>AV.int (Int.ofNat k)).length=1 + k:=by rw[List.length_map,List.length_range]
 obtain⟨acc,T,e,⟨js,R,ea,lj,lR,DT,gT,hj,hp⟩,la⟩:=tm (tg:=[248]) (elt:=.call 84 [.var 237]) (loc:=loc)
  (Inv:=fun k acc T=>∃js R,acc=js.map .ref∧js.length=k∧R.length=k∧bG S q T∧T[S1.length]?=some (.list acc)∧(∀j∈js,S.length≤j∧j≠S1.length)∧∀(i j:Nat) (p:List Nat),js[i]?=some j→R[i]?=some p→cV T j p∧okL p=true∧∀a∈p,dM a=true)
  hi (by rw[ll];omega) ⟨[],[],rfl,rfl,rfl,D1.app,aw,fun j hj=>(nomatch hj),fun i j p hj=>(nomatch hj)⟩
  (fun n v acc T hv I hn=>by
   obtain⟨js,R,rfl,lj,lR,DT,gT,hj,hp⟩:=I
   obtain⟨j,T',p,ec,D',le,pj,okp,nmp⟩:=zc (d:=d) (DT.at h)
   have n1:S1.length≠q:=by omega
   have le1:S1.length < T.length:=ae gT
   refine⟨_,.ref j,T',c5,bO (az (ag (ab (bz hq (by decide)) (by decide))) aF) ec,D'.other gT n1,js++[j],R++[p],by rw[List.map_append];rfl,by rw[List.length_append,lj];rfl,by rw[List.length_append,lR];rfl,(DT.trans h D').set (by omega),fZ _ _ _ (by have:=D'.le;omega),?_,?_⟩
   ·intro j' hj'
    rcases List.mem_append.mp hj' with q1 | q1
    ·exact hj j' q1
    ·rw[List.mem_singleton] at q1;subst q1;exact⟨by omega,by omega⟩
   ·intro i j' p' gj gp
    rcases eE gj with q1 | ⟨q1,q2⟩
    ·rcases eE gp with q3 | ⟨q3,q4⟩
     ·obtain⟨a1,a2,a3⟩:=hp i j' p' q1 q3
      have hj2:=hj j' (List.mem_of_getElem? q1)
      refine⟨(eG _ _ _ _ (Ne.symm hj2.2)).trans (D'.other a1 (by omega)),a2,a3⟩
     ·exact absurd (ae q1) (by omega)
    ·rcases eE gp with q3 | ⟨q3,q4⟩
     ·exact absurd (ae q3) (by omega)
     ·subst q2;subst q4
      exact⟨(eG _ _ _ _ (by omega)).trans pj,okp,nmp⟩)
 rw[ll] at lj lR
 subst ea
 refine⟨S1.length,T,R,js,e,DT,by omega,⟨gT,by omega,fun i j p g1 g2=>(hp i j p g1 g2).1⟩,fun j hj'=>(hj j hj').1,⟨by omega,fun p hp'=>?_,fun p hp'=>?_⟩⟩
 ·obtain⟨i,hi',ei⟩:=List.getElem_of_mem hp'
  have gi:R[i]?=some p:=by rw[List.getElem?_eq_getElem hi',ei]
  obtain⟨j,gj⟩:=bt (l:=js) (k:=i) (by omega)
  exact(hp i j p gj gi).2.1
 ·obtain⟨i,hi',ei⟩:=List.getElem_of_mem hp'
  have gi:R[i]?=some p:=by rw[List.getElem?_eq_getElem hi',ei]
  obtain⟨j,gj⟩:=bt (l:=js) (k:=i) (by omega)
  exact(hp i j p gj gi).2.2
end Mine
end
section
namespace Mine
variable {cf:CF} {loc loc1 loc' loc2:Loc} {S S1 S2 S3 T G:aa} {v u a b k:AV} {vs:List AV} {e e1 e2 t:IE} {l:List AV} {d:Nat}
inductive Lab where | q | rr | sp | hd | t | dd | rl | spn (k:Nat) | ins (k:Nat) | co (i:Nat)
deriving DecidableEq
noncomputable abbrev HS:Type:=Lab→Option (Nat×AO)
structure aV(S:aa)(P:HS):Prop where
 at_:∀x i o,P x=some (i,o)→S[i]?=some o
 inj:∀x y i o o',P x=some (i,o)→P y=some (i,o')→x=y
noncomputable def put(P:HS)(x:Lab)(i:Nat)(o:AO):HS:=fun y=>if y=x then some (i,o) else P y
theorem bX{P:HS}{x:Lab}{i:Nat}{o:AO}:put P x i o x=some (i,o):=if_pos rfl
theorem an{P:HS}{x y:Lab}{i:Nat}{o:AO}(h:y≠x):put P x i o y=P y:=if_neg h
theorem aV.app{P:HS}(M:aV S P):aV (S++G) P:=⟨fun x i o e=>af (M.at_ x i o e),M.inj⟩
theorem aV.lt{P:HS}(M:aV S P){x:Lab}{i:Nat}{o:AO}(h:P x=some (i,o)):i < S.length:=ae (M.at_ x i o h)
theorem eH{P:HS}{x y:Lab}{i j:Nat}{o o':AO}(h:put P x i o y=some (j,o')):(y=x∧i=j∧o=o')∨(y≠x∧P y=some (j,o')):=by
 unfold put at h
 split at h
 ·rename_i q;cases h;exact .inl ⟨q,rfl,rfl⟩
 ·rename_i q;exact .inr ⟨q,h⟩
theorem aV.set{P:HS}(M:aV S P){x:Lab}{i:Nat}{o o':AO}(h:P x=some (i,o)):aV (setAt S i o') (put P x i o'):=by
 have lt:=M.lt h
 refine⟨fun y j o1 e=>?_,fun y z j o1 o2 e e'=>?_⟩
 ·rcases eH e with⟨_,rfl,rfl⟩ | ⟨ne,e⟩
  ·exact fZ _ _ _ lt
  ·have nj:i≠j:=fun q=>by subst q;exact ne (M.inj _ _ _ _ _ e h)
   exact(eG _ _ _ _ nj).trans (M.at_ _ _ _ e)
 ·rcases eH e with⟨c1,c2,c3⟩ | ⟨ne,f⟩<;>rcases eH e' with⟨d1,d2,d3⟩ | ⟨ne',f'⟩
  ·rw[c1,d1]
  ·subst c2;exact absurd (M.inj _ _ _ _ _ f' h) ne'
  ·subst d2;exact absurd (M.inj _ _ _ _ _ f h) ne
  ·exact M.inj _ _ _ _ _ f f'
theorem aV.new{P:HS}(M:aV S P){x:Lab}{o:AO}(h:P x=none):aV (S++[o]) (put P x S.length o):=by
 refine⟨fun y j o1 e=>?_,fun y z j o1 o2 e e'=>?_⟩
 ·rcases eH e with⟨_,rfl,rfl⟩ | ⟨ne,e⟩
  ·exact aw
  ·exact af (M.at_ _ _ _ e)
 ·rcases eH e with⟨c1,c2,c3⟩ | ⟨ne,f⟩<;>rcases eH e' with⟨d1,d2,d3⟩ | ⟨ne',f'⟩
  ·rw[c1,d1]
  ·subst c2;exact absurd (M.lt f') (Nat.lt_irrefl _)
  ·subst d2;exact absurd (M.lt f) (Nat.lt_irrefl _)
  ·exact M.inj _ _ _ _ _ f f'
noncomputable def hold(P:HS)(n:Nat)(S:aa):HS:=fun x=>match x with
 | .co i=>if n≤i then(S[i]?).map fun o=>(i,o) else P x
 | x=>P x
theorem Cm{P:HS}{n i:Nat}{o:AO}(h:n≤i)(g:S[i]?=some o):hold P n S (.co i)=some (i,o):=by
 show(if n≤i then(S[i]?).map fun o=>(i,o) else P (.co i))=_
 rw[if_pos h,g];rfl
theorem ze{P:HS}{n:Nat}{x:Lab}{j:Nat}{o:AO}(h:P x=some (j,o))(lt:∀i,x=.co i→i < n):hold P n S x=some (j,o):=by
 cases x with
 | co i=>
  show(if n≤i then _ else P (.co i))=_
  rw[if_neg (Nat.not_le.mpr (lt i rfl))];exact h
 | _=>exact h
theorem gJ{P:HS}{n:Nat}{x:Lab}{j:Nat}{o:AO}(h:hold P n S x=some (j,o)):P x=some (j,o)∨(x=.co j∧n≤j∧S[j]?=some o):=by
 cases x with
 | co i=>
  have h:(if n≤i then(S[i]?).map fun o=>(i,o) else P (.co i))=some (j,o):=h
  split at h
  ·rename_i q
   cases g:S[i]? with
   | none=>rw[g] at h;cases h
   | some o'=>rw[g] at h;cases h;exact .inr ⟨rfl,q,g⟩
  ·exact .inl h
 | _=>exact .inl h
theorem aV.hold{P:HS}(M:aV S P){n:Nat}(lt:∀x i o,P x=some (i,o)→i < n):aV S (hold P n S):=by
 refine⟨fun y j o1 e=>?_,fun y z j o1 o2 e e'=>?_⟩
 ·rcases gJ e with e | ⟨_,_,e⟩
  ·exact M.at_ _ _ _ e
  ·exact e
 ·rcases gJ e with e | ⟨rfl,q,e⟩<;>rcases gJ e' with e' | ⟨rfl,q',e'⟩
  ·exact M.inj _ _ _ _ _ e e'
  ·exact absurd (lt _ _ _ e) (Nat.not_lt.mpr q')
  ·exact absurd (lt _ _ _ e') (Nat.not_lt.mpr q)
  ·rfl
noncomputable abbrev cB(sig:AV)(n:Int)(x:AV)(b:Int)(e:AV):AO:=.inst 3 [(243,sig),(140,.none),(143,.int n),(283,x),(107,.int b),(129,e)]
noncomputable abbrev fI(dd:Nat)(w:Int):AO:=.inst 4 [(173,KK),(231,.ref dd),(295,.int w)]
theorem ux{S:aa}{o o':AO}:setAt (S++[o]) S.length o'=S++[o']:=by
 have:=dN S o o' []
 rwa [List.append_nil,List.append_nil] at this
theorem vR{sig x:AV}{n:Int}:wc PQ (cfd (d + 1)) 3 [sig,.none,.int n,x] S=some (.ref S.length,S++[cB sig n x 0 .none]):=by
 have hf:cfd (d + 1) 54 [.ref S.length,sig,.none,.int n,x] (S++[.inst 3 []])=some (.none,S++[cB sig n x 0 .none]):=by
  refine my (F:=f54) (loc':=[(238,.ref S.length),(243,sig),(140,.none),(143,.int n),(283,x)]) rfl (by kernel_rfl) rfl rfl ?_
  have s1:=fun(fl:List (Nat×AV)) (y:Nat) (ee:IE) (w:AV) (he:evE PQ (cfd d) 1000 ee [(238,.ref S.length),(243,sig),(140,.none),(143,.int n),(283,x)] (S++[.inst 3 fl])=some (w,S++[.inst 3 fl])) (hl:Nat.blt fl.length lim=true)=>(je (cf:=cfd d) (x:=y) (e1:=.var 238) he (ag rfl) aw ii hl).trans (by rw[ux])
  exact aK (s1 _ _ _ _ (ag rfl) rfl) (aK (s1 _ _ _ _ (ag rfl) rfl) (aK (s1 _ _ _ _ (ag rfl) rfl) (aK (s1 _ _ _ _ (ag rfl) rfl) (aK (s1 _ _ _ _ bk rfl) (aK (s1 _ _ _ _ fH rfl) b6)))))
 have i3:PQ.init 3=some 54:=by kernel_rfl
 exact(oS i3).trans ((av cX).trans ((av hf).trans rfl))
theorem vS:wc PQ (cfd (d + 1)) 4 [KK] S=some (.ref S.length,(S++[fI (S.length + 1) 1])++[.dict []]):=by
 have hf:cfd (d + 1) 56 [.ref S.length,KK] (S++[.inst 4 []])=some (.none,(S++[fI (S.length + 1) 1])++[.dict []]):=by
  refine my (F:=f56) (loc':=[(238,.ref S.length),(173,KK)]) rfl (by kernel_rfl) rfl rfl ?_
  have s1:=(je (cf:=cfd d) (loc:=[(238,.ref S.length),(173,KK)]) (S:=S++[.inst 4 []]) (x:=173) (e1:=.var 238) (e:=.var 173) (ag rfl) (ag rfl) aw cO rfl)
  rw[ux] at s1
  have s2:=(je (cf:=cfd d) (loc:=[(238,.ref S.length),(173,KK)]) (S:=S++[.inst 4 (dI 173 KK [])]) (x:=231) (e1:=.var 238) (e:=.dict0) uq (ag rfl) (af aw) cO rfl)
  rw[dN,List.length_append] at s2
  have s3:=(je (cf:=cfd d) (loc:=[(238,.ref S.length),(173,KK)]) (S:=(S++[.inst 4 (dI 231 (.ref (S.length + 1)) (dI 173 KK []))])++[.dict []]) (x:=295) (e1:=.var 238) (e:=.int 1) bk (ag rfl) (af aw) cO rfl)
  rw[dN] at s3
  exact aK s1 (aK s2 (aK s3 b6))
 have i4:PQ.init 4=some 56:=by kernel_rfl
 exact(oS i4).trans ((av cX).trans ((av hf).trans rfl))
end Mine
end
section
namespace Mine
variable {cf:CF} {loc loc1 loc' loc2:Loc} {S S1 S2 S3 T G:aa} {v u a b k:AV} {vs:List AV} {e e1 e2 t:IE} {l:List AV} {d:Nat}
noncomputable def isN:AV→Bool
 | .none=>true
 | _=>false
noncomputable def iM(w:Int)(R0:List (List Nat))(R:Rw):AV:=if(isN R.e&&(bc R.parts R0&&bc R0 R.parts))=true then .int w else R.e
noncomputable def FW(w:Int)(R0:List (List Nat))(R:Rw):Rw:=⟨R.parts,R.b,iM w R0 R⟩
noncomputable def Okr(R:Rw):Prop:=cc R.parts∧(R.e=.none∨∃x,R.e=.int x)
theorem Cn{w:Int}{R0:List (List Nat)}{R:Rw}(h:Okr R):Okr (FW w R0 R):=by
 refine⟨h.1,?_⟩
 show iM w R0 R=.none∨∃x,iM w R0 R=.int x
 unfold iM
 split
 ·exact .inr ⟨w,rfl⟩
 ·exact h.2
theorem mQ{e:AV}(h:e=.none∨∃x,e=.int x):iE PQ.eqt .isNone e .none S=some (.bool (isN e),S):=by
 rcases h with rfl | ⟨x,rfl⟩<;>rfl
noncomputable def uy(P:HS)(hs:List Nat)(rows:List Rw):Prop:=∀(k i:Nat) (R:Rw),hs[k]?=some i→rows[k]?=some R→∃n x,P (.ins k)=some (i,cB (aD (R.parts.map kx)) n x R.b R.e)
noncomputable def uz(P:HS)(dd:Nat)(hs:List Nat):Prop:=(hs=[]∧P .dd=some (dd,.dict [])∧P .rl=none)∨∃rl,P .dd=some (dd,.dict [(131,.ref rl)])∧P .rl=some (rl,.list (hs.map .ref))
theorem zf{i c:Nat}{dl:List (Nat×AV)}{x:AV}(h:S[i]?=some (.dict dl))(g:cx c dl=some x):d8 PQ cf .dct (.ref i) 239 [.str c,v] S=some (x,S):=by
 exact(oDi h).trans (show oH PQ i dl 239 [.str c,v] S=_ from oS g)
theorem zg{i c:Nat}(h:S[i]?=some (.dict [])):d8 PQ cf .dct (.ref i) 239 [.str c,v] S=some (v,setAt S i (.dict [(c,v)])):=by
 exact(oDi h).trans ((aB _ _).trans bU)
noncomputable abbrev Co:List IS:=[.ite (.and [.val (.cmp .isNone (.attr (.var 128) 129) (.none)),.val (.call 49 [.attr (.var 238) 173,.attr (.var 128) 243,.attr (.var 230) 243])]) [.assign (.attr (.var 128) 129) (.attr (.var 238) 295)] []]
theorem gM{α β:Type}{l:List α}{f:α→β}{k:Nat}{y:β}(h:(l.map f)[k]?=some y):∃x,l[k]?=some x∧f x=y:=by
 rw[List.getElem?_map] at h
 cases e:l[k]? with
 | none=>rw[e] at h;cases h
 | some x=>rw[e] at h;exact⟨x,rfl,Option.some.inj h⟩
theorem FX{P:HS}{t dd i:Nat}{hs:List Nat}{rows:List Rw}{w n:Int}{x:AV}{R0:List (List Nat)}(M:aV S P)(ht:P .t=some (t,fI dd w))(hd:uz P dd hs)(hi:uy P hs rows)(len:hs.length=rows.length)(few:rows.length≤4)(ok:∀R∈rows,Okr R)(ok0:cc R0)
  (h0:P (.ins rows.length)=some (i,cB (aD (R0.map kx)) n x 0 .none)):
  ∃S' P',cfd (d + 1) 57 [.ref t,.str 131,.ref i] S=some (.none,S')∧aV S' P'∧P' .t=some (t,fI dd (w + 1))∧uz P' dd (hs++[i])∧uy P' (hs++[i]) (rows.map (FW (w + 1) R0)++[⟨R0,w + 1,.none⟩])∧(∀y,y≠.t→y≠.dd→y≠.rl→(∀k,k≤rows.length→y≠.ins k)→P' y=P y):=by
 have gt:=M.at_ _ _ _ ht
 have st1:evS PQ (cfd d) 1000 (.assign (.attr (.var 238) 295) (.bin .add (.attr (.var 238) 295) (.int 1))) [(238,.ref t),(201,.str 131),(230,.ref i)] S=some (.next [(238,.ref t),(201,.str 131),(230,.ref i)],setAt S t (fI dd (w + 1))):=
  je (cM (bW (ag rfl) (aW (v:=.int w) gt cO rfl)) bk fq) (ag rfl) gt cO rfl
 have M1:aV (setAt S t (fI dd (w + 1))) (put P .t t (fI dd (w + 1))):=M.set ht
 have h01:put P .t t (fI dd (w + 1)) (.ins rows.length)=some (i,cB (aD (R0.map kx)) n x 0 .none):=(an (by simp)).trans h0
 have g01:=M1.at_ _ _ _ h01
 have gt1:=M1.at_ _ _ _ bX
 have st2:evS PQ (cfd d) 1000 (.assign (.attr (.var 230) 107) (.attr (.var 238) 295)) [(238,.ref t),(201,.str 131),(230,.ref i)] (setAt S t (fI dd (w + 1)))=some (.next [(238,.ref t),(201,.str 131),(230,.ref i)],setAt (setAt S t (fI dd (w + 1))) i (cB (aD (R0.map kx)) n x (w + 1) .none)):=
  je (bW (ag rfl) (aW (v:=.int (w + 1)) gt1 cO rfl)) (ag rfl) g01 ii rfl
 have M2:aV (setAt (setAt S t (fI dd (w + 1))) i (cB (aD (R0.map kx)) n x (w + 1) .none)) (put (put P .t t (fI dd (w + 1))) (.ins rows.length) i (cB (aD (R0.map kx)) n x (w + 1) .none)):=M1.set h01
 generalize hS2:setAt (setAt S t (fI dd (w + 1))) i (cB (aD (R0.map kx)) n x (w + 1) .none)=S2 at M2
 have st2:evS PQ (cfd d) 1000 (.assign (.attr (.var 230) 107) (.attr (.var 238) 295)) [(238,.ref t),(201,.str 131),(230,.ref i)] (setAt S t (fI dd (w + 1)))=some (.next [(238,.ref t),(201,.str 131),(230,.ref i)],S2):=by rw[←hS2];exact st2
 obtain⟨P2,hP2⟩:∃P2,P2=put (put P .t t (fI dd (w + 1))) (.ins rows.length) i (cB (aD (R0.map kx)) n x (w + 1) .none):=⟨_,rfl⟩
 rw[←hP2] at M2
 have p2:∀y,y≠.t→y≠.ins rows.length→P2 y=P y:=fun y a b=>by rw[hP2,an b,an a]
 have t2:P2 .t=some (t,fI dd (w + 1)):=by rw[hP2,an (by simp),bX]
 have n2:P2 (.ins rows.length)=some (i,cB (aD (R0.map kx)) n x (w + 1) .none):=by rw[hP2,bX]
 obtain⟨S3,P3,rl,e3,M3,d3,r3,p3⟩:∃S3 P3 rl,evE PQ (cfd d) 1000 (.meth (.attr (.var 238) 231) 239 [.var 201,.list []]) [(238,.ref t),(201,.str 131),(230,.ref i)] S2=some (.ref rl,S3)∧aV S3 P3∧P3 .dd=some (dd,.dict [(131,.ref rl)])∧P3 .rl=some (rl,.list (hs.map .ref))∧∀y,y≠.dd→y≠.rl→P3 y=P2 y:=by
  have ea:=bW (cf:=cfd d) (loc:=[(238,.ref t),(201,.str 131),(230,.ref i)]) (e:=.var 238) (x:=231) (r:=some (.ref dd,S2)) (ag rfl) (aW (M2.at_ _ _ _ t2) cO rfl)
  rcases hd with⟨rfl,hd1,hd2⟩ | ⟨rl,hd1,hd2⟩
  ·have q1:P2 .dd=some (dd,.dict []):=(p2 _ (by simp) (by simp)).trans hd1
   have q2:P2 .rl=none:=(p2 _ (by simp) (by simp)).trans hd2
   have M3:=M2.new (o:=.list []) q2
   have q3:put P2 .rl S2.length (.list []) .dd=some (dd,.dict []):=(an (by simp)).trans q1
   exact⟨_,_,S2.length,b5 ea (dY (M2.at_ _ _ _ q1)) (az (ag rfl) (az (r_list aF) aF)) (zg (M3.at_ _ _ _ q3)),M3.set q3,bX,by rw[an (by simp)];exact bX,fun y a b=>by rw[an a,an b]⟩
  ·have q1:P2 .dd=some (dd,.dict [(131,.ref rl)]):=(p2 _ (by simp) (by simp)).trans hd1
   exact⟨S2++[.list []],P2,rl,b5 ea (dY (M2.at_ _ _ _ q1)) (az (ag rfl) (az (r_list aF) aF)) (zf (af (M2.at_ _ _ _ q1)) rfl),M2.app,q1,(p2 _ (by simp) (by simp)).trans hd2,fun y _ _=>rfl⟩
 have t3:P3 .t=some (t,fI dd (w + 1)):=(p3 _ (by simp) (by simp)).trans t2
 have n3:P3 (.ins rows.length)=some (i,cB (aD (R0.map kx)) n x (w + 1) .none):=(p3 _ (by simp) (by simp)).trans n2
 have i3:∀(k j:Nat) (R:Rw),hs[k]?=some j→rows[k]?=some R→∃n x,P3 (.ins k)=some (j,cB (aD (R.parts.map kx)) n x R.b R.e):=fun k j R a b=>by
  obtain⟨n,x,g⟩:=hi k j R a b
  exact⟨n,x,((p3 _ (by simp) (by simp)).trans (p2 _ (by simp) (by have:=ae b;simp;omega))).trans g⟩
 obtain⟨loc4,S4,e4,l1,l2,l3,P4,M4,p4,i4⟩:=(jG (cf:=cfd d) (loc:=[(238,.ref t),(201,.str 131),(230,.ref i)]) (S:=S2) (S1:=S3) (tg:=[128]) (it:=.of (.meth (.attr (.var 238) 231) 239 [.var 201,.list []])) (b:=Co) (l:=hs.map .ref) (stop:=fun _=>false)
  (Inv:=fun k loc T=>get? 238 loc=some (.ref t)∧get? 201 loc=some (.str 131)∧get? 230 loc=some (.ref i)∧∃P',aV T P'∧(∀y,(∀k,k < rows.length→y≠.ins k)→P' y=P3 y)∧∀(m j:Nat) (R:Rw),hs[m]?=some j→rows[m]?=some R→∃n x,P' (.ins m)=some (j,cB (aD (R.parts.map kx)) n x R.b (if m < k then iM (w + 1) R0 R else R.e)))
  (Post:=fun _ _ _=>True)
  (fW e3 (bb (M3.at_ _ _ _ r3))) (.inr ⟨rl,rfl,fun k loc T I=>I.2.2.2.elim fun P' q=>q.1.at_ _ _ _ ((q.2.1 _ fun _ _=>by simp).trans r3)⟩) (by rw[List.length_map,len];omega)
  ⟨rfl,rfl,rfl,P3,M3,fun _ _=>rfl,fun m j R a b=>by rw[if_neg (Nat.not_lt_zero _)];exact i3 m j R a b⟩
  (fun k v loc T hv I=>⟨fun q=>(nomatch q),fun _=>by
   obtain⟨l1,l2,l3,P',M',p',i'⟩:=I
   obtain⟨j,gj,rfl⟩:=gM hv
   have hk:k < rows.length:=by rw[←len];exact ae gj
   obtain⟨R,gR⟩:=bt hk
   obtain⟨nk,xk,pk⟩:=i' k j R gj gR
   rw[if_neg (Nat.lt_irrefl _)] at pk
   have okR:=ok R (List.mem_of_getElem? gR)
   have gj':=M'.at_ _ _ _ pk
   have gt':=M'.at_ _ _ _ ((p' .t fun _ _=>by simp).trans t3)
   have gn':=M'.at_ _ _ _ ((p' (.ins rows.length) fun k hk=>by simp;omega).trans n3)
   have same:=vN (T:=T) (fh okR.1).2 (fh ok0).2 d
   rw[fY okR.1 ok0,fY ok0 okR.1] at same
   have c1:=bI (b9 (cf:=cfd d) (loc:=upd 128 (.ref j) loc) (bW (ag (x:=128) aq) (aW (x:=129) (v:=R.e) gj' ii rfl)) fH (mQ okR.2))
   have c2:=bI (bO (cf:=cfd d) (loc:=upd 128 (.ref j) loc) (f:=49) (az (bW (x:=173) (ag (ab l1 (by decide))) (aW (v:=KK) gt' cO rfl)) (az (bW (x:=243) (ag aq) (aW (v:=aD (R.parts.map kx)) gj' ii rfl)) (az (bW (x:=243) (ag (ab l3 (by decide))) (aW (v:=aD (R0.map kx)) gn' ii rfl)) aF))) same)
   have tst:evT PQ (cfd d) 1000 (.and [.val (.cmp .isNone (.attr (.var 128) 129) (.none)),.val (.call 49 [.attr (.var 238) 173,.attr (.var 128) 243,.attr (.var 230) 243])]) (upd 128 (.ref j) loc) T=some (isN R.e&&(bc R.parts R0&&bc R0 R.parts),T):=by
    refine kf c1 ?_
    cases isN R.e with
    | false=>rfl
    | true=>exact iL c2
   have step:∀m,(if m < k + 1 then iM (w + 1) R0 else fun R=>R.e)=(if m < k then iM (w + 1) R0 else fun R=>R.e)∨m=k:=fun m=>by
    by_cases q:m=k
    ·exact .inr q
    ·refine .inl ?_
     by_cases z:m < k
     ·rw[if_pos z,if_pos (Nat.lt_succ_of_lt z)]
     ·rw[if_neg z,if_neg (by omega)]
   have keep:∀(m j':Nat) (R':Rw),m≠k→hs[m]?=some j'→rows[m]?=some R'→∃n x,P' (.ins m)=some (j',cB (aD (R'.parts.map kx)) n x R'.b (if m < k + 1 then iM (w + 1) R0 R' else R'.e)):=fun m j' R' ne a b=>by
    have:=i' m j' R' a b
    by_cases z:m < k
    ·rw[if_pos z] at this;rw[if_pos (Nat.lt_succ_of_lt z)];exact this
    ·rw[if_neg z] at this;rw[if_neg (by omega)];exact this
   cases hb:isN R.e&&(bc R.parts R0&&bc R0 R.parts) with
   | false=>
    rw[hb] at tst
    refine⟨_,T,bL c5 (aK (cN tst b6) b6),ab l1 (by decide),ab l2 (by decide),ab l3 (by decide),P',M',p',fun m j' R' a b=>?_⟩
    by_cases q:m=k
    ·subst q
     rw[gj] at a;cases a
     rw[gR] at b;cases b
     rw[if_pos (Nat.lt_succ_self _)]
     refine⟨nk,xk,pk.trans ?_⟩
     unfold iM
     rw[hb,if_neg Bool.false_ne_true]
    ·exact keep m j' R' q a b
   | true=>
    rw[hb] at tst
    have sa:=je (cf:=cfd d) (loc:=upd 128 (.ref j) loc) (x:=129) (e:=.attr (.var 238) 295) (e1:=.var 128) (bW (ag (ab l1 (by decide))) (aW (v:=.int (w + 1)) gt' cO rfl)) (ag aq) gj' ii rfl
    refine⟨_,_,bL c5 (aK (cN tst (aK sa b6)) b6),ab l1 (by decide),ab l2 (by decide),ab l3 (by decide),_,M'.set pk,fun y hy=>by rw[an (hy k hk)];exact p' y hy,fun m j' R' a b=>?_⟩
    by_cases q:m=k
    ·subst q
     rw[gj] at a;cases a
     rw[gR] at b;cases b
     rw[if_pos (Nat.lt_succ_self _)]
     refine⟨nk,xk,bX.trans ?_⟩
     unfold iM
     rw[hb,if_pos rfl];rfl
    ·obtain⟨n',x',g⟩:=keep m j' R' q a b
     exact⟨n',x',by rw[an (by simp;exact q)];exact g⟩⟩)).all fun _ _=>rfl
 rw[List.length_map] at i4
 have t4:P4 .t=some (t,fI dd (w + 1)):=(p4 _ fun _ _=>by simp).trans t3
 have d4:P4 .dd=some (dd,.dict [(131,.ref rl)]):=(p4 _ fun _ _=>by simp).trans d3
 have r4:P4 .rl=some (rl,.list (hs.map .ref)):=(p4 _ fun _ _=>by simp).trans r3
 have n4:P4 (.ins rows.length)=some (i,cB (aD (R0.map kx)) n x (w + 1) .none):=(p4 _ fun k hk=>by simp;omega).trans n3
 have ap:=fm (cf:=cfd d) (v:=.ref i) (M4.at_ _ _ _ r4) (by have L:lim=1000:=rfl;rw[List.length_map];omega)
 have es:=cw (cf:=cfd d) (loc:=loc4) (S:=S4) (e1:=.attr (.var 238) 231) (e2:=.var 201) (bW (ag l1) (aW (v:=.ref dd) (M4.at_ _ _ _ t4) cO rfl)) (ag l2) (show rS (.ref dd) (.str 131) S4=some (.ref rl,S4) by
  exact(oDi (M4.at_ _ _ _ d4)).trans rfl)
 have sn:=jd (b5 es (b4 (M4.at_ _ _ _ r4)) (az (ag l3) aF) ap)
 refine⟨_,put P4 .rl rl (.list (hs.map .ref++[.ref i])),my (F:=f57) rfl (by kernel_rfl) rfl rfl (aK st1 (aK st2 (aK e4 (aK sn b6)))),M4.set r4,by rw[an (by simp)];exact t4,.inr ⟨rl,by rw[an (by simp)];exact d4,bX.trans (by rw[List.map_append];rfl)⟩,fun m j R a b=>?_,fun y a b c hy=>?_⟩
 ·rw[an (by simp)]
  rcases eE a with q1 | ⟨q1,q2⟩<;>rcases eE b with q3 | ⟨q3,q4⟩
  ·obtain⟨R',gR',rfl⟩:=gM q3
   have:=i4 m j R' q1 gR'
   rw[if_pos (by rw[len];exact ae gR')] at this
   exact this
  ·rw[List.length_map] at q3;exact absurd (ae q1) (by omega)
  ·have:=ae q3;rw[List.length_map] at this;exact absurd this (by omega)
  ·rw[List.length_map] at q3
   subst q2;subst q4;subst q3
   exact⟨n,x,n4⟩
 ·rw[an c,p4 y (fun k hk=>hy k (Nat.le_of_lt hk)),p3 y b c,p2 y a (hy _ (Nat.le_refl _))]
end Mine
end
section
namespace Mine
variable {cf:CF} {loc loc1 loc' loc2:Loc} {S S1 S2 S3 T G:aa} {v u a b k:AV} {vs:List AV} {e e1 e2 t:IE} {l:List AV} {d:Nat}
structure LV(ns:List Int)(q rr sp hd t:Nat)(loc:Loc):Prop where
 ns:get? 235 loc=some (.lst (ns.map .int))
 kk:get? 173 loc=some KK
 q:get? 237 loc=some (.ref q)
 rr:get? 231 loc=some (.ref rr)
 sp:get? 246 loc=some (.ref sp)
 hd:get? 149 loc=some (.ref hd)
 t:get? 262 loc=some (.ref t)
theorem LV.upd{ns:List Int}{q rr sp hd t x:Nat}(h:LV ns q rr sp hd t loc)(hx:x∉[235,173,237,231,246,149,262]):LV ns q rr sp hd t (upd x v loc):=by
 have ne:∀y,y∈[235,173,237,231,246,149,262]→y≠x:=fun y hy q=>hx (q▸hy)
 exact⟨ab h.ns (ne _ (by decide)),ab h.kk (ne _ (by decide)),ab h.q (ne _ (by decide)),ab h.rr (ne _ (by decide)),ab h.sp (ne _ (by decide)),ab h.hd (ne _ (by decide)),ab h.t (ne _ (by decide))⟩
structure m9(P:HS)(r:Nat)(R:List (List Nat))(js:List Nat):Prop where
 at_:P (.co r)=some (r,.list (js.map .ref))
 len:js.length=R.length
 part:∀(k j:Nat) (p:List Nat),js[k]?=some j→R[k]?=some p→P (.co j)=some (j,.list (p.map .str))
theorem m9.row{P:HS}{r:Nat}{R:List (List Nat)}{js:List Nat}(h:m9 P r R js)(M:aV S P):fg S r R js:=⟨M.at_ _ _ _ h.at_,h.len,fun k j p a b=>M.at_ _ _ _ (h.part k j p a b)⟩
theorem m9.move{P P':HS}{r:Nat}{R:List (List Nat)}{js:List Nat}(h:m9 P r R js)(H:∀i o,P (.co i)=some (i,o)→P' (.co i)=some (i,o)):m9 P' r R js:=⟨H _ _ h.at_,h.len,fun k j p a b=>H _ _ (h.part k j p a b)⟩
structure TI(S:aa)(P:HS)(q rr sp hd t dd:Nat)(rs ps hs:List Nat)(rows:List Rw)(w:Int):Prop where
 mod:aV S P
 dr:∃a b,P .q=some (q,.list [.int a,.int b])∧0≤b∧b < 1999771
 rr:P .rr=some (rr,.list (rs.map .ref))
 sp:P .sp=some (sp,.list (ps.map .ref))
 hd:P .hd=some (hd,.list (hs.map .ref))
 tb:P .t=some (t,fI dd w)
 di:uz P dd hs
 lr:rs.length=rows.length
 lp:ps.length=rows.length
 lh:hs.length=rows.length
 row:∀(k r:Nat) (R:Rw),rs[k]?=some r→rows[k]?=some R→∃js,m9 P r R.parts js
 span:∀(k p:Nat) (R:Rw),ps[k]?=some p→rows[k]?=some R→P (.spn k)=some (p,.list [.int R.b,R.e])
 ins:uy P hs rows
 free:∀k,rows.length≤k→P (.spn k)=none∧P (.ins k)=none
 cop:∀i j o,P (.co i)=some (j,o)→j=i
 ok:∀R∈rows,Okr R
 few:rows.length≤4
variable {P:HS} {q rr sp hd tt dd:Nat} {rs ps hs:List Nat} {rows:List Rw} {w:Int} {ns:List Int}
theorem TI.draw(I:TI S P q rr sp hd tt dd rs ps hs rows w):cW S q:=let⟨a,b,g,h⟩:=I.dr;⟨a,b,I.mod.at_ _ _ _ g,h⟩
theorem TI.drawn(I:TI S P q rr sp hd tt dd rs ps hs rows w)(D:bG S q S1):∃P',TI S1 P' q rr sp hd tt dd rs ps hs rows w∧(∀i o,S.length≤i→S1[i]?=some o→P' (.co i)=some (i,o))∧∀i o,P (.co i)=some (i,o)→P' (.co i)=some (i,o):=by
 obtain⟨a0,b0,hq,_⟩:=I.dr
 obtain⟨a,b,G,rfl,h0,h1⟩:=D
 have M1:aV (setAt S q (.list [.int a,.int b])) (put P .q q (.list [.int a,.int b])):=I.mod.set hq
 have lt:∀x i o,put P .q q (.list [.int a,.int b]) x=some (i,o)→i < S.length:=fun x i o e=>by have:=M1.lt e;rwa [gI] at this
 have M2:=(M1.app (G:=G)).hold (n:=S.length) lt
 have oth:∀y,y≠.q→(∀i,y≠.co i)→hold (put P .q q (.list [.int a,.int b])) S.length (setAt S q (.list [.int a,.int b])++G) y=P y:=fun y n1 n2=>by
  cases y with
  | co i=>exact absurd rfl (n2 i)
  | _=>exact an n1
 have keep:∀i o,P (.co i)=some (i,o)→hold (put P .q q (.list [.int a,.int b])) S.length (setAt S q (.list [.int a,.int b])++G) (.co i)=some (i,o):=fun i o e=>
  ze (by rw[an (by simp)];exact e) fun i' q'=>by cases q';exact I.mod.lt e
 refine⟨_,⟨M2,⟨a,b,?_,h0,h1⟩,(oth _ (by simp) (by simp)).trans I.rr,(oth _ (by simp) (by simp)).trans I.sp,(oth _ (by simp) (by simp)).trans I.hd,(oth _ (by simp) (by simp)).trans I.tb,?_,I.lr,I.lp,I.lh,?_,?_,?_,?_,?_,I.ok,I.few⟩,fun i o le e=>Cm le e,keep⟩
 ·exact bX
 ·rcases I.di with⟨c,d1,d2⟩ | ⟨rl,d1,d2⟩
  ·exact .inl ⟨c,(oth _ (by simp) (by simp)).trans d1,(oth _ (by simp) (by simp)).trans d2⟩
  ·exact .inr ⟨rl,(oth _ (by simp) (by simp)).trans d1,(oth _ (by simp) (by simp)).trans d2⟩
 ·intro k r R c1 c2
  obtain⟨js,h⟩:=I.row k r R c1 c2
  exact⟨js,h.move keep⟩
 ·intro k p R c1 c2
  exact(oth _ (by simp) (by simp)).trans (I.span k p R c1 c2)
 ·intro k i R c1 c2
  obtain⟨n,x,g⟩:=I.ins k i R c1 c2
  exact⟨n,x,(oth _ (by simp) (by simp)).trans g⟩
 ·intro k hk
  have:=I.free k hk
  exact⟨(oth _ (by simp) (by simp)).trans this.1,(oth _ (by simp) (by simp)).trans this.2⟩
 ·intro i j o e
  rcases gJ e with e | ⟨e,_,_⟩
  ·rw[an (by simp)] at e;exact I.cop i j o e
  ·cases e;rfl
theorem TI.app(I:TI S P q rr sp hd tt dd rs ps hs rows w):TI (S++G) P q rr sp hd tt dd rs ps hs rows w:=
 ⟨I.mod.app,I.dr,I.rr,I.sp,I.hd,I.tb,I.di,I.lr,I.lp,I.lh,I.row,I.span,I.ins,I.free,I.cop,I.ok,I.few⟩
noncomputable abbrev mR:List IS:=[.assign (.name 221) (.comp (.call 84 [.var 237]) [.mk [248] (.rng (.bin .add (.int 1) (.call 82 [.var 237,.int 2]))) []]),.ite (.and [.val (.cmp .ne (.var 231) (.list [])),.val (.cmp .eq (.call 82 [.var 237,.int 5]) (.int 0))]) [.assign (.name 221) (.sub (.var 231) (.call 82 [.var 237,.bi .len [.var 231]]))] []]
theorem mU{A B:List IS}{fr:Option (Fl×aa)}(h:cC PQ cf 1000 A loc S=some (.next loc1,S1))(q:cC PQ cf 1000 B loc1 S1=fr):cC PQ cf 1000 (A++B) loc S=fr:=by
 induction A generalizing loc S with
 | nil=>cases h;exact q
 | cons st r ih=>
  have h:bnd (evS PQ cf 1000 st loc S) (fun x S=>jo x (fun loc=>cC PQ cf 1000 r loc S) fun u=>some (.ret u,S))=some (.next loc1,S1):=h
  cases e:evS PQ cf 1000 st loc S with
  | none=>rw[e] at h;cases h
  | some p=>
   obtain⟨fl,S2⟩:=p
   rw[e] at h
   cases fl with
   | next loc2=>exact aK e (ih h)
   | ret u=>cases h
theorem vT(I:TI S P q rr sp hd tt dd rs ps hs rows w)(L:LV ns q rr sp hd tt loc):∃loc' S' P' r R js,cC PQ (cfd (d + 2)) 1000 mR loc S=some (.next loc',S')∧TI S' P' q rr sp hd tt dd rs ps hs rows w∧LV ns q rr sp hd tt loc'∧get? 221 loc'=some (.ref r)∧m9 P' r R js∧cc R:=by
 obtain⟨r,S1,R,js,e1,D1,le,ra,lej,ok⟩:=zd (d:=d) L.q I.draw
 obtain⟨P1,I1,new1,old1⟩:=I.drawn D1
 have H1:m9 P1 r R js:=⟨new1 r _ le ra.at_,ra.len,fun k j p a b=>new1 j _ (lej j (List.mem_of_getElem? a)) (ra.part k j p a b)⟩
 have L1:=L.upd (x:=221) (v:=.ref r) (by decide)
 have gr:=I1.mod.at_ _ _ _ I1.rr
 have cn:=(gB (af (G:=[AO.list []]) gr) aw).2
 rw[c0] at cn
 have t1:=bI (b9 (cf:=cfd (d + 2)) (loc:=upd 221 (.ref r) loc) (ag L1.rr) (r_list aF) cn)
 cases hz:rs.isEmpty with
 | true=>
  rw[hz] at t1
  exact⟨_,_,P1,r,R,js,aK (bl e1) (aK (cN (kf t1 rfl) b6) b6),I1.app,L1,aq,H1,ok⟩
 | false=>
  rw[hz] at t1
  have D0:bG S1 q (S1++[AO.list []]):=(bG.refl I1.draw).app
  have dr2:=D0.at I1.draw
  obtain⟨k2,S2,e2,D2,l2,_⟩:=mP (d:=d + 1) (loc:=upd 221 (.ref r) loc) (em:=.int 5) (m:=5) L1.q (fun T _=>bk) dr2 (by decide) (by decide)
  have D02:=D0.trans I1.draw D2
  have t2:=bI (b9 (cf:=cfd (d + 2)) (op:=.eq) e2 (bk (i:=0)) rF)
  cases hb:(Int.ofNat k2==(0:Int)) with
  | false=>
   rw[hb] at t2
   obtain⟨P2,I2,new2,old2⟩:=I1.drawn D02
   exact⟨_,_,P2,r,R,js,aK (bl e1) (aK (cN (kf t1 (iL t2)) b6) b6),I2,L1,aq,H1.move old2,ok⟩
  | true=>
   rw[hb] at t2
   obtain⟨P2,I2,new2,old2⟩:=I1.drawn D02
   have gr2:=I2.mod.at_ _ _ _ I2.rr
   have nrq:rr≠q:=fun z=>by
    obtain⟨a,b,gq,_⟩:=I2.dr
    have gr:=I2.rr
    rw[z] at gr
    exact absurd (I2.mod.inj _ _ _ _ _ gr gq) (by simp)
   have fw:=I.few
   have lr:=I.lr
   have n0:rs.length≠0:=fun z=>by rw[List.eq_nil_of_length_eq_zero z] at hz;cases hz
   obtain⟨k3,w3,S3,g3,e3,D3,l3⟩:=zb (d:=d + 1) (em:=.none) (loc:=upd 221 (.ref r) loc) (x:=231) (L:=rs.map .ref) L1.q L1.rr gr2 nrq I2.draw (by rw[List.length_map];omega) (by rw[List.length_map];omega)
   obtain⟨r3,gr3,rfl⟩:=gM g3
   obtain⟨R3,gR3⟩:=bt (l:=rows) (k:=k3) (by have:=ae gr3;omega)
   obtain⟨P3,I3,new3,old3⟩:=I2.drawn D3
   obtain⟨js3,H3⟩:=I3.row k3 r3 R3 gr3 gR3
   exact⟨_,_,P3,r3,R3.parts,js3,aK (bl e1) (aK (cN (kf t1 (iL t2)) (aK (bl e3) b6)) b6),I3,L1.upd (by decide),aq,H3,(I.ok R3 (List.mem_of_getElem? gR3)).1⟩
end Mine
end
section
namespace Mine
variable {cf:CF} {loc loc1 loc' loc2:Loc} {S S1 S2 S3 T G:aa} {v u a b k:AV} {vs:List AV} {e e1 e2 t:IE} {l:List AV} {d:Nat}
variable {P:HS} {q rr sp hd tt dd:Nat} {rs ps hs:List Nat} {rows:List Rw} {w:Int} {ns:List Int}
noncomputable abbrev mV:List IS:=[.ite (.and [.val (.cmp .isNone (.sub (.sub (.var 246) (.var 106)) (.int 1)) (.none)),.val (.call 86 [.sub (.var 231) (.var 106),.var 221]),.val (.call 86 [.var 221,.sub (.var 231) (.var 106)])]) [.assign (.sub (.sub (.var 246) (.var 106)) (.int 1)) (.var 295)] []]
theorem vU{r:Nat}{R0:List (List Nat)}{js:List Nat}{w1:Int}(I:TI S P q rr sp hd tt dd rs ps hs rows w)(L:LV ns q rr sp hd tt loc)(h1:get? 221 loc=some (.ref r))(h2:get? 295 loc=some (.int w1))(H:m9 P r R0 js)(ok0:cc R0):
  ∃loc' S' P',evS PQ (cfd (d + 2)) 1000 (.for [106] (.rng (.bi .len [.var 231])) mV) loc S=some (.next loc',S')∧LV ns q rr sp hd tt loc'∧get? 221 loc'=some (.ref r)∧get? 295 loc'=some (.int w1)∧aV S' P'∧(∀y,(∀m,m < rows.length→y≠.spn m)→P' y=P y)∧∀(m p:Nat) (R:Rw),ps[m]?=some p→rows[m]?=some R→P' (.spn m)=some (p,.list [.int R.b,iM w1 R0 R]):=by
 have gr:=I.mod.at_ _ _ _ I.rr
 have fw:=I.few
 have hi:=n9 (cf:=cfd (d + 2)) (loc:=loc) (iK (az (ag L.rr) aF) (gA gr)) (Int.natCast_nonneg _) (by rw[List.length_map,I.lr];omega)
 rw[List.length_map,I.lr] at hi
 obtain⟨loc',T,e,L',l1,l2,P',M',p',i'⟩:=(jG (cf:=cfd (d + 2)) (tg:=[106]) (b:=mV) (l:=aX (List.range rows.length)) (stop:=fun _=>false)
  (Inv:=fun k loc T=>LV ns q rr sp hd tt loc∧get? 221 loc=some (.ref r)∧get? 295 loc=some (.int w1)∧∃P',aV T P'∧(∀y,(∀m,m < rows.length→y≠.spn m)→P' y=P y)∧∀(m p:Nat) (R:Rw),ps[m]?=some p→rows[m]?=some R→P' (.spn m)=some (p,.list [.int R.b,if m < k then iM w1 R0 R else R.e]))
  (Post:=fun _ _ _=>True) hi (.inl rfl) (by rw[List.length_map,List.length_range];omega)
  ⟨L,h1,h2,P,I.mod,fun _ _=>rfl,fun m p R a b=>by rw[if_neg (Nat.not_lt_zero _)];exact I.span m p R a b⟩
  (fun k v loc T hv I'=>⟨fun q=>(nomatch q),fun _=>by
   obtain⟨L,l1,l2,P',M',p',i'⟩:=I'
   obtain⟨k',gk,rfl⟩:=gM hv
   have hk:k < rows.length:=by have:=ae gk;rwa [List.length_range] at this
   rw[List.getElem?_range hk] at gk
   cases gk
   obtain⟨R,gR⟩:=bt hk
   obtain⟨p,gp⟩:=bt (l:=ps) (k:=k) (by rw[I.lp];exact hk)
   obtain⟨x,gx⟩:=bt (l:=rs) (k:=k) (by rw[I.lr];exact hk)
   have pk:=i' k p R gp gR
   rw[if_neg (Nat.lt_irrefl _)] at pk
   obtain⟨kj,Hk⟩:=I.row k x R gx gR
   have okR:=I.ok R (List.mem_of_getElem? gR)
   have co:∀i o,P (.co i)=some (i,o)→P' (.co i)=some (i,o):=fun i o e=>(p' _ fun _ _=>by simp).trans e
   have ra:=(Hk.move co).row M'
   have r0:=(H.move co).row M'
   have gp':=M'.at_ _ _ _ pk
   have gsp:=M'.at_ _ _ _ ((p' .sp fun _ _=>by simp).trans I.sp)
   have grr:=M'.at_ _ _ _ ((p' .rr fun _ _=>by simp).trans I.rr)
   have L3:=L.upd (x:=106) (v:=.int (Int.ofNat k)) (by decide)
   have g1:=ab (x:=106) (v:=.int (Int.ofNat k)) l1 (by decide)
   have g2:=ab (x:=106) (v:=.int (Int.ofNat k)) l2 (by decide)
   have sp1:∀{G:aa},evE PQ (cfd (d + 2)) 1000 (.sub (.var 246) (.var 106)) (upd 106 (.int (Int.ofNat k)) loc) (T++G)=some (.ref p,T++G):=fun {G}=>cw (ag L3.sp) (ag aq) (bw (af gsp) (dO gp))
   have sp0:evE PQ (cfd (d + 2)) 1000 (.sub (.var 246) (.var 106)) (upd 106 (.int (Int.ofNat k)) loc) T=some (.ref p,T):=cw (ag L3.sp) (ag aq) (bw gsp (dO gp))
   have rr1:∀{G:aa},evE PQ (cfd (d + 2)) 1000 (.sub (.var 231) (.var 106)) (upd 106 (.int (Int.ofNat k)) loc) (T++G)=some (.ref x,T++G):=fun {G}=>cw (ag L3.rr) (ag aq) (bw (af grr) (dO gx))
   have rr0:evE PQ (cfd (d + 2)) 1000 (.sub (.var 231) (.var 106)) (upd 106 (.int (Int.ofNat k)) loc) T=some (.ref x,T):=cw (ag L3.rr) (ag aq) (bw grr (dO gx))
   have c1:=bI (b9 (cw sp0 (bk (i:=1)) (bw (k:=1) (v:=R.e) gp' rfl)) fH (mQ okR.2))
   have tst:∃G,evT PQ (cfd (d + 2)) 1000 (.and [.val (.cmp .isNone (.sub (.sub (.var 246) (.var 106)) (.int 1)) (.none)),.val (.call 86 [.sub (.var 231) (.var 106),.var 221]),.val (.call 86 [.var 221,.sub (.var 231) (.var 106)])]) (upd 106 (.int (Int.ofNat k)) loc) T=some (isN R.e&&(bc R.parts R0&&bc R0 R.parts),T++G):=by
    cases hn:isN R.e with
    | false=>
     rw[hn] at c1
     exact⟨[],by rw[List.append_nil];exact vJ c1 rfl⟩
    | true=>
     rw[hn] at c1
     obtain⟨G1,e1⟩:=cA (d:=d) ra r0 okR.1
     have c2:=bI (bO (f:=86) (az rr0 (az (ag g1) aF)) e1)
     cases hu:bc R.parts R0 with
     | false=>
      rw[hu] at c2
      exact⟨G1,vJ c1 (vJ c2 rfl)⟩
     | true=>
      rw[hu] at c2
      obtain⟨G2,e2⟩:=cA (d:=d) (r0.app (G:=G1)) (ra.app (G:=G1)) ok0
      exact⟨G1++G2,by rw[←List.append_assoc];exact vJ c1 (vJ c2 (iL (bI (bO (az (ag g1) (az rr1 aF)) e2))))⟩
   obtain⟨G,tst⟩:=tst
   have keep:∀(m j':Nat) (R':Rw),m≠k→ps[m]?=some j'→rows[m]?=some R'→P' (.spn m)=some (j',.list [.int R'.b,if m < k + 1 then iM w1 R0 R' else R'.e]):=fun m j' R' ne a b=>by
    have:=i' m j' R' a b
    by_cases z:m < k
    ·rw[if_pos z] at this;rw[if_pos (Nat.lt_succ_of_lt z)];exact this
    ·rw[if_neg z] at this;rw[if_neg (by omega)];exact this
   cases hb:isN R.e&&(bc R.parts R0&&bc R0 R.parts) with
   | false=>
    rw[hb] at tst
    refine⟨_,_,bL c5 (aK (cN tst b6) b6),L3,g1,g2,P',M'.app,p',fun m j' R' a b=>?_⟩
    by_cases z:m=k
    ·subst z
     rw[gp] at a;cases a
     rw[gR] at b;cases b
     rw[if_pos (Nat.lt_succ_self _)]
     refine pk.trans ?_
     unfold iM
     rw[hb,if_neg Bool.false_ne_true]
    ·exact keep m j' R' z a b
   | true=>
    rw[hb] at tst
    have sa:=s9 (cf:=cfd (d + 2)) (loc:=upd 106 (.int (Int.ofNat k)) loc) (S:=T++G) (e:=.var 295) (e2:=.int 1) (j:=1) (ag g2) sp1 bk (af gp') ⟨by decide,by simp⟩
    refine⟨_,_,bL c5 (aK (cN tst (aK sa b6)) b6),L3,g1,g2,_,(M'.app (G:=G)).set pk,fun y hy=>by rw[an (hy k hk)];exact p' y hy,fun m j' R' a b=>?_⟩
    by_cases z:m=k
    ·subst z
     rw[gp] at a;cases a
     rw[gR] at b;cases b
     rw[if_pos (Nat.lt_succ_self _)]
     refine bX.trans ?_
     unfold iM
     rw[hb,if_pos rfl];rfl
    ·rw[an (by simp;exact z)]
     exact keep m j' R' z a b⟩)).all fun _ _=>rfl
 rw[List.length_map,List.length_range] at i'
 refine⟨loc',T,P',e,L',l1,l2,M',p',fun m p R a b=>?_⟩
 have:=i' m p R a b
 rw[if_pos (ae b)] at this
 exact this
end Mine
end
section
namespace Mine
variable {cf:CF} {loc loc1 loc' loc2:Loc} {S S1 S2 S3 T G:aa} {v u a b k:AV} {vs:List AV} {e e1 e2 t:IE} {l:List AV} {d:Nat}
variable {P:HS} {q rr sp hd tt dd:Nat} {rs ps hs:List Nat} {rows:List Rw} {w:Int} {ns:List Int}
theorem zh{i:Nat}{l:List AV}{v:AV}(h:S[i]?=some (.list (l++[v]))):wd (.ref i) S=some (v,S):=(oS (bV h)).trans (oS (by rw[List.getLast?_append];rfl))
theorem FY:PQ.meth 4 97=some 57:=by kernel_rfl
noncomputable abbrev mW:List IS:=[.expr (.meth (.var 231) 102 [.var 221]),.expr (.meth (.var 246) 102 [.list [.var 295,.none]]),.expr (.meth (.var 149) 102 [.new 3 [.call 87 [.var 221],.none,.bi .len [.var 221],.list []]]),.expr (.meth (.var 262) 97 [.str 131,.last (.var 149)])]
theorem pU{i r:Nat}{js:List Nat}(h:S[i]?=some (.list (js.map .ref)))(hl:js.length≤4):d8 PQ cf .lst (.ref i) 102 [.ref r] S=some (.none,setAt S i (.list ((js++[r]).map .ref))):=by
 have:=fm (cf:=cf) (v:=.ref r) h (by rw[List.length_map];have L:lim=1000:=rfl;omega)
 rw[this,List.map_append];rfl
theorem vV{P0:HS}{r:Nat}{R0:List (List Nat)}{js:List Nat}{w1:Int}(I:TI S1 P q rr sp hd tt dd rs ps hs rows w)(hw:w1=w + 1)(few:rows.length≤3)(L:LV ns q rr sp hd tt loc)(h1:get? 221 loc=some (.ref r))(h2:get? 295 loc=some (.int w1))(H:m9 P r R0 js)(ok0:cc R0)
  (M:aV S P0)(p0:∀y,(∀m,m < rows.length→y≠.spn m)→P0 y=P y)(s0:∀(m p:Nat) (R:Rw),ps[m]?=some p→rows[m]?=some R→P0 (.spn m)=some (p,.list [.int R.b,iM w1 R0 R])):
  ∃S' P' p i,cC PQ (cfd (d + 2)) 1000 mW loc S=some (.next loc,S')∧TI S' P' q rr sp hd tt dd (rs++[r]) (ps++[p]) (hs++[i]) (rows.map (FW w1 R0)++[⟨R0,w1,.none⟩]) w1:=by
 have lr:=I.lr
 have lp:=I.lp
 have lh:=I.lh
 have same:∀y,(∀m,y≠.spn m)→P0 y=P y:=fun y hy=>p0 y fun m _=>hy m
 have fr:=I.free rows.length (Nat.le_refl _)
 have q1:P0 .rr=some (rr,.list (rs.map .ref)):=(same _ (by simp)).trans I.rr
 have st1:evS PQ (cfd (d + 2)) 1000 (.expr (.meth (.var 231) 102 [.var 221])) loc S=some (.next loc,setAt S rr (.list ((rs++[r]).map .ref))):=
  jd (b5 (ag L.rr) (b4 (M.at_ _ _ _ q1)) (az (ag h1) aF) (pU (M.at_ _ _ _ q1) (by omega)))
 have M1:aV (setAt S rr (.list ((rs++[r]).map .ref))) (put P0 .rr rr (.list ((rs++[r]).map .ref))):=M.set q1
 obtain⟨S2,hS2⟩:∃S2,S2=setAt S rr (.list ((rs++[r]).map .ref)):=⟨_,rfl⟩
 obtain⟨P1,hP1⟩:∃P1,P1=put P0 .rr rr (.list ((rs++[r]).map .ref)):=⟨_,rfl⟩
 rw[←hS2] at st1
 rw[←hS2,←hP1] at M1
 have p1:∀y,y≠.rr→P1 y=P0 y:=fun y a=>by rw[hP1,an a]
 have rr1:P1 .rr=some (rr,.list ((rs++[r]).map .ref)):=by rw[hP1,bX]
 have n1:P1 (.spn rows.length)=none:=((p1 _ (by simp)).trans (p0 _ fun m hm=>by simp;omega)).trans fr.1
 have M2:=M1.new (o:=.list [.int w1,.none]) n1
 have q2:P1 .sp=some (sp,.list (ps.map .ref)):=((p1 _ (by simp)).trans (same _ (by simp))).trans I.sp
 have q2':put P1 (.spn rows.length) S2.length (.list [.int w1,.none]) .sp=some (sp,.list (ps.map .ref)):=(an (by simp)).trans q2
 have st2:evS PQ (cfd (d + 2)) 1000 (.expr (.meth (.var 246) 102 [.list [.var 295,.none]])) loc S2=some (.next loc,setAt (S2++[.list [.int w1,.none]]) sp (.list ((ps++[S2.length]).map .ref))):=
  jd (b5 (ag L.sp) (b4 (M1.at_ _ _ _ q2)) (az (r_list (az (ag h2) (az fH aF))) aF) (pU (M2.at_ _ _ _ q2') (by omega)))
 have M3:=M2.set (o':=.list ((ps++[S2.length]).map .ref)) q2'
 obtain⟨S3,hS3⟩:∃S3,S3=setAt (S2++[.list [.int w1,.none]]) sp (.list ((ps++[S2.length]).map .ref)):=⟨_,rfl⟩
 obtain⟨P3,hP3⟩:∃P3,P3=put (put P1 (.spn rows.length) S2.length (.list [.int w1,.none])) .sp sp (.list ((ps++[S2.length]).map .ref)):=⟨_,rfl⟩
 rw[←hS3] at st2
 rw[←hS3,←hP3] at M3
 have p3:∀y,y≠.sp→y≠.spn rows.length→P3 y=P1 y:=fun y a b=>by rw[hP3,an a,an b]
 have sp3:P3 .sp=some (sp,.list ((ps++[S2.length]).map .ref)):=by rw[hP3,bX]
 have sn3:P3 (.spn rows.length)=some (S2.length,.list [.int w1,.none]):=by rw[hP3,an (by simp),bX]
 have co3:∀i o,P (.co i)=some (i,o)→P3 (.co i)=some (i,o):=fun i o e=>(((p3 _ (by simp) (by simp)).trans (p1 _ (by simp))).trans (same _ (by simp))).trans e
 have r3:=(H.move co3).row M3
 obtain⟨G,e3⟩:=mB (d:=d) r3 ok0
 have q3:P3 .hd=some (hd,.list (hs.map .ref)):=(((p3 _ (by simp) (by simp)).trans (p1 _ (by simp))).trans (same _ (by simp))).trans I.hd
 obtain⟨S4,hS4⟩:∃S4,S4=(S3++G)++[AO.list []]:=⟨_,rfl⟩
 have M4:aV S4 P3:=by rw[hS4];exact(M3.app).app
 have n4:P3 (.ins rows.length)=none:=(((p3 _ (by simp) (by simp)).trans (p1 _ (by simp))).trans (same _ (by simp))).trans fr.2
 have M5:=M4.new (o:=cB (aD (R0.map kx)) (js.map AV.ref).length (.ref (S3++G).length) 0 .none) n4
 have q5:put P3 (.ins rows.length) S4.length (cB (aD (R0.map kx)) (js.map AV.ref).length (.ref (S3++G).length) 0 .none) .hd=some (hd,.list (hs.map .ref)):=(an (by simp)).trans q3
 have en:evE PQ (cfd (d + 2)) 1000 (.new 3 [.call 87 [.var 221],.none,.bi .len [.var 221],.list []]) loc S3=some (.ref S4.length,S4++[cB (aD (R0.map kx)) (js.map AV.ref).length (.ref (S3++G).length) 0 .none]):=by
  rw[hS4]
  exact C8 (az (bO (az (ag h1) aF) e3) (az fH (az (iK (az (ag h1) aF) (gA (af r3.at_))) (az (r_list aF) aF)))) vR
 have st3:evS PQ (cfd (d + 2)) 1000 (.expr (.meth (.var 149) 102 [.new 3 [.call 87 [.var 221],.none,.bi .len [.var 221],.list []]])) loc S3=some (.next loc,setAt (S4++[cB (aD (R0.map kx)) (js.map AV.ref).length (.ref (S3++G).length) 0 .none]) hd (.list ((hs++[S4.length]).map .ref))):=
  jd (b5 (ag L.hd) (b4 (M3.at_ _ _ _ q3)) (az en aF) (pU (M5.at_ _ _ _ q5) (by omega)))
 have M6:=M5.set (o':=.list ((hs++[S4.length]).map .ref)) q5
 obtain⟨S6,hS6⟩:∃S6,S6=setAt (S4++[cB (aD (R0.map kx)) (js.map AV.ref).length (.ref (S3++G).length) 0 .none]) hd (.list ((hs++[S4.length]).map .ref)):=⟨_,rfl⟩
 obtain⟨P6,hP6⟩:∃P6,P6=put (put P3 (.ins rows.length) S4.length (cB (aD (R0.map kx)) (js.map AV.ref).length (.ref (S3++G).length) 0 .none)) .hd hd (.list ((hs++[S4.length]).map .ref)):=⟨_,rfl⟩
 rw[←hS6] at st3
 rw[←hS6,←hP6] at M6
 have p6:∀y,y≠.hd→y≠.ins rows.length→P6 y=P3 y:=fun y a b=>by rw[hP6,an a,an b]
 have hd6:P6 .hd=some (hd,.list ((hs++[S4.length]).map .ref)):=by rw[hP6,bX]
 have in6:P6 (.ins rows.length)=some (S4.length,cB (aD (R0.map kx)) (js.map AV.ref).length (.ref (S3++G).length) 0 .none):=by rw[hP6,an (by simp),bX]
 have far:∀y,y≠.hd→y≠.ins rows.length→y≠.sp→y≠.rr→(∀m,y≠.spn m)→P6 y=P y:=fun y a b c d' e=>(((p6 y a b).trans (p3 y c (e _))).trans (p1 y d')).trans (same y e)
 have t6:P6 .t=some (tt,fI dd w):=(far _ (by simp) (by simp) (by simp) (by simp) (by simp)).trans I.tb
 have di6:uz P6 dd hs:=by
  rcases I.di with⟨c,d1,d2⟩ | ⟨rl,d1,d2⟩
  ·exact .inl ⟨c,(far _ (by simp) (by simp) (by simp) (by simp) (by simp)).trans d1,(far _ (by simp) (by simp) (by simp) (by simp) (by simp)).trans d2⟩
  ·exact .inr ⟨rl,(far _ (by simp) (by simp) (by simp) (by simp) (by simp)).trans d1,(far _ (by simp) (by simp) (by simp) (by simp) (by simp)).trans d2⟩
 have ia6:uy P6 hs rows:=fun k i R a b=>by
  obtain⟨n,x,g⟩:=I.ins k i R a b
  exact⟨n,x,(far _ (by simp) (by have:=ae b;simp;omega) (by simp) (by simp) (by simp)).trans g⟩
 obtain⟨S7,P7,e7,M7,t7,di7,ia7,p7⟩:=FX (d:=d + 1) M6 t6 di6 ia6 lh (by omega) I.ok ok0 in6
 have st4:evS PQ (cfd (d + 2)) 1000 (.expr (.meth (.var 262) 97 [.str 131,.last (.var 149)])) loc S6=some (.next loc,S7):=
  jd (b5 (ag L.t) (c4 (M6.at_ _ _ _ t6) cO rfl FY) (az iR (az (FG (ag L.hd) (zh (by have:=M6.at_ _ _ _ hd6;rwa [List.map_append] at this))) aF)) (show d8 PQ (cfd (d + 2)) (.fn 57) (.ref tt) 97 [.str 131,.ref S4.length] S6=_ from e7))
 rw[←hw] at t7 ia7
 have far7:∀y,y≠.hd→(∀k,k≤rows.length→y≠.ins k)→y≠.sp→y≠.rr→(∀m,y≠.spn m)→y≠.t→y≠.dd→y≠.rl→P7 y=P y:=fun y a b c d' e f g h=>(p7 y f g h b).trans (far y a (b _ (Nat.le_refl _)) c d' e)
 have spn7:∀m,P7 (.spn m)=P6 (.spn m):=fun m=>p7 _ (by simp) (by simp) (by simp) (by simp)
 have co7:∀i o,P (.co i)=some (i,o)→P7 (.co i)=some (i,o):=fun i o e=>(far7 _ (by simp) (by simp) (by simp) (by simp) (by simp) (by simp) (by simp) (by simp)).trans e
 refine⟨S7,P7,S2.length,S4.length,aK st1 (aK st2 (aK st3 (aK st4 b6))),M7,?_,?_,?_,?_,t7,di7,?_,?_,?_,?_,?_,ia7,?_,?_,?_,?_⟩
 ·obtain⟨a,b,g,h⟩:=I.dr
  exact⟨a,b,(far7 _ (by simp) (by simp) (by simp) (by simp) (by simp) (by simp) (by simp) (by simp)).trans g,h⟩
 ·exact(((p7 _ (by simp) (by simp) (by simp) (by simp)).trans (p6 _ (by simp) (by simp))).trans (p3 _ (by simp) (by simp))).trans rr1
 ·exact((p7 _ (by simp) (by simp) (by simp) (by simp)).trans (p6 _ (by simp) (by simp))).trans sp3
 ·exact(p7 _ (by simp) (by simp) (by simp) (by simp)).trans hd6
 ·simp[lr]
 ·simp[lp]
 ·simp[lh]
 ·intro k x R a b
  rcases eE a with q1 | ⟨q1,q2⟩<;>rcases eE b with q3 | ⟨q3,q4⟩
  ·obtain⟨R',gR',rfl⟩:=gM q3
   obtain⟨js',h'⟩:=I.row k x R' q1 gR'
   exact⟨js',h'.move co7⟩
  ·rw[List.length_map] at q3;exact absurd (ae q1) (by omega)
  ·have:=ae q3;rw[List.length_map] at this;exact absurd this (by omega)
  ·subst q2;subst q4;exact⟨js,H.move co7⟩
 ·intro k x R a b
  rw[spn7]
  rcases eE a with q1 | ⟨q1,q2⟩<;>rcases eE b with q3 | ⟨q3,q4⟩
  ·obtain⟨R',gR',rfl⟩:=gM q3
   have lt:=ae gR'
   exact(((p6 _ (by simp) (by simp)).trans (p3 _ (by simp) (by simp;omega))).trans (p1 _ (by simp))).trans (s0 k x R' q1 gR')
  ·rw[List.length_map] at q3;exact absurd (ae q1) (by omega)
  ·have:=ae q3;rw[List.length_map] at this;exact absurd this (by omega)
  ·rw[List.length_map] at q3
   subst q2;subst q4;subst q3
   exact(p6 _ (by simp) (by simp)).trans sn3
 ·intro k hk
  have hk:rows.length + 1≤k:=by simpa using hk
  have f:=I.free k (by omega)
  constructor
  ·rw[spn7]
   exact((((p6 _ (by simp) (by simp)).trans (p3 _ (by simp) (by simp;omega))).trans (p1 _ (by simp))).trans (p0 _ fun m hm=>by simp;omega)).trans f.1
  ·exact(far7 _ (by simp) (fun m hm=>by simp;omega) (by simp) (by simp) (by simp) (by simp) (by simp) (by simp)).trans f.2
 ·intro i j o e
  rw[far7 _ (by simp) (by simp) (by simp) (by simp) (by simp) (by simp) (by simp) (by simp)] at e
  exact I.cop i j o e
 ·intro R hR
  rcases List.mem_append.mp hR with h | h
  ·obtain⟨R',hR',rfl⟩:=List.mem_map.mp h
   exact Cn (I.ok R' hR')
  ·rw[List.mem_singleton] at h;subst h;exact⟨ok0,.inl rfl⟩
 ·simp;omega
end Mine
end
section
namespace Mine
variable {cf:CF} {loc loc1 loc' loc2:Loc} {S S1 S2 S3 T G:aa} {v u a b k:AV} {vs:List AV} {e e1 e2 t:IE} {l:List AV} {d:Nat}
variable {P:HS} {q rr sp hd tt dd:Nat} {rs ps hs:List Nat} {rows:List Rw} {w:Int} {ns:List Int}
noncomputable abbrev uA:List IS:=[.assign (.name 295) (.bin .add (.attr (.var 262) 295) (.int 1)),.for [106] (.rng (.bi .len [.var 231])) mV]
theorem zi(I:TI S P q rr sp hd tt dd rs ps hs rows w)(L:LV ns q rr sp hd tt loc)(few:rows.length≤3):
  ∃loc' S' P' rs' ps' hs' rows',cC PQ (cfd (d + 2)) 1000 (mR++(uA++mW)) loc S=some (.next loc',S')∧TI S' P' q rr sp hd tt dd rs' ps' hs' rows' (w + 1)∧LV ns q rr sp hd tt loc'∧rows'.length=rows.length + 1:=by
 obtain⟨loc1,S1,P1,r,R,js,e1,I1,L1,h1,H1,ok⟩:=vT (d:=d) I L
 have gt:=I1.mod.at_ _ _ _ I1.tb
 have st1:evS PQ (cfd (d + 2)) 1000 (.assign (.name 295) (.bin .add (.attr (.var 262) 295) (.int 1))) loc1 S1=some (.next (upd 295 (.int (w + 1)) loc1),S1):=
  bl (cM (bW (ag L1.t) (aW (v:=.int w) gt cO rfl)) bk fq)
 obtain⟨loc2,S2,P2,e2,L2,h21,h22,M2,p2,s2⟩:=vU (d:=d) (w1:=w + 1) I1 (L1.upd (x:=295) (v:=.int (w + 1)) (by decide)) (ab h1 (by decide)) aq H1 ok
 obtain⟨S3,P3,p,i,e3,I3⟩:=vV (d:=d) I1 rfl few L2 h21 h22 H1 ok M2 p2 s2
 exact⟨loc2,S3,P3,_,_,_,_,mU e1 (mU (aK st1 (aK e2 b6)) e3),I3,L2,by simp⟩
theorem IQ(I:TI S P q rr sp hd tt dd rs ps hs [] w)(L:LV ns q rr sp hd tt loc):
  ∃loc' S' P' rs' ps' hs' rows' w',evS PQ (cfd (d + 2)) 1000 (.for [273] (.rng (.call 82 [.var 237,.int 5])) (mR++(uA++mW))) loc S=some (.next loc',S')∧TI S' P' q rr sp hd tt dd rs' ps' hs' rows' w'∧LV ns q rr sp hd tt loc':=by
 obtain⟨n,S1,e1,D1,l1,lt⟩:=mP (d:=d + 1) (em:=.int 5) (m:=5) L.q (fun T _=>bk) I.draw (by decide) (by decide)
 have lt:n < 5:=by have:((n:Nat):Int) < 5:=lt;omega
 obtain⟨P1,I1,_,_⟩:=I.drawn D1
 have hi:=n9 e1 (show(0:Int)≤((n:Nat):Int) from Int.natCast_nonneg _) (show((n:Nat):Int) < 1000000 by omega)
 rw[show(Int.ofNat n).toNat=n from rfl] at hi
 obtain⟨loc',T,e,L',P',rs',ps',hs',rows',w',I',len⟩:=(jG (cf:=cfd (d + 2)) (tg:=[273]) (b:=mR++(uA++mW)) (l:=aX (List.range n)) (stop:=fun _=>false)
  (Inv:=fun k loc T=>LV ns q rr sp hd tt loc∧∃P rs ps hs rows w,TI T P q rr sp hd tt dd rs ps hs rows w∧rows.length=k)
  (Post:=fun _ _ _=>True) hi (.inl rfl) (by rw[List.length_map,List.length_range];omega) ⟨L,P1,rs,ps,hs,[],w,I1,rfl⟩
  (fun k v loc T hv I'=>⟨fun z=>(nomatch z),fun _=>by
   obtain⟨L,P,rs,ps,hs,rows,w,I,len⟩:=I'
   have hk:k < n:=by have:=ae hv;rwa [List.length_map,List.length_range] at this
   obtain⟨loc',S',P',rs',ps',hs',rows',e,I',L',len'⟩:=zi (d:=d) I (L.upd (x:=273) (v:=v) (by decide)) (by omega)
   exact⟨_,_,bL c5 e,L',P',rs',ps',hs',rows',_,I',by omega⟩⟩)).all fun _ _=>rfl
 exact⟨loc',T,P',rs',ps',hs',rows',w',e,I',L'⟩
theorem aV.nil:aV S fun _=>none:=⟨fun _ _ _ e=>(nomatch e),fun _ _ _ _ _ e=>(nomatch e)⟩
noncomputable abbrev zj:List IS:=[.assign (.name 237) (.call 81 [.var 235,.var 170]),.assign (.tup [231,246,149,262]) (.tup [.list [],.list [],.list [],.new 4 [.var 173]])]
theorem IR{n:Nat}(hn:n < 2)(h1:get? 235 loc=some (.lst (ns.map .int)))(h2:get? 173 loc=some KK)(h3:get? 170 loc=some (.int (Int.ofNat n))):
  ∃loc' S' P' q rr sp hd tt dd,cC PQ (cfd (d + 2)) 1000 zj loc S=some (.next loc',S')∧TI S' P' q rr sp hd tt dd [] [] [] [] 1∧LV ns q rr sp hd tt loc':=by
 obtain⟨a,b,e1,b0,b1⟩:=Cl (d:=d + 1) (S:=S) (ns:=ns) hn
 have st1:=bl (cf:=cfd (d + 2)) (x:=237) (loc:=loc) (S:=S) (bO (az (ag h1) (az (ag h3) aF)) e1)
 obtain⟨S1,hS1⟩:∃S1,S1=S++[AO.list [.int a,.int b]]:=⟨_,rfl⟩
 rw[←hS1] at st1
 have M1:aV S1 (put (fun _=>none) .q S.length (.list [.int a,.int b])):=by rw[hS1];exact aV.nil.new rfl
 have M2:=M1.new (x:=.rr) (o:=.list []) (by rw[an (by simp)])
 have M3:=M2.new (x:=.sp) (o:=.list []) (by rw[an (by simp),an (by simp)])
 have M4:=M3.new (x:=.hd) (o:=.list []) (by rw[an (by simp),an (by simp),an (by simp)])
 have M5:=M4.new (x:=.t) (o:=fI ((((S1++[AO.list []])++[AO.list []])++[AO.list []]).length + 1) 1) (by rw[an (by simp),an (by simp),an (by simp),an (by simp)])
 have M6:=M5.new (x:=.dd) (o:=.dict []) (by rw[an (by simp),an (by simp),an (by simp),an (by simp),an (by simp)])
 have st2:=IM (cf:=cfd (d + 2)) (loc:=upd 237 (.ref S.length) loc) (S:=S1) (xs:=[231,246,149,262])
  (rp (az (r_list aF) (az (r_list aF) (az (r_list aF) (az (C8 (c:=4) (az (ag (x:=173) (ab h2 (by decide))) aF) vS) aF))))) (aB _ _)
 refine⟨upd 262 (.ref (((S1++[AO.list []])++[AO.list []])++[AO.list []]).length) (upd 149 (.ref ((S1++[AO.list []])++[AO.list []]).length) (upd 246 (.ref (S1++[AO.list []]).length) (upd 231 (.ref S1.length) (upd 237 (.ref S.length) loc)))),_,_,S.length,S1.length,(S1++[AO.list []]).length,((S1++[AO.list []])++[AO.list []]).length,(((S1++[AO.list []])++[AO.list []])++[AO.list []]).length,(((S1++[AO.list []])++[AO.list []])++[AO.list []]).length + 1,aK st1 (aK st2 b6),⟨M6,⟨a,b,?_,b0,b1⟩,?_,?_,?_,?_,.inl ⟨rfl,?_,?_⟩,rfl,rfl,rfl,fun k r R h=>(nomatch h),fun k r R h=>(nomatch h),fun k r R h=>(nomatch h),fun k _=>⟨?_,?_⟩,fun i j o h=>?_,fun R h=>(nomatch h),Nat.zero_le _⟩,?_⟩
 ·rw[an (by simp),an (by simp),an (by simp),an (by simp),an (by simp),bX]
 ·rw[an (by simp),an (by simp),an (by simp),an (by simp),bX];rfl
 ·rw[an (by simp),an (by simp),an (by simp),bX];rfl
 ·rw[an (by simp),an (by simp),bX];rfl
 ·rw[an (by simp),bX]
 ·rw[bX,List.length_append];rfl
 ·rw[an (by simp),an (by simp),an (by simp),an (by simp),an (by simp),an (by simp)]
 ·rw[an (by simp),an (by simp),an (by simp),an (by simp),an (by simp),an (by simp)]
 ·rw[an (by simp),an (by simp),an (by simp),an (by simp),an (by simp),an (by simp)]
 ·rw[an (by simp),an (by simp),an (by simp),an (by simp),an (by simp),an (by simp)] at h;exact(nomatch h)
 ·constructor
  ·exact ab (ab (ab (ab (ab h1 (by decide)) (by decide)) (by decide)) (by decide)) (by decide)
  ·exact ab (ab (ab (ab (ab h2 (by decide)) (by decide)) (by decide)) (by decide)) (by decide)
  ·exact ab (ab (ab (ab aq (by decide)) (by decide)) (by decide)) (by decide)
  ·exact ab (ab (ab aq (by decide)) (by decide)) (by decide)
  ·exact ab (ab aq (by decide)) (by decide)
  ·exact ab aq (by decide)
  ·exact aq
end Mine
end
section
namespace Mine
variable {cf:CF} {loc loc1 loc' loc2:Loc} {S S1 S2 S3 T G:aa} {v u a b k:AV} {vs:List AV} {e e1 e2 t:IE} {l:List AV} {d:Nat}
noncomputable def uB(cf:CF)(elt:IE)(i:Nat)(loc:Loc)(S:aa):Option (Unit×aa):=bnd (evE PQ cf 1000 elt loc S) fun v S=>g5 i v S
noncomputable def ot(cf:CF)(tg:List Nat)(ifs:List IE)(em:Loc→aa→Option (Unit×aa))(r:List IC)(loc:Loc)(v:AV)(_:Unit)(S:aa):Option (Unit×aa):=ay (cy tg v loc) (fun loc'=>bnd (gQ PQ cf 1000 ifs loc' S) fun b S=>am b (evC PQ cf 1000 em r loc' S) (some ((),S))) none
theorem zk{tg:List Nat}{it:It}{ifs:List IE}{elt:IE}{r:List IC}{src:Src}(h:evI PQ cf 1000 it loc S=some (src,S1))(q:loop (ot cf tg ifs (uB cf elt S1.length) r (aU (d9 tg r) loc)) 1000 src () (S1++[.list []])=some ((),T)):
  evE PQ cf 1000 (.comp elt (.mk tg it ifs::r)) loc S=some (.ref S1.length,T):=by
 refine(av h).trans ((av aR).trans ?_)
 simp only[aB]
 exact(av q).trans rfl
theorem FZ{tg:List Nat}{it:It}{ifs:List IE}{em:Loc→aa→Option (Unit×aa)}{r:List IC}{src:Src}(h:evI PQ cf 1000 it loc S=some (src,S1))(q:loop (ot cf tg ifs em r loc) 1000 src () S1=some ((),T)):evC PQ cf 1000 em (.mk tg it ifs::r) loc S=some ((),T):=(av h).trans q
theorem to{tg:List Nat}{em:Loc→aa→Option (Unit×aa)}{r:List IC}{ro:Option (Unit×aa)}(h:cy tg v loc=some loc')(q:evC PQ cf 1000 em r loc' S=ro):ot cf tg [] em r loc v () S=ro:=(oS h).trans ((av (x:=true) rfl).trans q)
theorem kq{f:AV→Unit→aa→Option (Unit×aa)}{Inv:Nat→aa→Prop}{i:Nat}(hi:∀k T,Inv k T→T[i]?=some (.list l))(hl:l.length < 1000)
  (H:∀(k:Nat) (v:AV) (T:aa),l[k]?=some v→Inv k T→∃T',f v () T=some ((),T')∧Inv (k + 1) T')(I:Inv 0 S):∃T,loop f 1000 (.live i) () S=some ((),T)∧Inv l.length T:=by
 have run:∀(n k:Nat) (T:aa),l.length - k < n→k≤l.length→Inv k T→∃T',jn f i n k () T=some ((),T')∧Inv l.length T':=by
  intro n
  induction n with
  | zero=>intro k T h;exact absurd h (Nat.not_lt_zero _)
  | succ n ih=>
   intro k T h hk I
   have hL:∀r,ay l[k]? (fun v=>bnd (f v () T) fun a S=>jn f i n (k + 1) a S) (some ((),T))=r→jn f i (n + 1) k () T=r:=fun _ e=>(oLi (hi k T I)).trans e
   cases e:l[k]? with
   | none=>
    have q:k=l.length:=Nat.le_antisymm hk (by simpa using e)
    subst q
    exact⟨T,hL _ (oN e),I⟩
   | some v=>
    have lk:=ae e
    obtain⟨T1,e1,I1⟩:=H k v T e I
    obtain⟨T2,e2,I2⟩:=ih (k + 1) T1 (by omega) (by omega) I1
    exact⟨T2,hL _ ((oS e).trans ((av e1).trans e2)),I2⟩
 exact run 1000 0 S (by omega) (Nat.zero_le _) I
noncomputable def vW(R:List (List Nat)):Prop:=∀p∈R,∃a,p=[a]∧dM a=true
noncomputable def kr(S1 T:aa)(v:AV):Prop:=∃(p:Nat) (js:List Nat) (R:List (List Nat)),v=.ref p∧S1.length < p∧T[p]?=some (.list (js.map .ref))∧js.length=R.length∧(∀(k j:Nat) (pt:List Nat),js[k]?=some j→R[k]?=some pt→cV S1 j pt)∧cc R∧vW R
noncomputable def nf(S1:aa)(n:Nat)(T:aa):Prop:=∃(acc:List AV) (G:aa),T=(S1++[AO.list acc])++G∧acc.length≤n∧∀v∈acc,kr S1 T v
theorem kr.move{v:AV}(h:kr S1 T v)(H:∀i o,i≠S1.length→T[i]?=some o→S2[i]?=some o):kr S1 S2 v:=by
 obtain⟨p,js,R,e,lt,g,r⟩:=h
 exact⟨p,js,R,e,lt,H _ _ (Nat.ne_of_gt lt) g,r⟩
theorem nf.app{n:Nat}(h:nf S1 n T):nf S1 n (T++G):=by
 obtain⟨acc,G',rfl,hl,hv⟩:=h
 exact⟨acc,G'++G,List.append_assoc _ _ _,hl,fun v q=>(hv v q).move fun i o _ g=>af g⟩
theorem rH{n:Nat}{js:List Nat}{R:List (List Nat)}(A:nf S1 n T)(hn:n < 1000)(hj:js.length=R.length)(part:∀(k j:Nat) (pt:List Nat),js[k]?=some j→R[k]?=some pt→cV S1 j pt)(ok:cc R)(one:vW R):
  ∃T',g5 S1.length (.ref T.length) (T++[.list (js.map .ref)])=some ((),T')∧nf S1 (n + 1) T'∧∀i o,i≠S1.length→T[i]?=some o→T'[i]?=some o:=by
 obtain⟨acc,G,rfl,hl,hv⟩:=A
 have L:lim=1000:=rfl
 have em:=rG (w:=.ref ((S1++[AO.list acc])++G).length) (af (G:=[AO.list (js.map .ref)]) (af (G:=G) (aw (S:=S1) (o:=.list acc)))) (by omega)
 have eq:setAt (((S1++[AO.list acc])++G)++[AO.list (js.map .ref)]) S1.length (.list (acc++[.ref ((S1++[AO.list acc])++G).length]))=(S1++[AO.list (acc++[.ref ((S1++[AO.list acc])++G).length])])++(G++[AO.list (js.map .ref)]):=by
  rw[List.append_assoc (S1++[AO.list acc]) G,dN]
 have mv:∀i o,i≠S1.length→(((S1++[AO.list acc])++G)++[AO.list (js.map .ref)])[i]?=some o→(setAt (((S1++[AO.list acc])++G)++[AO.list (js.map .ref)]) S1.length (.list (acc++[.ref ((S1++[AO.list acc])++G).length])))[i]?=some o:=fun i o ne g=>(eG _ _ _ _ (Ne.symm ne)).trans g
 refine⟨_,em,⟨acc++[.ref ((S1++[AO.list acc])++G).length],_,eq,by simp;omega,fun v q=>?_⟩,fun i o ne g=>mv i o ne (af g)⟩
 rcases List.mem_append.mp q with q | q
 ·exact(hv v q).move fun i o ne g=>mv i o ne (af g)
 ·rw[List.mem_singleton] at q
  refine⟨_,js,R,q,by simp,mv _ _ (by simp) aw,hj,part,ok,one⟩
noncomputable def ip(S:aa)(j:Nat):Prop:=∃a,cV S j [a]∧dM a=true
theorem ip.app{j:Nat}(h:ip S j):ip (S++G) j:=let⟨a,g,n⟩:=h;⟨a,af g,n⟩
theorem tr{a:Nat}(h:dM a=true):cc [[a]]∧vW [[a]]:=
 ⟨⟨.inl rfl,fun p hp=>by rw[List.mem_singleton] at hp;subst hp;rfl,fun p hp c hc=>by rw[List.mem_singleton] at hp;subst hp;rw[List.mem_singleton] at hc;subst hc;exact h⟩,fun p hp=>by rw[List.mem_singleton] at hp;subst hp;exact⟨a,rfl,h⟩⟩
theorem zl{a c:Nat}(h:dM a=true)(h':dM c=true):cc [[a],[c]]∧vW [[a],[c]]:=by
 have key:∀p,p∈[[a],[c]]→∃x,p=[x]∧dM x=true:=fun p hp=>by
  rcases List.mem_cons.mp hp with rfl | hp
  ·exact⟨a,rfl,h⟩
  ·rw[List.mem_singleton] at hp;subst hp;exact⟨c,rfl,h'⟩
 exact⟨⟨.inr rfl,fun p hp=>by obtain⟨x,rfl,_⟩:=key p hp;rfl,fun p hp y hy=>by obtain⟨x,rfl,hx⟩:=key p hp;rw[List.mem_singleton] at hy;subst hy;exact hx⟩,key⟩
theorem F0{j:Nat}{p:List Nat}(h:cV S j p)(k j':Nat)(pt:List Nat)(a1:[j][k]?=some j')(a2:[p][k]?=some pt):cV S j' pt:=sW (G:=fun k j'=>[p][k]?=some pt→cV S j' pt) a1 (fun a2=>Option.some.inj a2▸h) a2
theorem F6{j j2:Nat}{p q:List Nat}(h:cV S j p)(h2:cV S j2 q)(k j':Nat)(pt:List Nat)(a1:[j,j2][k]?=some j')(a2:[p,q][k]?=some pt):cV S j' pt:=BE (G:=fun k j'=>[p,q][k]?=some pt→cV S j' pt) a1 (fun a2=>Option.some.inj a2▸h) (fun a2=>Option.some.inj a2▸h2) a2
theorem F7{i:Nat}{nl:List Nat}(h:get? 203 loc=some (.ref i))(hi:S[i]?=some (.list (nl.map .ref)))(hn:∀j∈nl,ip S j)(few:nl.length≤3):
  ∃T,evE PQ cf 1000 (.comp (.list [.var 212]) [.mk [212] (.of (.var 203)) []]) loc S=some (.ref S.length,T)∧nf S 3 T:=by
 have iS:=ae hi
 obtain⟨T,e,A⟩:=kq (f:=ot cf [212] [] (uB cf (.list [.var 212]) S.length) [] (aU (d9 [212] []) loc)) (l:=nl.map .ref) (S:=S++[.list []]) (Inv:=fun k T=>nf S k T∧T[i]?=some (.list (nl.map .ref))) (fun _ _ I=>I.2) (by rw[List.length_map];omega)
  (fun k v T hv I=>by
   obtain⟨A,g⟩:=I
   obtain⟨j,gj,rfl⟩:=gM hv
   obtain⟨a,pa,na⟩:=hn j (List.mem_of_getElem? gj)
   have hk:=ae gj
   obtain⟨T',e',A',keep⟩:=rH (js:=[j]) (R:=[[a]]) A (by omega) rfl (F0 pa) (tr na).1 (tr na).2
   exact⟨T',to c5 ((av (r_list (az (ag aq) aF))).trans e'),A',keep _ _ (Nat.ne_of_lt iS) g⟩)
  ⟨⟨[],[],by rw[List.append_nil],Nat.le_refl _,fun v q=>(nomatch q)⟩,af hi⟩
 obtain⟨⟨acc,G,r1,r2,r3⟩,_⟩:=A
 exact⟨T,zk (fW (ag h) (bb hi)) e,acc,G,r1,by rw[List.length_map] at r2;omega,r3⟩
theorem De{g:List AV→List AV}{i:Nat}(h:S[i]?=some (.list l)):rT g (.ref i) S=some (.ref S.length,S++[.list (g l)]):=(oS (bV h)).trans aR
theorem F8{i:Nat}{nl:List Nat}(h:get? 203 loc=some (.ref i))(hi:S[i]?=some (.list (nl.map .ref)))(hn:∀j∈nl,ip S j)(few:nl.length≤3):
  ∃T,evE PQ cf 1000 (.comp (.list [.var 212,.var 215]) [.mk [212] (.of (.take (.var 203) 2)) [],.mk [215] (.of (.drop (.var 203) 1)) []]) loc S=some (.ref (S.length + 1),T)∧nf (S++[.list ((nl.take 2).map .ref)]) 6 T:=by
 have iS:=ae hi
 obtain⟨S1,hS1⟩:∃S1,S1=S++[AO.list ((nl.take 2).map .ref)]:=⟨_,rfl⟩
 have l1:S1.length=S.length + 1:=by rw[hS1];simp
 have hi1:S1[i]?=some (.list (nl.map .ref)):=by rw[hS1];exact af hi
 have gt1:S1[S.length]?=some (.list ((nl.take 2).map .ref)):=by rw[hS1];exact aw
 have hn1:∀j∈nl,ip S1 j:=fun j hj=>by rw[hS1];exact(hn j hj).app
 have e0:evI PQ cf 1000 (.of (.take (.var 203) 2)) loc S=some (.live S.length,S1):=by
  rw[hS1]
  exact fW (FH (ag h) ((De hi).trans (by rw[List.map_take]))) (bb aw)
 obtain⟨T,e,A⟩:=kq (f:=ot cf [212] [] (uB cf (.list [.var 212,.var 215]) S1.length) [.mk [215] (.of (.drop (.var 203) 1)) []] (aU (d9 [212] [.mk [215] (.of (.drop (.var 203) 1)) []]) loc)) (l:=(nl.take 2).map .ref) (S:=S1++[.list []])
  (Inv:=fun k T=>nf S1 (3 * k) T∧T[i]?=some (.list (nl.map .ref))∧T[S.length]?=some (.list ((nl.take 2).map .ref))) (fun _ _ I=>I.2.2) (by rw[List.length_map,List.length_take];omega)
  (fun k v T hv I=>by
   obtain⟨A,g,g0⟩:=I
   obtain⟨j,gj,rfl⟩:=gM hv
   have hk:k < 2:=by have:=ae gj;rw[List.length_take] at this;omega
   obtain⟨a,pa,na⟩:=hn1 j (List.mem_of_mem_take (List.mem_of_getElem? gj))
   have h203:get? 203 (upd 212 (.ref j) (aU (d9 [212] [.mk [215] (.of (.drop (.var 203) 1)) []]) loc))=some (.ref i):=ab (bz h (by decide)) (by decide)
   have ei:evI PQ cf 1000 (.of (.drop (.var 203) 1)) (upd 212 (.ref j) (aU (d9 [212] [.mk [215] (.of (.drop (.var 203) 1)) []]) loc)) T=some (.live T.length,T++[.list ((nl.drop 1).map .ref)]):=
    fW (FI (ag h203) ((De g).trans (by rw[List.map_drop]))) (bb aw)
   obtain⟨acc0,G0,hT,_⟩:=id A
   have lT:S1.length < T.length:=by rw[hT,List.length_append,List.length_append];show S1.length < S1.length + 1 + _;omega
   obtain⟨T',e',A',g',g0'⟩:=kq (f:=ot cf [215] [] (uB cf (.list [.var 212,.var 215]) S1.length) [] (upd 212 (.ref j) (aU (d9 [212] [.mk [215] (.of (.drop (.var 203) 1)) []]) loc))) (l:=(nl.drop 1).map .ref) (S:=T++[.list ((nl.drop 1).map .ref)])
    (Inv:=fun m T'=>nf S1 (3 * k + m) T'∧(∀x o,x≠S1.length→T[x]?=some o→T'[x]?=some o)∧T'[T.length]?=some (.list ((nl.drop 1).map .ref))) (fun _ _ I=>I.2.2) (by rw[List.length_map,List.length_drop];omega)
    (fun m v T2 hv I=>by
     obtain⟨A2,k2,g2⟩:=I
     obtain⟨j2,gj2,rfl⟩:=gM hv
     have hm:m < 3:=by have:=ae gj2;rw[List.length_drop] at this;omega
     obtain⟨c,pc,nc⟩:=hn1 j2 (List.mem_of_mem_drop (List.mem_of_getElem? gj2))
     obtain⟨T3,e3,A3,keep⟩:=rH (js:=[j,j2]) (R:=[[a],[c]]) A2 (by omega) rfl (F6 pa pc) (zl na nc).1 (zl na nc).2
     exact⟨T3,to c5 ((av (r_list (az (ag (ab aq (by decide))) (az (ag aq) aF)))).trans e3),A3,fun x o ne gx=>keep _ _ ne (k2 x o ne gx),keep _ _ (by omega) g2⟩)
    ⟨A.app,fun x o _ gx=>af gx,aw⟩
   obtain⟨acc,G,r1,r2,r3⟩:=A'
   exact⟨T',to c5 (FZ ei e'),⟨acc,G,r1,by rw[List.length_map,List.length_drop] at r2;omega,r3⟩,g' _ _ (by omega) g,g' _ _ (by omega) g0⟩)
  ⟨⟨[],[],by rw[List.append_nil],Nat.le_refl _,fun v q=>(nomatch q)⟩,af hi1,af gt1⟩
 obtain⟨⟨acc,G,r1,r2,r3⟩,_⟩:=A
 rw[←hS1,←l1]
 exact⟨T,zk e0 e,acc,G,r1,by rw[List.length_map,List.length_take] at r2;omega,r3⟩
noncomputable def kt(S:aa)(v:AV):Prop:=∃(p:Nat) (js:List Nat) (R:List (List Nat)),v=.ref p∧fg S p R js∧cc R∧vW R
theorem kt.app(h:kt S v):kt (S++G) v:=let⟨p,js,R,e,r,o⟩:=h;⟨p,js,R,e,r.app,o⟩
theorem kr.at{v:AV}(h:kr S1 T v)(le:∃o G,T=(S1++[o])++G):kt T v:=by
 obtain⟨p,js,R,e,lt,g,len,part,r⟩:=h
 obtain⟨o,G,rfl⟩:=le
 exact⟨p,js,R,e,⟨g,len,fun k j pt a b=>af (af (part k j pt a b))⟩,r⟩
noncomputable abbrev tu:List IS:=[.assign (.name 203) (.list [.list [.str 32],.list [.str 17],.list [.str 57]]),.assign (.name 118) (.bin .add (.comp (.list [.var 212]) [.mk [212] (.of (.var 203)) []]) (.comp (.list [.var 212,.var 215]) [.mk [212] (.of (.take (.var 203) 2)) [],.mk [215] (.of (.drop (.var 203) 1)) []]))]
theorem zm:∃x c G cs,cC PQ cf 1000 tu loc S=some (.next (upd 118 (.ref c) (upd 203 x loc)),S++G)∧(S++G)[c]?=some (.list cs)∧cs.length≤9∧∀v∈cs,kt (S++G) v:=by
 have st1:=bl (cf:=cf) (x:=203) (loc:=loc) (S:=S) (r_list (az (r_list (az (iR (c:=32)) aF)) (az (r_list (az (iR (c:=17)) aF)) (az (r_list (az (iR (c:=57)) aF)) aF))))
 obtain⟨S3,hS3⟩:∃S3,S3=((S++[AO.list [.str 32]])++[AO.list [.str 17]])++[AO.list [.str 57]]:=⟨_,rfl⟩
 obtain⟨nl,hnl⟩:∃nl,nl=[S.length,(S++[AO.list [.str 32]]).length,((S++[AO.list [.str 32]])++[AO.list [.str 17]]).length]:=⟨_,rfl⟩
 obtain⟨S4,hS4⟩:∃S4,S4=S3++[AO.list (nl.map .ref)]:=⟨_,rfl⟩
 have st1:evS PQ cf 1000 (.assign (.name 203) (.list [.list [.str 32],.list [.str 17],.list [.str 57]])) loc S=some (.next (upd 203 (.ref S3.length) loc),S4):=by rw[hS4,hnl,hS3];exact st1
 have g4:S4[S3.length]?=some (.list (nl.map .ref)):=by rw[hS4];exact aw
 have hn4:∀j∈nl,ip S4 j:=fun j hj=>by
  rw[hnl] at hj
  rw[hS4,hS3]
  rcases List.mem_cons.mp hj with rfl | hj
  ·exact⟨32,af (af (af aw)),by kernel_rfl⟩
  rcases List.mem_cons.mp hj with rfl | hj
  ·exact⟨17,af (af aw),by kernel_rfl⟩
  rw[List.mem_singleton] at hj;subst hj
  exact⟨57,af aw,by kernel_rfl⟩
 have few:nl.length≤3:=by rw[hnl];exact Nat.le_refl _
 obtain⟨T1,e1,A1⟩:=F7 (cf:=cf) (loc:=upd 203 (.ref S3.length) loc) aq g4 hn4 few
 obtain⟨acc1,G1,h1,l1,c1⟩:=A1
 have g4':T1[S3.length]?=some (.list (nl.map .ref)):=by rw[h1];exact af (af g4)
 have hn4':∀j∈nl,ip T1 j:=fun j hj=>by rw[h1];exact((hn4 j hj).app).app
 obtain⟨T2,e2,A2⟩:=F8 (cf:=cf) (loc:=upd 203 (.ref S3.length) loc) aq g4' hn4' few
 obtain⟨acc2,G2,h2,l2,c2⟩:=A2
 have lst:(T1++[AO.list ((nl.take 2).map .ref)]).length=T1.length + 1:=by simp
 have ga2:T2[T1.length + 1]?=some (.list acc2):=by rw[h2,←lst];exact af aw
 have ga1:T2[S4.length]?=some (.list acc1):=by
  rw[h2,h1];exact af (af (af (af aw)))
 have ad:=kg ga1 ga2 (by have L:lim=1000:=rfl;rw[List.length_append];omega)
 have st2:=bl (cf:=cf) (x:=118) (cM e1 e2 ad)
 have hall:T2++[AO.list (acc1++acc2)]=S++([AO.list [.str 32]]++[AO.list [.str 17]]++[AO.list [.str 57]]++[AO.list (nl.map .ref)]++[AO.list acc1]++G1++[AO.list ((nl.take 2).map .ref)]++[AO.list acc2]++G2++[AO.list (acc1++acc2)]):=by
  rw[h2,h1,hS4,hS3];simp only[List.append_assoc]
 refine⟨.ref S3.length,T2.length,([AO.list [.str 32]]++[AO.list [.str 17]]++[AO.list [.str 57]]++[AO.list (nl.map .ref)]++[AO.list acc1]++G1++[AO.list ((nl.take 2).map .ref)]++[AO.list acc2]++G2++[AO.list (acc1++acc2)]),acc1++acc2,?_,?_,by rw[List.length_append];omega,fun v hv=>?_⟩
 ·rw[←hall];exact aK st1 (aK st2 b6)
 ·rw[←hall];exact aw
 ·rw[←hall]
  rcases List.mem_append.mp hv with hv | hv
  ·have:=(c1 v hv).at ⟨_,_,h1⟩
   rw[h2,List.append_assoc,List.append_assoc]
   exact((this.app).app).app |> fun q=>by simpa only[List.append_assoc] using q
  ·exact((c2 v hv).at ⟨_,_,h2⟩).app
end Mine
end
section
namespace Mine
variable {cf:CF} {loc loc1 loc' loc2:Loc} {S S1 S2 S3 T G:aa} {v u a b k:AV} {vs:List AV} {e e1 e2 t:IE} {l:List AV} {d:Nat}
variable {P:HS} {q rr sp hd tt dd:Nat} {rs ps hs:List Nat} {rows:List Rw} {w:Int} {ns:List Int}
theorem Ans.app{F:List Nat}(h:Ans S rows F v):Ans (S++G) rows F v:=h.elim .inl fun⟨f,r,e,g⟩=>.inr ⟨f,r,e,af g⟩
theorem F9{F:List Nat}{v1 v2:AV}(hF:F.length < 38)(A:Ans S rows F v1)(B:Ans S rows F v2):iE PQ.eqt .ne v1 v2 S=some (.bool false,S):=by
 rcases A with⟨k,fk,rfl⟩ | ⟨fn,r,rfl,g⟩
 ·rcases B with⟨k',fk',rfl⟩ | ⟨fn',_⟩
  ·have:k=k':=Option.some.inj (fk.symm.trans fk')
   subst this
   have:=jg (S:=S) (x:=k) (y:=k)
   rw[beq_self_eq_true] at this
   exact this
  ·rw[fn'] at fk;cases fk
 ·rcases B with⟨k',fk',rfl⟩ | ⟨_,r',rfl,g'⟩
  ·rw[fn] at fk';cases fk'
  ·exact Ce hF g g'
theorem TI.tab(I:TI S P q rr sp hd tt dd rs ps hs rows w):fi S tt dd hs rows w:=by
 refine⟨I.mod.at_ _ _ _ I.tb,?_,I.lh,fun k i R a b=>?_,I.ok,?_,I.few⟩
 ·rcases I.di with⟨h0,d1,_⟩ | ⟨rl,d1,d2⟩
  ·refine .inl ⟨List.eq_nil_of_length_eq_zero ?_,I.mod.at_ _ _ _ d1⟩
   rw[←I.lh,h0];rfl
  ·exact .inr ⟨rl,I.mod.at_ _ _ _ d1,I.mod.at_ _ _ _ d2⟩
 ·obtain⟨n,x,g⟩:=I.ins k i R a b
  exact⟨n,x,I.mod.at_ _ _ _ g⟩
 ·refine List.pairwise_iff_getElem.mpr fun i j hi hj lt e=>?_
  obtain⟨R1,r1⟩:=bt (l:=rows) (I.lh▸hi)
  obtain⟨R2,r2⟩:=bt (l:=rows) (I.lh▸hj)
  obtain⟨n1,x1,g1⟩:=I.ins i _ R1 (List.getElem?_eq_getElem hi) r1
  obtain⟨n2,x2,g2⟩:=I.ins j _ R2 (List.getElem?_eq_getElem hj) r2
  rw[e] at g1
  have:=I.mod.inj _ _ _ _ _ g1 g2
  exact absurd (Lab.ins.inj this) (Nat.ne_of_lt lt)
theorem TI.spans(I:TI S P q rr sp hd tt dd rs ps hs rows w):im S rr sp rs ps rows:=
 ⟨I.mod.at_ _ _ _ I.rr,I.mod.at_ _ _ _ I.sp,I.lr,I.lp,fun k r R a b=>let⟨js,h⟩:=I.row k r R a b;⟨js,h.row I.mod⟩,fun k p R a b=>I.mod.at_ _ _ _ (I.span k p R a b),I.ok,I.few⟩
structure Chk(S:aa)(rr sp hd tt dd c:Nat)(rs ps hs:List Nat)(rows:List Rw)(w:Int)(cs:List AV):Prop where
 tab:fi S tt dd hs rows w
 span:im S rr sp rs ps rows
 hd:S[hd]?=some (.list (hs.map .ref))
 cl:S[c]?=some (.list cs)
 few:cs.length≤9
 call:∀v∈cs,kt S v
variable {c:Nat} {cs:List AV}
theorem Chk.app(h:Chk S rr sp hd tt dd c rs ps hs rows w cs):Chk (S++G) rr sp hd tt dd c rs ps hs rows w cs:=⟨h.tab.app,h.span.app,af h.hd,af h.cl,h.few,fun v q=>(h.call v q).app⟩
noncomputable abbrev iD:List IS:=[.ite (.val (.cmp .ne (.call 90 [.var 262,.var 149,.var 117,.var 295]) (.call 89 [.var 231,.var 246,.var 117,.var 295]))) [.bad] []]
theorem zn{w':Int}(h:Chk S rr sp hd tt dd c rs ps hs rows w cs)(L:LV ns q rr sp hd tt loc)(h5:get? 295 loc=some (.int w'))(h7:get? 117 loc=some v)(hv:v∈cs):∃G,cC PQ (cfd (d + 5)) 1000 iD loc S=some (.next loc,S++G):=by
 obtain⟨p,js,R,rfl,ra,ok,one⟩:=h.call v hv
 obtain⟨v1,G1,e1,A1⟩:=Cg (d:=d) (w':=w') h.tab h.hd ra ok one
 obtain⟨v2,G2,e2,A2⟩:=FU (d:=d + 2) (w':=w') (h.span.app (G:=G1)) ra.app ok
 rw[Ci h.span.ok ok] at A2
 have fF:(ji rows (R.map kx) w' 131).length < 38:=Nat.lt_of_le_of_lt (mH h.span.few) (by decide)
 have cm:=F9 fF (A1.app (G:=G2)) A2
 refine⟨G1++G2,?_⟩
 rw[←List.append_assoc]
 exact aK (cN (bI (b9 (bO (az (ag L.t) (az (ag L.hd) (az (ag h7) (az (ag h5) aF)))) e1) (bO (az (ag L.rr) (az (ag L.sp) (az (ag h7) (az (ag h5) aF)))) e2) cm)) b6) b6
theorem zo{w':Int}(h:Chk S rr sp hd tt dd c rs ps hs rows w cs)(L:LV ns q rr sp hd tt loc)(h5:get? 295 loc=some (.int w'))(h8:get? 118 loc=some (.ref c)):
  ∃loc' G,evS PQ (cfd (d + 5)) 1000 (.for [117] (.of (.var 118)) iD) loc S=some (.next loc',S++G)∧LV ns q rr sp hd tt loc'∧get? 118 loc'=some (.ref c):=by
 obtain⟨loc',T,e,⟨G,rfl⟩,L',_,h8'⟩:=(jG (cf:=cfd (d + 5)) (tg:=[117]) (b:=iD) (l:=cs) (stop:=fun _=>false)
  (Inv:=fun k loc T=>(∃G,T=S++G)∧LV ns q rr sp hd tt loc∧get? 295 loc=some (.int w')∧get? 118 loc=some (.ref c))
  (Post:=fun _ _ _=>True) (fW (ag h8) (bb h.cl)) (.inr ⟨c,rfl,fun k loc T I=>by obtain⟨⟨G,rfl⟩,_⟩:=I;exact af h.cl⟩) (by have:=h.few;omega) ⟨⟨[],(List.append_nil _).symm⟩,L,h5,h8⟩
  (fun k v loc T hv I=>⟨fun z=>(nomatch z),fun _=>by
   obtain⟨⟨G,rfl⟩,L,h5,h8⟩:=I
   have h5':get? 295 (upd 117 v loc)=some (.int w'):=ab h5 (by decide)
   obtain⟨G',e'⟩:=zn (d:=d) (h.app (G:=G)) (L.upd (x:=117) (v:=v) (by decide)) h5' aq (List.mem_of_getElem? hv)
   exact⟨_,_,bL c5 e',⟨_,List.append_assoc _ _ _⟩,L.upd (by decide),h5',ab h8 (by decide)⟩⟩)).all fun _ _=>rfl
 exact⟨loc',G,e,L',h8'⟩
theorem Cq(h:Chk S rr sp hd tt dd c rs ps hs rows w cs)(L:LV ns q rr sp hd tt loc)(h8:get? 118 loc=some (.ref c)):
  ∃loc' G,evS PQ (cfd (d + 5)) 1000 (.for [295] (.of (.list [.bin .fdiv (.bin .add (.int 1) (.attr (.var 262) 295)) (.int 2),.attr (.var 262) 295])) [.for [117] (.of (.var 118)) iD]) loc S=some (.next loc',S++G)∧LV ns q rr sp hd tt loc':=by
 have at5:evE PQ (cfd (d + 5)) 1000 (.attr (.var 262) 295) loc S=some (.int w,S):=bW (ag L.t) (aW (v:=.int w) h.tab.tab cO rfl)
 have ei:=fW (r_list (az (cM (cM (bk (cf:=cfd (d + 5)) (i:=1)) at5 fq) (bk (i:=2)) (mK (by decide) (by decide))) (az at5 aF))) (bb aw)
 obtain⟨loc',T,e,⟨G,rfl⟩,L',_⟩:=(jG (cf:=cfd (d + 5)) (tg:=[295]) (b:=[.for [117] (.of (.var 118)) iD]) (stop:=fun _=>false)
  (Inv:=fun k loc T=>(∃G,T=(S++[.list [.int (Int.fdiv (1 + w) 2),.int w]])++G)∧LV ns q rr sp hd tt loc∧get? 118 loc=some (.ref c))
  (Post:=fun _ _ _=>True) ei (.inr ⟨_,rfl,fun k loc T I=>by obtain⟨⟨G,rfl⟩,_⟩:=I;exact af aw⟩) (by simp) ⟨⟨[],(List.append_nil _).symm⟩,L,h8⟩
  (fun k v loc T hv I=>⟨fun z=>(nomatch z),fun _=>by
   obtain⟨⟨G,rfl⟩,L,h8⟩:=I
   have vi:∃w',v=.int w':=by
    match k,hv with
    | 0,hv=>cases hv;exact⟨_,rfl⟩
    | 1,hv=>cases hv;exact⟨_,rfl⟩
   obtain⟨w',rfl⟩:=vi
   obtain⟨loc2,G2,e2,L2,h82⟩:=zo (d:=d) (w':=w') ((h.app (G:=[.list [.int (Int.fdiv (1 + w) 2),.int w]])).app (G:=G)) (L.upd (x:=295) (v:=.int w') (by decide)) aq (ab h8 (by decide))
   exact⟨_,_,bL c5 (aK e2 b6),⟨_,List.append_assoc _ _ _⟩,L2,h82⟩⟩)).all fun _ _=>rfl
 exact⟨loc',_,by rw[List.append_assoc] at e;exact e,L'⟩
theorem zr:cc [[17]]∧vW [[17]]:=tr (by kernel_rfl)
noncomputable abbrev tv:IS:=.ite (.val (.cmp .ne (.meth (.var 262) 223 [.str 141,.call 87 [.list [.list [.str 17]]],.attr (.var 262) 295]) (.list []))) [.bad] []
theorem zt(h:fi S tt dd hs rows w)(L:LV ns q rr sp hd tt loc):∃G,evS PQ (cfd (d + 5)) 1000 tv loc S=some (.next loc,S++G):=by
 have ra:fg ((S++[AO.list [.str 17]])++[AO.list [.ref S.length]]) (S++[AO.list [.str 17]]).length [[17]] [S.length]:=⟨aw,rfl,fun k j p a b=>by
  match k,a,b with
  | 0,a,b=>cases a;cases b;exact af aw⟩
 obtain⟨G0,e0⟩:=mB (d:=d + 3) ra zr.1
 obtain⟨v,G1,e1,A⟩:=kM (d:=d + 1) (c:=141) (w':=w) (((h.app (G:=[AO.list [.str 17]])).app (G:=[AO.list [.ref S.length]])).app (G:=G0)) (.inr rfl) (fh zr.1).2 (kx8 zr.2)
 have nil:ji rows ([[17]].map kx) w 141=[]:=rfl
 rw[nil] at A
 have at5:evE PQ (cfd (d + 5)) 1000 (.attr (.var 262) 295) loc (((S++[AO.list [.str 17]])++[AO.list [.ref S.length]])++G0)=some (.int w,((S++[AO.list [.str 17]])++[AO.list [.ref S.length]])++G0):=
  bW (ag L.t) (aW (v:=.int w) (af (af (af h.tab))) cO rfl)
 rcases A with⟨k,m,fk,_⟩ | ⟨_,f,ms,rfl,fa⟩
 ·cases fk
 ·have g:((((S++[AO.list [.str 17]])++[AO.list [.ref S.length]])++G0)++G1)[f]?=some (.list []):=fa.at_
  have cn:=(gB (af (G:=[AO.list []]) g) aw).2
  refine⟨[AO.list [.str 17]]++[AO.list [.ref S.length]]++G0++G1++[AO.list []],?_⟩
  have eq:S++([AO.list [.str 17]]++[AO.list [.ref S.length]]++G0++G1++[AO.list []])=((((S++[AO.list [.str 17]])++[AO.list [.ref S.length]])++G0)++G1)++[AO.list []]:=by simp only[List.append_assoc]
  rw[eq]
  exact cN (bI (b9 (b5 (ag L.t) (c4 h.tab cO rfl uw) (az (iR (c:=141)) (az (bO (az (r_list (az (r_list (az (iR (c:=17)) aF)) aF)) aF) e0) (az at5 aF))) (show d8 PQ (cfd (d + 5)) (.fn 60) (.ref tt) 223 [.str 141,aD ([[17]].map kx),.int w] _=_ from e1)) (r_list aF) cn)) b6
end Mine
end
section
namespace Mine
variable {cf:CF} {loc loc1 loc' loc2:Loc} {S S1 S2 S3 T G:aa} {v u a b k:AV} {vs:List AV} {e e1 e2 t:IE} {l:List AV} {d:Nat}
variable {P:HS} {q rr sp hd tt dd:Nat} {rs ps hs:List Nat} {rows:List Rw} {w:Int} {ns:List Int}
noncomputable abbrev zu:IS:=.for [273] (.rng (.call 82 [.var 237,.int 5])) (mR++(uA++mW))
noncomputable abbrev Df:IS:=.for [295] (.of (.list [.bin .fdiv (.bin .add (.int 1) (.attr (.var 262) 295)) (.int 2),.attr (.var 262) 295])) [.for [117] (.of (.var 118)) iD]
theorem vX{n:Nat}(hn:n < 2)(h1:get? 235 loc=some (.lst (ns.map .int)))(h2:get? 173 loc=some KK)(h3:get? 170 loc=some (.int (Int.ofNat n))):
  ∃loc' S',cC PQ (cfd (d + 5)) 1000 (zj++([zu]++(tu++[Df,tv]))) loc S=some (.next loc',S')∧get? 235 loc'=some (.lst (ns.map .int))∧get? 173 loc'=some KK:=by
 obtain⟨loc1,S1,P1,q,rr,sp,hd,tt,dd,e1,I1,L1⟩:=IR (d:=d + 3) (S:=S) hn h1 h2 h3
 obtain⟨loc2,S2,P2,rs,ps,hs,rows,w,e2,I2,L2⟩:=IQ (d:=d + 3) I1 L1
 obtain⟨x,c,G,cs,e3,gc,few,call⟩:=zm (cf:=cfd (d + 5)) (loc:=loc2) (S:=S2)
 have L3:LV ns q rr sp hd tt (upd 118 (.ref c) (upd 203 x loc2)):=(L2.upd (by decide)).upd (by decide)
 have I3:=I2.app (G:=G)
 obtain⟨loc4,G4,e4,L4⟩:=Cq (d:=d) (c:=c) (cs:=cs) ⟨I3.tab,I3.spans,I3.mod.at_ _ _ _ I3.hd,gc,few,call⟩ L3 aq
 obtain⟨G5,e5⟩:=zt (d:=d) (I3.tab.app (G:=G4)) L4
 exact⟨loc4,_,mU e1 (mU (aK e2 b6) (mU e3 (aK e4 (aK e5 b6)))),L4.ns,L4.kk⟩
theorem Ly{x y:Int}:bi2 .min x y S=some (.int (if y < x then y else x),S):=by
 show bA (if y < x then y else x) (fun i=>some (AV.int i,S))=_
 rw[aO]
theorem Lz{x y:Int}:bi2 .max x y S=some (.int (if x < y then y else x),S):=by
 show bA (if x < y then y else x) (fun i=>some (AV.int i,S))=_
 rw[aO]
theorem Cr(n:Nat):∃m:Nat,m≤2∧(if(1:Int) < (if(2:Int) < (n:Int) then 2 else(n:Int)) then(if(2:Int) < (n:Int) then 2 else(n:Int)) else 1)=(m:Int):=by
 by_cases h:(2:Int) < n
 ·exact⟨2,Nat.le_refl _,by rw[if_pos h];rfl⟩
 ·rw[if_neg h]
  by_cases h1:(1:Int) < n
  ·exact⟨n,by omega,if_pos h1⟩
  ·exact⟨1,by omega,if_neg h1⟩
theorem zv(ns:List Int):∃S',cC PQ cfL 1000 (f91.body.drop 1) (x8 ns) []=some (.ret (.bool true),S'):=by
 obtain⟨m,hm,eq⟩:=Cr ns.length
 have len:biV .len [.lst (ns.map .int)] []=some (.int ns.length,[]):=by
  show(bA ((ns.map AV.int).length:Nat) fun i=>some (AV.int i,([]:aa)))=_
  rw[aO,List.length_map]
 have em:evE PQ (cfd 22) 1000 (.bi .max [.int 1,.bi .min [.bi .len [.var 235],.int 2]]) (x8 ns) []=some (.int m,[]):=
  iK (az bk (az (iK (az (iK (az (ag rfl) aF) len) (az bk aF)) Ly) aF)) (Lz.trans (by rw[eq]))
 have hi:=n9 em (Int.natCast_nonneg _) (by omega)
 rw[show((m:Int)).toNat=m from rfl] at hi
 obtain⟨loc',T,e,_⟩:=(jG (cf:=cfd 22) (tg:=[170]) (b:=zj++([zu]++(tu++[Df,tv]))) (l:=aX (List.range m)) (stop:=fun _=>false)
  (Inv:=fun k loc T=>get? 235 loc=some (.lst (ns.map .int))∧get? 173 loc=some KK)
  (Post:=fun _ _ _=>True) hi (.inl rfl) (by rw[List.length_map,List.length_range];omega) ⟨rfl,rfl⟩
  (fun k v loc T hv I=>⟨fun z=>(nomatch z),fun _=>by
   have hk:k < m:=by have:=ae hv;rwa [List.length_map,List.length_range] at this
   have ev:v=.int (Int.ofNat k):=by
    rw[List.getElem?_map,List.getElem?_range hk] at hv
    exact(Option.some.inj hv).symm
   subst ev
   obtain⟨loc',S',e',r⟩:=vX (d:=17) (n:=k) (S:=T) (loc:=upd 170 (.int (Int.ofNat k)) loc) (by omega) (ab I.1 (by decide)) (ab I.2 (by decide)) aq
   exact⟨_,_,bL c5 e',r⟩⟩)).all fun _ _=>rfl
 exact⟨T,aK e (d7 (dC yG))⟩
theorem LA:Bn:=BD FF zv
theorem answer:PySem.Challenge.rw_pq0714_01.Holds:=xB LA
end Mine
end
theorem PySem.Challenge.cw_pq0714_01_holds : PySem.Challenge.rw_pq0714_01.Holds :=
 Mine.answer
